import PyProof.Rows.All
import Wide.All
import OpenK.AllK
import Wide.FinOn
import HandS.ForMost
import HandS.ForExc
import HandS.Defaults
import HandS.Head0
import HandS.Head1
import HandS.Head2
import HandS.HeadEnd
import HandS.HeadHook1
import HandS.HeadHook2
import HandS.Codes
import HandS.Set
import HandS.SetFor
import HandS.TupSets
import HandS.SetBool
import HandS.ClsMeth
import HandS.Wide
import HandS.Deep
import HandS.Style
import HandS.SortInts
import HandS.SortRule
import HandS.IsInst
import HandS.MakeKw
import HandS.MakeKwOnly
import HandS.More
import HandS.Conv
import HandS.Zip
import HandS.TupAny
import HandS.RaiseMore
import HandS.Star
import HandS.Dict
import HandS.DictComp
import HandS.Flow
import HandS.Small
import KE.SortData
import HandS.TryOnly
import HandS.Exc
import HandS.ExcInit
import HandS.ExcIs
import HandS.ExcField
import HandS.FStr
import KE.KIsAll
import KE.KTryMore
import PyProof.Rows.Chain
import PyProof.Rows.TupMore
import HandS.List
import PyProof.ReprRoads
import PySem.Challenge.RW_oddposts_k11_kinds
set_option Elab.async false
set_option linter.all false
set_option maxRecDepth 100000
set_option maxHeartbeats 2000000
/-! Z1: data, what stands for it on the heap, states of a def's body. -/
namespace Z
open PySem PySem.Spec PyProof.Rows L2

/-- a value, whole -/
inductive D where
  | non | bl (b : Bool) | int (i : Int) | str (x : Str)
  | lst (ds : List D) | tup (ds : List D)
  | dic (ks : List Key) (ds : List D)
  | obj (C : Str) (fs : List Str) (ds : List D)
  | fls (ds : List D)
/-- a value of one's own: its nodes may be changed -/
inductive O where
  | sh (d : D)
  | lst (os : List O) | tup (os : List O)
  | dic (ks : List Key) (os : List O)
  | obj (C : Str) (fs : List Str) (os : List O)
/-- a slot -/
inductive Sl where
  | no | pl (d : D) | ow (o : O)

mutual
def fr : O → D
  | .sh d => d
  | .lst os => .lst (frL os)
  | .tup os => .tup (frL os)
  | .dic ks os => .dic ks (frL os)
  | .obj C fs os => .obj C fs (frL os)
def frL : List O → List D
  | [] => []
  | o :: os => fr o :: frL os
end
/-- where the classes stand -/
structure Ev where
  K : PySem.W.Frag
  ca : Str → Addr

def dk : HO → Bool
  | .dK _ => true
  | _ => false
/-- what G knows stands in H (a dict may be locked) -/
def Ex (G H : Hp) : Prop := ∀ a o, G a = some o → H a = some o ∨ (dk o = true ∧ ∃ ob, H a = some (.frz ob o))
theorem Ex.refl (G : Hp) : Ex G G := fun _ _ h => .inl h
theorem Ex.trans {G H H' : Hp} (a : Ex G H) (b : Ex H H') : Ex G H' := fun x o h => by
  rcases a x o h with h1 | ⟨k, ob, h1⟩
  · exact b x o h1
  · rcases b x _ h1 with h2 | ⟨k2, _⟩
    · exact .inr ⟨k, ob, h2⟩
    · cases k2
theorem Ex.of {G H : Hp} (h : ∀ a o, G a = some o → H a = some o) : Ex G H := fun a o e => .inl (h a o e)
theorem Ex.some {G H : Hp} (e : Ex G H) {a : Addr} {o : HO} (h : G a = .some o) : H a ≠ none := by
  rcases e a o h with h1 | ⟨_, _, h1⟩ <;> rw [h1] <;> exact fun z => nomatch z
theorem Ex.new {H : Hp} {p : Addr} {o : HO} (h : H p = none) : Ex H (upd H p o) := fun a u e => .inl (by
  rw [upd_ne (ne_of_none e h)]
  exact e)
theorem Ex.mut {G H : Hp} {p : Addr} {o : HO} (e : Ex G H) (h : G p = none) : Ex G (upd H p o) := fun a u ha => by
  rw [upd_ne (ne_of_none ha h)]
  exact e a u ha
theorem Ex.hard {G H : Hp} (e : Ex G H) {a : Addr} {o : HO} (h : G a = .some o) (n : dk o = false) : H a = .some o := by
  rcases e a o h with h1 | ⟨k, _⟩
  · exact h1
  · rw [n] at k; cases k
theorem Ex.rd {G H : Hp} (e : Ex G H) {a : Addr} {o : HO} (h : Rd G a o) : Rd H a o := by
  rcases h with h | ⟨ob, h⟩
  · rcases e a o h with h1 | ⟨_, ob, h1⟩
    · exact .inl h1
    · exact .inr ⟨ob, h1⟩
  · exact .inr ⟨ob, e.hard h rfl⟩
theorem Ex.seql {K : PySem.W.Frag} {G H : Hp} (e : Ex G H) {a : Addr} {xs : List V} (h : SqL K G a xs) : SqL K H a xs := by
  rcases h with h | h
  · exact .inl (e.rd h)
  · exact .inr h
theorem Ex.seqt {K : PySem.W.Frag} {G H : Hp} (e : Ex G H) {a : Addr} {xs : List V} (h : SqT K G a xs) : SqT K H a xs := by
  rcases h with h | h
  · exact .inl (e.rd h)
  · exact .inr h

def noInt : List D → Bool
  | [] => true
  | .str _ :: ds => noInt ds
  | _ :: _ => false
/-- a tuple, or one of the text's own: of strings -/
def TupAt (K : PySem.W.Frag) (H : Hp) (ds : List D) (a : Addr) (xs : List V) : Prop := H a = some (.tup xs) ∨ (noInt ds = true ∧ SqT K H a xs)
theorem TupAt.sq {K : PySem.W.Frag} {H : Hp} {ds : List D} {a : Addr} {xs : List V} (h : TupAt K H ds a xs) : SqT K H a xs := by
  rcases h with h | h
  · exact SqT.of h
  · exact h.2
theorem Ex.tup {K : PySem.W.Frag} {G H : Hp} (e : Ex G H) {ds : List D} {a : Addr} {xs : List V} (h : TupAt K G ds a xs) : TupAt K H ds a xs := by
  rcases h with h | h
  · exact .inl (e.hard h rfl)
  · exact .inr ⟨h.1, e.seqt h.2⟩
mutual
/-- v stands for d in H -/
def Rs (E : Ev) (H : Hp) : D → V → Prop
  | .non, v => v = .non
  | .bl b, v => v = .bl b
  | .int i, v => v = .int i
  | .str x, v => v = .str x
  | .lst ds, v => ∃ a xs, v = .ref a ∧ H a = some (.lst xs) ∧ RsL E H ds xs
  | .tup ds, v => ∃ a xs, v = .ref a ∧ TupAt E.K H ds a xs ∧ RsL E H ds xs
  | .dic ks ds, v => ∃ a kvs, v = .ref a ∧ Rd H a (.dK kvs) ∧ kvs.map (·.1) = ks ∧ RsL E H ds (kvs.map (·.2))
  | .obj C fs ds, v => ∃ a dx fv, v = .ref a ∧ H a = some (.ins (E.ca C) dx fv) ∧ fv.map (·.1) = fs ∧ RsL E H ds (fv.map (·.2))
  | .fls ds, v => ∃ a xs, v = .ref a ∧ SqL E.K H a xs ∧ RsL E H ds xs
def RsL (E : Ev) (H : Hp) : List D → List V → Prop
  | [], vs => vs = []
  | d :: ds, vs => ∃ v r, vs = v :: r ∧ Rs E H d v ∧ RsL E H ds r
end
mutual
/-- v stands for o in H: its own nodes are at A, all else in G -/
def Ro (E : Ev) (G H : Hp) : O → V → List Addr → Prop
  | .sh d, v, A => A = [] ∧ Rs E G d v
  | .lst os, v, A => ∃ a xs B, v = .ref a ∧ A = a :: B ∧ H a = some (.lst xs) ∧ RoL E G H os xs B
  | .tup os, v, A => ∃ a xs B, v = .ref a ∧ A = a :: B ∧ H a = some (.tup xs) ∧ RoL E G H os xs B
  | .dic ks os, v, A => ∃ a kvs B, v = .ref a ∧ A = a :: B ∧ H a = some (.dK kvs) ∧ kvs.map (·.1) = ks ∧ RoL E G H os (kvs.map (·.2)) B
  | .obj C fs os, v, A => ∃ a dx fv B, v = .ref a ∧ A = a :: B ∧ H a = some (.ins (E.ca C) dx fv) ∧ fv.map (·.1) = fs ∧ RoL E G H os (fv.map (·.2)) B
def RoL (E : Ev) (G H : Hp) : List O → List V → List Addr → Prop
  | [], vs, A => vs = [] ∧ A = []
  | o :: os, vs, A => ∃ v r A1 A2, vs = v :: r ∧ A = A1 ++ A2 ∧ Ro E G H o v A1 ∧ RoL E G H os r A2
end

section
variable {E : Ev} {G G' H H' : Hp}
mutual
theorem Rs.mono (e : Ex H H') : ∀ {d : D} {v : V}, Rs E H d v → Rs E H' d v
  | .non, _, h => h
  | .bl _, _, h => h
  | .int _, _, h => h
  | .str _, _, h => h
  | .lst ds, v, h => by
    unfold Rs at h ⊢
    obtain ⟨a, xs, h1, h2, h3⟩ := h
    exact ⟨a, xs, h1, e.hard h2 rfl, RsL.mono e h3⟩
  | .tup ds, v, h => by
    unfold Rs at h ⊢
    obtain ⟨a, xs, h1, h2, h3⟩ := h
    exact ⟨a, xs, h1, e.tup h2, RsL.mono e h3⟩
  | .dic ks ds, v, h => by
    unfold Rs at h ⊢
    obtain ⟨a, xs, h1, h2, h3, h4⟩ := h
    exact ⟨a, xs, h1, e.rd h2, h3, RsL.mono e h4⟩
  | .obj C fs ds, v, h => by
    unfold Rs at h ⊢
    obtain ⟨a, dx, fv, h1, h2, h3, h4⟩ := h
    exact ⟨a, dx, fv, h1, e.hard h2 rfl, h3, RsL.mono e h4⟩
  | .fls ds, v, h => by
    unfold Rs at h ⊢
    obtain ⟨a, xs, h1, h2, h3⟩ := h
    exact ⟨a, xs, h1, e.seql h2, RsL.mono e h3⟩
theorem RsL.mono (e : Ex H H') : ∀ {ds : List D} {vs : List V}, RsL E H ds vs → RsL E H' ds vs
  | [], _, h => h
  | d :: ds, vs, h => by
    unfold RsL at h ⊢
    obtain ⟨v, r, h1, h2, h3⟩ := h
    exact ⟨v, r, h1, Rs.mono e h2, RsL.mono e h3⟩
end
mutual
/-- G grows; the own nodes stay -/
theorem Ro.keep (e : Ex G G') : ∀ {o : O} {v : V} {A : List Addr}, Ro E G H o v A → (∀ a ∈ A, ∀ u, H a = some u → H' a = some u) → Ro E G' H' o v A
  | .sh d, v, A, h, k => by
    unfold Ro at h ⊢
    exact ⟨h.1, Rs.mono e h.2⟩
  | .lst os, v, A, h, k => by
    unfold Ro at h ⊢
    obtain ⟨a, xs, B, h1, rfl, h3, h4⟩ := h
    exact ⟨a, xs, B, h1, rfl, k a List.mem_cons_self _ h3, RoL.keep e h4 fun b hb => k b (List.mem_cons_of_mem _ hb)⟩
  | .tup os, v, A, h, k => by
    unfold Ro at h ⊢
    obtain ⟨a, xs, B, h1, rfl, h3, h4⟩ := h
    exact ⟨a, xs, B, h1, rfl, k a List.mem_cons_self _ h3, RoL.keep e h4 fun b hb => k b (List.mem_cons_of_mem _ hb)⟩
  | .dic ks os, v, A, h, k => by
    unfold Ro at h ⊢
    obtain ⟨a, kvs, B, h1, rfl, h3, h5, h4⟩ := h
    exact ⟨a, kvs, B, h1, rfl, k a List.mem_cons_self _ h3, h5, RoL.keep e h4 fun b hb => k b (List.mem_cons_of_mem _ hb)⟩
  | .obj C fs os, v, A, h, k => by
    unfold Ro at h ⊢
    obtain ⟨a, dx, fv, B, h1, rfl, h3, h5, h4⟩ := h
    exact ⟨a, dx, fv, B, h1, rfl, k a List.mem_cons_self _ h3, h5, RoL.keep e h4 fun b hb => k b (List.mem_cons_of_mem _ hb)⟩
theorem RoL.keep (e : Ex G G') : ∀ {os : List O} {vs : List V} {A : List Addr}, RoL E G H os vs A → (∀ a ∈ A, ∀ u, H a = some u → H' a = some u) → RoL E G' H' os vs A
  | [], vs, A, h, k => h
  | o :: os, vs, A, h, k => by
    unfold RoL at h ⊢
    obtain ⟨v, r, A1, A2, h1, rfl, h3, h4⟩ := h
    exact ⟨v, r, A1, A2, h1, rfl, Ro.keep e h3 fun a ha => k a (List.mem_append_left _ ha), RoL.keep e h4 fun a ha => k a (List.mem_append_right _ ha)⟩
end
mutual
/-- an own thing seen: in any heap that has G and the own nodes -/
theorem Ro.see (e : Ex G H') : ∀ {o : O} {v : V} {A : List Addr}, Ro E G H o v A → (∀ a ∈ A, ∀ u, H a = some u → H' a = some u) → Rs E H' (fr o) v
  | .sh d, v, A, h, k => by
    unfold Ro at h
    exact Rs.mono e h.2
  | .lst os, v, A, h, k => by
    unfold Ro at h
    obtain ⟨a, xs, B, h1, rfl, h3, h4⟩ := h
    unfold fr Rs
    exact ⟨a, xs, h1, k a List.mem_cons_self _ h3, RoL.see e h4 (fun b hb => k b (List.mem_cons_of_mem _ hb))⟩
  | .tup os, v, A, h, k => by
    unfold Ro at h
    obtain ⟨a, xs, B, h1, rfl, h3, h4⟩ := h
    unfold fr Rs
    exact ⟨a, xs, h1, .inl (k a List.mem_cons_self _ h3), RoL.see e h4 (fun b hb => k b (List.mem_cons_of_mem _ hb))⟩
  | .dic ks os, v, A, h, k => by
    unfold Ro at h
    obtain ⟨a, kvs, B, h1, rfl, h3, h5, h4⟩ := h
    unfold fr Rs
    exact ⟨a, kvs, h1, .inl (k a List.mem_cons_self _ h3), h5, RoL.see e h4 (fun b hb => k b (List.mem_cons_of_mem _ hb))⟩
  | .obj C fs os, v, A, h, k => by
    unfold Ro at h
    obtain ⟨a, dx, fv, B, h1, rfl, h3, h5, h4⟩ := h
    unfold fr Rs
    exact ⟨a, dx, fv, h1, k a List.mem_cons_self _ h3, h5, RoL.see e h4 (fun b hb => k b (List.mem_cons_of_mem _ hb))⟩
theorem RoL.see (e : Ex G H') : ∀ {os : List O} {vs : List V} {A : List Addr}, RoL E G H os vs A → (∀ a ∈ A, ∀ u, H a = some u → H' a = some u) → RsL E H' (frL os) vs
  | [], vs, A, h, k => by
    unfold RoL at h
    unfold frL RsL
    exact h.1
  | o :: os, vs, A, h, k => by
    unfold RoL at h
    obtain ⟨v, r, A1, A2, h1, rfl, h3, h4⟩ := h
    unfold frL RsL
    exact ⟨v, r, h1, Ro.see e h3 (fun a ha => k a (List.mem_append_left _ ha)), RoL.see e h4 (fun a ha => k a (List.mem_append_right _ ha))⟩
end
mutual
/-- the own nodes are there -/
theorem Ro.there : ∀ {o : O} {v : V} {A : List Addr}, Ro E G H o v A → ∀ a ∈ A, H a ≠ none
  | .sh d, v, A, h, a, ha => by
    unfold Ro at h
    rw [h.1] at ha
    cases ha
  | .lst os, v, A, h, b, hb => by
    unfold Ro at h
    obtain ⟨a, xs, B, h1, rfl, h3, h4⟩ := h
    rcases List.mem_cons.mp hb with rfl | hb
    · rw [h3]; exact fun z => nomatch z
    · exact RoL.there h4 b hb
  | .tup os, v, A, h, b, hb => by
    unfold Ro at h
    obtain ⟨a, xs, B, h1, rfl, h3, h4⟩ := h
    rcases List.mem_cons.mp hb with rfl | hb
    · rw [h3]; exact fun z => nomatch z
    · exact RoL.there h4 b hb
  | .dic ks os, v, A, h, b, hb => by
    unfold Ro at h
    obtain ⟨a, kvs, B, h1, rfl, h3, h5, h4⟩ := h
    rcases List.mem_cons.mp hb with rfl | hb
    · rw [h3]; exact fun z => nomatch z
    · exact RoL.there h4 b hb
  | .obj C fs os, v, A, h, b, hb => by
    unfold Ro at h
    obtain ⟨a, dx, fv, B, h1, rfl, h3, h5, h4⟩ := h
    rcases List.mem_cons.mp hb with rfl | hb
    · rw [h3]; exact fun z => nomatch z
    · exact RoL.there h4 b hb
theorem RoL.there : ∀ {os : List O} {vs : List V} {A : List Addr}, RoL E G H os vs A → ∀ a ∈ A, H a ≠ none
  | [], vs, A, h, a, ha => by
    unfold RoL at h
    rw [h.2] at ha
    cases ha
  | o :: os, vs, A, h, a, ha => by
    unfold RoL at h
    obtain ⟨v, r, A1, A2, h1, rfl, h3, h4⟩ := h
    rcases List.mem_append.mp ha with ha | ha
    · exact Ro.there h3 a ha
    · exact RoL.there h4 a ha
end
/-- shared data in a list of own things -/
theorem RoL.sh : ∀ {ds : List D} {vs : List V}, RsL E G ds vs → RoL E G H (ds.map O.sh) vs []
  | [], vs, h => by
    unfold RsL at h
    show RoL E G H [] vs []
    unfold RoL
    exact ⟨h, rfl⟩
  | d :: ds, vs, h => by
    unfold RsL at h
    obtain ⟨v, r, h1, h2, h3⟩ := h
    show RoL E G H (O.sh d :: ds.map O.sh) vs []
    unfold RoL
    refine ⟨v, r, [], [], h1, rfl, ?_, RoL.sh h3⟩
    unfold Ro
    exact ⟨rfl, h2⟩
theorem RsL.length : ∀ {ds : List D} {vs : List V}, RsL E H ds vs → ds.length = vs.length
  | [], vs, h => by
    unfold RsL at h
    subst h
    rfl
  | d :: ds, vs, h => by
    unfold RsL at h
    obtain ⟨v, r, rfl, h2, h3⟩ := h
    rw [List.length_cons, List.length_cons, RsL.length h3]
theorem RsL.get : ∀ {ds : List D} {vs : List V} {i : Nat} {d : D}, RsL E H ds vs → ds[i]? = some d → ∃ v, vs[i]? = some v ∧ Rs E H d v
  | [], _, _, _, _, e => by cases e
  | d :: ds, vs, 0, d', h, e => by
    unfold RsL at h
    obtain ⟨v, r, rfl, h2, h3⟩ := h
    cases e
    exact ⟨v, rfl, h2⟩
  | d :: ds, vs, i + 1, d', h, e => by
    unfold RsL at h
    obtain ⟨v, r, rfl, h2, h3⟩ := h
    exact RsL.get (i := i) h3 e
theorem RsL.cons {d : D} {ds : List D} {v : V} {vs : List V} (h : Rs E H d v) (r : RsL E H ds vs) : RsL E H (d :: ds) (v :: vs) := by
  unfold RsL
  exact ⟨v, vs, rfl, h, r⟩
theorem RsL.nil : RsL E H [] [] := by
  unfold RsL
  rfl
theorem RsL.append : ∀ {ds es : List D} {vs ws : List V}, RsL E H ds vs → RsL E H es ws → RsL E H (ds ++ es) (vs ++ ws)
  | [], es, vs, ws, h, k => by
    unfold RsL at h
    subst h
    exact k
  | d :: ds, es, vs, ws, h, k => by
    unfold RsL at h
    obtain ⟨v, r, rfl, h2, h3⟩ := h
    exact .cons h2 (RsL.append h3 k)
theorem RsL.ints : ∀ {ns : List Int} {vs : List V}, RsL E H (ns.map D.int) vs → vs = ns.map V.int
  | [], vs, h => by
    unfold RsL at h
    exact h
  | n :: ns, vs, h => by
    have h1 : RsL E H (D.int n :: ns.map D.int) vs := h
    unfold RsL at h1
    obtain ⟨v, r, rfl, h2, h3⟩ := h1
    unfold Rs at h2
    rw [h2, RsL.ints h3]
    rfl
theorem RsL.of_ints : ∀ {ns : List Int}, RsL E H (ns.map D.int) (ns.map V.int)
  | [] => .nil
  | n :: ns => .cons (by unfold Rs; rfl) RsL.of_ints
theorem RsL.set : ∀ {ds : List D} {vs : List V} (i : Nat) {d : D} {v : V}, RsL E H ds vs → Rs E H d v → RsL E H (ds.set i d) (vs.set i v)
  | [], vs, i, d, v, h, _ => by
    unfold RsL at h
    subst h
    exact .nil
  | x :: ds, vs, 0, d, v, h, k => by
    unfold RsL at h
    obtain ⟨y, r, rfl, h2, h3⟩ := h
    exact .cons k h3
  | x :: ds, vs, i + 1, d, v, h, k => by
    unfold RsL at h
    obtain ⟨y, r, rfl, h2, h3⟩ := h
    exact .cons h2 (RsL.set i h3 k)
theorem RoL.length : ∀ {os : List O} {vs : List V} {A : List Addr}, RoL E G H os vs A → os.length = vs.length
  | [], vs, A, h => by
    unfold RoL at h
    obtain ⟨rfl, rfl⟩ := h
    rfl
  | o :: os, vs, A, h => by
    unfold RoL at h
    obtain ⟨v, r, A1, A2, rfl, rfl, h3, h4⟩ := h
    rw [List.length_cons, List.length_cons, RoL.length h4]
theorem RoL.append : ∀ {os ps : List O} {vs ws : List V} {A B : List Addr}, RoL E G H os vs A → RoL E G H ps ws B → RoL E G H (os ++ ps) (vs ++ ws) (A ++ B)
  | [], ps, vs, ws, A, B, h, k => by
    unfold RoL at h
    obtain ⟨rfl, rfl⟩ := h
    exact k
  | o :: os, ps, vs, ws, A, B, h, k => by
    unfold RoL at h
    obtain ⟨v, r, A1, A2, rfl, rfl, h3, h4⟩ := h
    show RoL E G H (o :: (os ++ ps)) (v :: (r ++ ws)) _
    unfold RoL
    exact ⟨v, r ++ ws, A1, A2 ++ B, rfl, List.append_assoc .., h3, RoL.append h4 k⟩
theorem RoL.one {o : O} {v : V} {A : List Addr} (h : Ro E G H o v A) : RoL E G H [o] [v] A := by
  unfold RoL
  refine ⟨v, [], A, [], rfl, (List.append_nil A).symm, h, ?_⟩
  unfold RoL
  exact ⟨rfl, rfl⟩
end
end Z

/-! Z2: a body's state, what an expression, a statement of the mirror means on the heap. -/
namespace Z
open PySem PySem.Spec PyProof.Rows L2

/-- a def's entry: G0 what it may share, H0 the heap, B the nodes lent to be changed, io the parameters that hold these, vals the arguments -/
structure Ctx where
  E : Ev
  G0 : Hp
  H0 : Hp
  B : Nat → List Addr
  io : List Nat
  vals : List V
def env (σ : L2.St) (τ : List V) : L2.St := σ ++ τ.map some
def SlOk (E : Ev) (G H : Hp) : Sl → Option (Option V) → List Addr → Prop
  | .no, _, A => A = []
  | .pl d, x, A => A = [] ∧ ∃ v, x = some (some v) ∧ Rs E G d v
  | .ow o, x, A => ∃ v, x = some (some v) ∧ Ro E G H o v A
structure Real (c : Ctx) (G : Hp) (S : List Sl) (As : Nat → List Addr) (τ : List V) (σ : L2.St) (H : Hp) : Prop where
  exG : Ex G H
  sl : ∀ i s, S[i]? = some s → SlOk c.E G H s (env σ τ)[i]? (As i)
  len : S.length = σ.length + τ.length
  emp : ∀ i, S.length ≤ i → As i = []
  nd : ∀ i, (As i).Nodup
  dj : ∀ i j a, a ∈ As i → a ∈ As j → i = j
  nf : ∀ i a, a ∈ As i → G a = none
  g0 : Ex c.G0 G
  gn : ∀ a, c.H0 a ≠ none → G a = c.G0 a
  fr0 : ∀ a o, c.H0 a = some o → (∀ i ∈ c.io, a ∉ c.B i) → H a = some o
  stay : ∀ a, c.H0 a ≠ none → H a ≠ none
  fn : ∀ i a, a ∈ As i → c.H0 a = none ∨ (i ∈ c.io ∧ a ∈ c.B i)
  io : ∀ i ∈ c.io, ∃ o v, S[i]? = some (.ow o) ∧ c.vals[i]? = some v ∧ σ[i]? = some (some v)
structure Post (mods : List Nat) (S S' : List Sl) (As As' : Nat → List Addr) (G G' H H' : Hp) : Prop where
  exG : Ex G G'
  same : ∀ j, j ∉ mods → S'[j]? = S[j]? ∧ As' j = As j
  frm : ∀ a o, H a = some o → (∀ j ∈ mods, a ∉ As j) → H' a = some o
  new : ∀ j a, a ∈ As' j → a ∈ As j ∨ (∃ k ∈ mods, a ∈ As k) ∨ H a = none
  stay : ∀ a, H a ≠ none → H' a ≠ none
  len : S'.length = S.length
  gn : ∀ a, H a ≠ none → (∀ j ∈ mods, a ∉ As j) → G' a = G a
/-- all that H has stays just so -/
def Keep (H H' : Hp) : Prop := ∀ a o, H a = some o → H' a = some o
theorem Keep.refl (H : Hp) : Keep H H := fun _ _ h => h
theorem Keep.new {H : Hp} {p : Addr} {o : HO} (h : H p = none) : Keep H (upd H p o) := fun a u e => by
  rw [upd_ne (ne_of_none e h)]
  exact e
theorem Keep.ex {H H' : Hp} (k : Keep H H') : Ex H H' := Ex.of k
theorem Keep.trans {H H1 H2 : Hp} (a : Keep H H1) (b : Keep H1 H2) : Keep H H2 := fun x o h => b x o (a x o h)
theorem Keep.stay {H H' : Hp} (k : Keep H H') {a : Addr} (h : H a ≠ none) : H' a ≠ none := by
  cases e : H a with
  | none => exact absurd e h
  | some o => rw [k a o e]; exact fun z => nomatch z

section
variable {mods m1 m2 : List Nat} {S S' S1 S2 : List Sl} {As As' As1 As2 : Nat → List Addr} {G G' G1 G2 H H' H1 H2 : Hp}
theorem Post.of_keep (e : Ex G G') (k : Keep H H') (g : ∀ a, H a ≠ none → G' a = G a) : Post mods S S As As G G' H H' :=
  ⟨e, fun _ _ => ⟨rfl, rfl⟩, fun a o h _ => k a o h, fun _ _ h => .inl h, fun _ h => k.stay h, rfl, fun a h _ => g a h⟩
theorem Post.refl : Post mods S S As As G G H H := Post.of_keep (Ex.refl G) (Keep.refl H) fun _ _ => rfl
theorem Post.keep (p : Post [] S S' As As' G G' H H') : Keep H H' := fun a o h => p.frm a o h fun _ z => nomatch z
theorem Post.trans (p : Post m1 S S1 As As1 G G1 H H1) (q : Post m2 S1 S2 As1 As2 G1 G2 H1 H2) : Post (m1 ++ m2) S S2 As As2 G G2 H H2 where
  exG := p.exG.trans q.exG
  same := fun j hj => by
    have h1 := p.same j fun z => hj (List.mem_append_left _ z)
    have h2 := q.same j fun z => hj (List.mem_append_right _ z)
    exact ⟨h2.1.trans h1.1, h2.2.trans h1.2⟩
  frm := fun a o h hn => by
    refine q.frm a o (p.frm a o h fun j hj => hn j (List.mem_append_left _ hj)) fun j hj z => ?_
    rcases p.new j a z with z1 | ⟨k, hk, z1⟩ | z1
    · exact hn j (List.mem_append_right _ hj) z1
    · exact hn k (List.mem_append_left _ hk) z1
    · rw [h] at z1; cases z1
  new := fun j a h => by
    rcases q.new j a h with z | ⟨k, hk, z⟩ | z
    · rcases p.new j a z with z1 | ⟨k, hk, z1⟩ | z1
      · exact .inl z1
      · exact .inr (.inl ⟨k, List.mem_append_left _ hk, z1⟩)
      · exact .inr (.inr z1)
    · rcases p.new k a z with z1 | ⟨k', hk', z1⟩ | z1
      · exact .inr (.inl ⟨k, List.mem_append_right _ hk, z1⟩)
      · exact .inr (.inl ⟨k', List.mem_append_left _ hk', z1⟩)
      · exact .inr (.inr z1)
    · refine .inr (.inr ?_)
      cases e : H a with
      | none => rfl
      | some o => exact absurd z (p.stay a (by rw [e]; exact fun z => nomatch z))
  stay := fun a h => q.stay a (p.stay a h)
  len := q.len.trans p.len
  gn := fun a h hn => by
    have h1 := p.gn a h fun j hj => hn j (List.mem_append_left _ hj)
    refine (q.gn a (p.stay a h) fun j hj z => ?_).trans h1
    rcases p.new j a z with z1 | ⟨k, hk, z1⟩ | z1
    · exact hn j (List.mem_append_right _ hj) z1
    · exact hn k (List.mem_append_left _ hk) z1
    · exact h z1
theorem Post.mono (p : Post m1 S S' As As' G G' H H') (h : ∀ j ∈ m1, j ∈ m2) : Post m2 S S' As As' G G' H H' :=
  ⟨p.exG, fun j hj => p.same j fun z => hj (h j z), fun a o e hn => p.frm a o e fun j hj => hn j (h j hj), fun j a z => by
    rcases p.new j a z with z1 | ⟨k, hk, z1⟩ | z1
    · exact .inl z1
    · exact .inr (.inl ⟨k, h k hk, z1⟩)
    · exact .inr (.inr z1), p.stay, p.len, fun a e hn => p.gn a e fun j hj => hn j (h j hj)⟩
end

/-- G and the nodes at A of H -/
def frz (G H : Hp) (A : List Addr) : Hp := fun a => if a ∈ A then H a else G a
theorem frz_in {G H : Hp} {A : List Addr} {a : Addr} (h : a ∈ A) : frz G H A a = H a := if_pos h
theorem frz_out {G H : Hp} {A : List Addr} {a : Addr} (h : a ∉ A) : frz G H A a = G a := if_neg h
theorem frz_ex {G H : Hp} {A : List Addr} (n : ∀ a ∈ A, G a = none) : Ex G (frz G H A) := fun a o e => .inl (by
  rw [frz_out fun z => by rw [n a z] at e; cases e]
  exact e)
theorem frz_of {G H : Hp} {A : List Addr} (e : Ex G H) : Ex (frz G H A) H := fun a o h => by
  by_cases z : a ∈ A
  · rw [frz_in z] at h
    exact .inl h
  · rw [frz_out z] at h
    exact e a o h

section
variable {c : Ctx} {G G' : Hp} {S : List Sl} {As : Nat → List Addr} {τ : List V} {σ : L2.St} {H H' : Hp}
theorem SlOk.keep {E : Ev} {s : Sl} {x : Option (Option V)} {A : List Addr} (e : Ex G G') (h : SlOk E G H s x A) (k : ∀ a ∈ A, ∀ u, H a = some u → H' a = some u) : SlOk E G' H' s x A := by
  cases s with
  | no => exact h
  | pl d =>
    obtain ⟨h1, v, h2, h3⟩ := h
    exact ⟨h1, v, h2, Rs.mono e h3⟩
  | ow o =>
    obtain ⟨v, h2, h3⟩ := h
    exact ⟨v, h2, Ro.keep e h3 k⟩
theorem SlOk.there {E : Ev} {s : Sl} {x : Option (Option V)} {A : List Addr} (h : SlOk E G H s x A) : ∀ a ∈ A, H a ≠ none := by
  cases s with
  | no =>
    have h1 : A = [] := h
    intro a ha
    rw [h1] at ha
    cases ha
  | pl d =>
    intro a ha
    rw [h.1] at ha
    cases ha
  | ow o =>
    obtain ⟨v, h2, h3⟩ := h
    exact Ro.there h3
theorem Real.there (R : Real c G S As τ σ H) {i : Nat} {a : Addr} (h : a ∈ As i) : H a ≠ none := by
  cases e : S[i]? with
  | none =>
    have := R.emp i (List.getElem?_eq_none_iff.mp e)
    rw [this] at h
    cases h
  | some s => exact (R.sl i s e).there a h
/-- the heap grows, all that was there stands -/
theorem Real.keep (R : Real c G S As τ σ H) (k : Keep H H') : Real c G S As τ σ H' :=
  ⟨R.exG.trans k.ex, fun i s e => (R.sl i s e).keep (Ex.refl G) fun a _ u h => k a u h, R.len, R.emp, R.nd, R.dj, R.nf, R.g0, R.gn, fun a o e n => k a o (R.fr0 a o e n), fun a h => k.stay (R.stay a h), R.fn, R.io⟩
/-- what may be shared grows by new things -/
theorem Real.grow (R : Real c G S As τ σ H) (e : Ex G G') (x : Ex G' H) (n : ∀ a, G' a ≠ none → G a = none → c.H0 a = none ∧ ∀ i, a ∉ As i) (s : ∀ a, G a ≠ none → G' a = G a) : Real c G' S As τ σ H :=
  ⟨x, fun i s e1 => (R.sl i s e1).keep e fun a _ u h => h, R.len, R.emp, R.nd, R.dj, fun i a h => by
    have h1 := R.nf i a h
    cases q : G' a with
    | none => rfl
    | some o => exact absurd h ((n a (by rw [q]; exact fun z => nomatch z) h1).2 i), R.g0.trans e, fun a h => by
    have h1 := R.gn a h
    cases q : G a with
    | none =>
      cases q2 : G' a with
      | none => rw [← h1, q]
      | some o => exact absurd (n a (by rw [q2]; exact fun z => nomatch z) q).1 h
    | some o =>
      rw [s a (by rw [q]; exact fun z => nomatch z)]
      exact h1, R.fr0, R.stay, R.fn, R.io⟩
/-- new nodes, told apart from all else -/
structure New (c : Ctx) (G : Hp) (As : Nat → List Addr) (A : List Addr) : Prop where
  nd : A.Nodup
  h0 : ∀ a ∈ A, c.H0 a = none
  g : ∀ a ∈ A, G a = none
  out : ∀ a ∈ A, ∀ i, a ∉ As i
theorem New.nil : New c G As [] := ⟨List.nodup_nil, (fun _ h => nomatch h), (fun _ h => nomatch h), (fun _ h => nomatch h)⟩
/-- what H does not have is new -/
theorem Real.fresh (R : Real c G S As τ σ H) {p : Addr} (h : H p = none) : c.H0 p = none ∧ G p = none ∧ ∀ i, p ∉ As i := by
  refine ⟨?_, ?_, fun i z => R.there z h⟩
  · cases e : c.H0 p with
    | none => rfl
    | some o => exact absurd h (R.stay p (by rw [e]; exact fun z => nomatch z))
  · cases e : G p with
    | none => rfl
    | some o => exact absurd h (R.exG.some e)
theorem Real.new1 (R : Real c G S As τ σ H) {p : Addr} (h : H p = none) : New c G As [p] := by
  obtain ⟨h1, h2, h3⟩ := R.fresh h
  refine ⟨List.nodup_cons.mpr ⟨fun z => (nomatch z), List.nodup_nil⟩, ?_, ?_, ?_⟩ <;> intro a ha <;> obtain rfl : a = p := by simpa using ha
  · exact h1
  · exact h2
  · exact h3
/-- a new thing is shared from now on -/
theorem Real.freeze (R : Real c G S As τ σ H) {A : List Addr} (N : New c G As A) : Real c (frz G H A) S As τ σ H :=
  R.grow (frz_ex N.g) (frz_of R.exG) (fun a h n => by
    by_cases z : a ∈ A
    · exact ⟨N.h0 a z, N.out a z⟩
    · rw [frz_out z] at h
      exact absurd n h) fun a h => frz_out fun z => h (N.g a z)
theorem Real.frozen (R : Real c G S As τ σ H) {A : List Addr} {o : O} {v : V} (N : New c G As A) (h : Ro c.E G H o v A) : Rs c.E (frz G H A) (fr o) v :=
  Ro.see (frz_ex N.g) h fun a ha u e => by rw [frz_in ha]; exact e

/-! ### slots -/
def upA (As : Nat → List Addr) (i : Nat) (A : List Addr) : Nat → List Addr := fun j => if j = i then A else As j
theorem upA_same {i : Nat} {A : List Addr} : upA As i A i = A := if_pos rfl
theorem upA_ne {i j : Nat} {A : List Addr} (h : j ≠ i) : upA As i A j = As j := if_neg h
theorem env_set {i : Nat} {v : Option V} (h : i < σ.length) : env (σ.set i v) τ = (env σ τ).set i v := by
  unfold env
  rw [List.set_append_left _ _ h]
theorem env_len : (env σ τ).length = σ.length + τ.length := by
  unfold env
  rw [List.length_append, List.length_map]
/-- a value is put into a slot -/
theorem Real.put (R : Real c G S As τ σ H) {i : Nat} {s : Sl} {v : V} {A : List Addr} (hi : i < σ.length) (hio : i ∉ c.io) (N : New c G As A) (h : SlOk c.E G H s (some (some v)) A) : Real c G (S.set i s) (upA As i A) τ (σ.set i (some v)) H where
  exG := R.exG
  sl := fun j s' e => by
    have hl : i < S.length := by rw [R.len]; omega
    by_cases hj : j = i
    · subst hj
      rw [List.getElem?_set_self hl] at e
      cases e
      rw [env_set hi, List.getElem?_set_self (by rw [env_len]; omega), upA_same]
      exact h
    · rw [List.getElem?_set_ne (Ne.symm hj)] at e
      rw [env_set hi, List.getElem?_set_ne (Ne.symm hj), upA_ne hj]
      exact R.sl j s' e
  len := by rw [List.length_set, List.length_set]; exact R.len
  emp := fun j hj => by
    rw [List.length_set] at hj
    have : j ≠ i := by have := R.len; omega
    rw [upA_ne this]
    exact R.emp j hj
  nd := fun j => by
    by_cases hj : j = i
    · rw [hj, upA_same]; exact N.nd
    · rw [upA_ne hj]; exact R.nd j
  dj := fun j k a hj hk => by
    by_cases h1 : j = i
    · by_cases h2 : k = i
      · rw [h1, h2]
      · rw [h1, upA_same] at hj
        rw [upA_ne h2] at hk
        exact absurd hk (N.out a hj k)
    · by_cases h2 : k = i
      · rw [h2, upA_same] at hk
        rw [upA_ne h1] at hj
        exact absurd hj (N.out a hk j)
      · rw [upA_ne h1] at hj
        rw [upA_ne h2] at hk
        exact R.dj j k a hj hk
  nf := fun j a hj => by
    by_cases h1 : j = i
    · rw [h1, upA_same] at hj; exact N.g a hj
    · rw [upA_ne h1] at hj; exact R.nf j a hj
  g0 := R.g0
  gn := R.gn
  fr0 := R.fr0
  stay := R.stay
  fn := fun j a hj => by
    by_cases h1 : j = i
    · rw [h1, upA_same] at hj; exact .inl (N.h0 a hj)
    · rw [upA_ne h1] at hj; exact R.fn j a hj
  io := fun j hj => by
    have : j ≠ i := fun z => hio (z ▸ hj)
    obtain ⟨o, w, h1, h2, h3⟩ := R.io j hj
    exact ⟨o, w, by rw [List.getElem?_set_ne (Ne.symm this)]; exact h1, h2, by rw [List.getElem?_set_ne (Ne.symm this)]; exact h3⟩
/-- a slot is forgotten (a comprehension's own name) -/
theorem Real.drop (R : Real c G S As τ σ H) {i : Nat} {x : Option V} (hi : i < σ.length) (hio : i ∉ c.io) : Real c G (S.set i .no) (upA As i []) τ (σ.set i x) H where
  exG := R.exG
  sl := fun j s' e => by
    have hl : i < S.length := by rw [R.len]; omega
    by_cases hj : j = i
    · subst hj
      rw [List.getElem?_set_self hl] at e
      cases e
      rw [upA_same]
      rfl
    · rw [List.getElem?_set_ne (Ne.symm hj)] at e
      rw [env_set hi, List.getElem?_set_ne (Ne.symm hj), upA_ne hj]
      exact R.sl j s' e
  len := by rw [List.length_set, List.length_set]; exact R.len
  emp := fun j hj => by
    rw [List.length_set] at hj
    by_cases z : j = i
    · rw [z, upA_same]
    · rw [upA_ne z]
      exact R.emp j hj
  nd := fun j => by
    by_cases hj : j = i
    · rw [hj, upA_same]; exact List.nodup_nil
    · rw [upA_ne hj]; exact R.nd j
  dj := fun j k a hj hk => by
    by_cases h1 : j = i
    · rw [h1, upA_same] at hj; cases hj
    · by_cases h2 : k = i
      · rw [h2, upA_same] at hk; cases hk
      · rw [upA_ne h1] at hj
        rw [upA_ne h2] at hk
        exact R.dj j k a hj hk
  nf := fun j a hj => by
    by_cases h1 : j = i
    · rw [h1, upA_same] at hj; cases hj
    · rw [upA_ne h1] at hj; exact R.nf j a hj
  g0 := R.g0
  gn := R.gn
  fr0 := R.fr0
  stay := R.stay
  fn := fun j a hj => by
    by_cases h1 : j = i
    · rw [h1, upA_same] at hj; cases hj
    · rw [upA_ne h1] at hj; exact R.fn j a hj
  io := fun j hj => by
    have : j ≠ i := fun z => hio (z ▸ hj)
    obtain ⟨o, w, h1, h2, h3⟩ := R.io j hj
    exact ⟨o, w, by rw [List.getElem?_set_ne (Ne.symm this)]; exact h1, h2, by rw [List.getElem?_set_ne (Ne.symm this)]; exact h3⟩
/-- a slot's own thing is taken out -/
theorem Real.take (R : Real c G S As τ σ H) {i : Nat} {o : O} (hi : i < σ.length) (hio : i ∉ c.io) (h : S[i]? = some (.ow o)) :
    ∃ v, σ[i]? = some (some v) ∧ Ro c.E G H o v (As i) ∧ Real c G (S.set i .no) (upA As i []) τ σ H ∧ New c G (upA As i []) (As i) := by
  obtain ⟨v, h1, h2⟩ := R.sl i _ h
  have h3 : σ[i]? = some (some v) := by
    unfold env at h1
    rw [List.getElem?_append_left hi] at h1
    exact h1
  have R2 := R.drop (x := some v) hi hio
  have e : σ.set i (some v) = σ := by
    apply List.ext_getElem?
    intro j
    by_cases hj : j = i
    · subst hj; rw [List.getElem?_set_self hi, h3]
    · rw [List.getElem?_set_ne (Ne.symm hj)]
  rw [e] at R2
  refine ⟨v, h3, h2, R2, R.nd i, fun a ha => ?_, fun a ha => R.nf i a ha, fun a ha j z => ?_⟩
  · rcases R.fn i a ha with z | z
    · exact z
    · exact absurd z.1 hio
  · by_cases hj : j = i
    · rw [hj, upA_same] at z; cases z
    · rw [upA_ne hj] at z
      exact hj (R.dj j i a z ha)
/-- a thing on the way is put behind the slots -/
theorem Real.push (R : Real c G S As τ σ H) {o : O} {v : V} {A : List Addr} (N : New c G As A) (h : Ro c.E G H o v A) : Real c G (S ++ [.ow o]) (upA As S.length A) (τ ++ [v]) σ H where
  exG := R.exG
  sl := fun j s' e => by
    have e2 : env σ (τ ++ [v]) = env σ τ ++ [some v] := by
      unfold env
      rw [List.map_append, List.append_assoc]
      rfl
    by_cases hj : j = S.length
    · rw [hj, List.getElem?_append_right (Nat.le_refl _), Nat.sub_self] at e
      cases e
      rw [e2, hj, List.getElem?_append_right (by rw [env_len, ← R.len]; exact Nat.le_refl _), env_len, ← R.len, Nat.sub_self, upA_same]
      exact ⟨v, rfl, h⟩
    · have hlt : j < S.length := by
        have := (List.getElem?_eq_some_iff.mp e).1
        rw [List.length_append] at this
        have z : ([Sl.ow o] : List Sl).length = 1 := rfl
        omega
      rw [List.getElem?_append_left hlt] at e
      rw [e2, List.getElem?_append_left (by rw [env_len, ← R.len]; exact hlt), upA_ne hj]
      exact R.sl j s' e
  len := by
    rw [List.length_append, List.length_append, R.len]
    show σ.length + τ.length + 1 = σ.length + (τ.length + 1)
    omega
  emp := fun j hj => by
    rw [List.length_append] at hj
    have z : ([Sl.ow o] : List Sl).length = 1 := rfl
    rw [upA_ne (by omega)]
    exact R.emp j (by omega)
  nd := fun j => by
    by_cases hj : j = S.length
    · rw [hj, upA_same]; exact N.nd
    · rw [upA_ne hj]; exact R.nd j
  dj := fun j k a hj hk => by
    by_cases h1 : j = S.length
    · by_cases h2 : k = S.length
      · rw [h1, h2]
      · rw [h1, upA_same] at hj
        rw [upA_ne h2] at hk
        exact absurd hk (N.out a hj k)
    · by_cases h2 : k = S.length
      · rw [h2, upA_same] at hk
        rw [upA_ne h1] at hj
        exact absurd hj (N.out a hk j)
      · rw [upA_ne h1] at hj
        rw [upA_ne h2] at hk
        exact R.dj j k a hj hk
  nf := fun j a hj => by
    by_cases h1 : j = S.length
    · rw [h1, upA_same] at hj; exact N.g a hj
    · rw [upA_ne h1] at hj; exact R.nf j a hj
  g0 := R.g0
  gn := R.gn
  fr0 := R.fr0
  stay := R.stay
  fn := fun j a hj => by
    by_cases h1 : j = S.length
    · rw [h1, upA_same] at hj; exact .inl (N.h0 a hj)
    · rw [upA_ne h1] at hj; exact R.fn j a hj
  io := fun j hj => by
    obtain ⟨o', w, h1, h2, h3⟩ := R.io j hj
    exact ⟨o', w, by rw [List.getElem?_append_left (List.getElem?_eq_some_iff.mp h1).1]; exact h1, h2, h3⟩
end
end Z

/-! Z3: mirrors and what they mean; expressions. -/
namespace Z
open PySem PySem.Spec PyProof.Rows L2

inductive Out (α : Type) where
  | ok (a : α) (S : List Sl)
  | exc (C : Str) (fs : List Str) (ds : List D) (S : List Sl)
  | bad
abbrev M (α : Type) := List Sl → Out α
def Out.bd {α β : Type} (x : Out α) (k : α → List Sl → Out β) : Out β := match x with
  | .ok a S => k a S
  | .exc C fs ds S => .exc C fs ds S
  | .bad => .bad
def hp (md : Bool) (G H : Hp) : Hp := match md with
  | true => G
  | false => H
theorem hp_ex {md : Bool} {G H : Hp} (e : Ex G H) : Ex (hp md G H) H := by
  cases md with
  | true => exact e
  | false => exact Ex.refl H
/-- an exception's own fields -/
def ExcAt (E : Ev) (G H : Hp) (fs : List Str) (ds : List D) (dd : Option Addr) : Prop :=
  (fs = [] ∧ ds = [] ∧ dd = none) ∨ ∃ d xs, dd = some d ∧ H d = some (.xd xs) ∧ xs.map (·.1) = fs ∧ RsL E G ds (xs.map (·.2))
/-- what an outcome asks -/
def fin {α : Type} (c : Ctx) (X : XK) : Out α → (α → List Sl → Prop) → Prop
  | .ok a S, k => k a S
  | .exc C fs ds S, _ => ∀ G As τ σ H dd, Real c G S As τ σ H → ExcAt c.E G H fs ds dd → X (.ref (c.E.ca C)) dd H
  | .bad, _ => False
/-- an expression: shared (md) or seen; it may change the slots mods -/
def tE (c : Ctx) (X : XK) (md : Bool) (mods : List Nat) (m : M D) : TE := fun σ H Q => ∃ G S As τ, Real c G S As τ σ H ∧ fin c X (m S) fun d S' =>
  ∀ v G' As' H', Real c G' S' As' τ σ H' → Post mods S S' As As' G G' H H' → Rs c.E (hp md G' H') d v → Q v H'
/-- nodes that are new, or were a changed slot's -/
def Frs (mods : List Nat) (As : Nat → List Addr) (H : Hp) (A : List Addr) : Prop := ∀ a ∈ A, H a = none ∨ ∃ k ∈ mods, a ∈ As k
/-- an expression that makes a thing of one's own -/
def tO (c : Ctx) (X : XK) (mods : List Nat) (m : M O) : TE := fun σ H Q => ∃ G S As τ, Real c G S As τ σ H ∧ fin c X (m S) fun o S' =>
  ∀ v A G' As' H', Real c G' S' As' τ σ H' → Post mods S S' As As' G G' H H' → Ro c.E G' H' o v A → New c G' As' A → Frs mods As H A → Q v H'
def tT (c : Ctx) (X : XK) (mods : List Nat) (m : M Bool) : TT := fun σ H Q => ∃ G S As τ, Real c G S As τ σ H ∧ fin c X (m S) fun b S' =>
  ∀ G' As' H', Real c G' S' As' τ σ H' → Post mods S S' As As' G G' H H' → Q b H'
theorem fin_mono {α : Type} {c : Ctx} {X : XK} {x : Out α} {k k' : α → List Sl → Prop} (h : fin c X x k) (f : ∀ a S, x = .ok a S → k a S → k' a S) : fin c X x k' := by
  cases x with
  | ok a S => exact f a S rfl h
  | exc C fs ds S => exact h
  | bad => exact h
theorem fin_bd {α β : Type} {c : Ctx} {X : XK} {x : Out α} {k : α → List Sl → Out β} {q : β → List Sl → Prop} (h : fin c X (x.bd k) q) : fin c X x fun a S => fin c X (k a S) q := by
  cases x with
  | ok a S => exact h
  | exc C fs ds S => exact h
  | bad => exact h
theorem PEw {X : Cx} {e : Expr} {t t' : TE} (h : PE X e t) (w : ∀ σ H Q, t' σ H Q → t σ H Q) : PE X e t' := ⟨fun pins s σ H Q I q => h.run pins s σ H Q I (w σ H Q q)⟩
theorem PTw {X : Cx} {e : Expr} {t t' : TT} (h : PT X e t) (w : ∀ σ H Q, t' σ H Q → t σ H Q) : PT X e t' := ⟨fun pins s σ H Q I q => h.run pins s σ H Q I (w σ H Q q)⟩
theorem PWw {X : Cx} {e : Expr} {t t' : TT} (h : PW X e t) (w : ∀ σ H Q, t' σ H Q → t σ H Q) : PW X e t' := ⟨fun wh pins s σ H Q I q => h.run wh pins s σ H Q I (w σ H Q q)⟩
theorem PSw {X : Cx} {st : Stmt} {t t' : TS} (h : PS X st t) (w : ∀ D σ H, t' D σ H → t D σ H) : PS X st t' := ⟨fun pins s σ H D I q => h.run pins s σ H D I (w D σ H q)⟩

/-! ### names, constants -/
def mVar (i : Nat) : M D := fun S => match S[i]? with
  | some (.pl d) => .ok d S
  | _ => .bad
def mC {α : Type} (d : α) : M α := fun S => .ok d S
section
variable {c : Ctx} {X : XK} {σ : L2.St} {H : Hp} {Q : VK} {i : Nat} {d : D} {v : V} {mods m1 m2 : List Nat}
theorem env_lt {σ : L2.St} {τ : List V} {i : Nat} (h : i < σ.length) : (env σ τ)[i]? = σ[i]? := by
  unfold env
  rw [List.getElem?_append_left h]
theorem pl_at {G : Hp} {S : List Sl} {As : Nat → List Addr} {τ : List V} (R : Real c G S As τ σ H) (hi : i < σ.length) (e : S[i]? = some (.pl d)) : ∃ v, σ[i]? = some (some v) ∧ Rs c.E G d v := by
  obtain ⟨_, v, h1, h2⟩ := R.sl i _ e
  rw [env_lt hi] at h1
  exact ⟨v, h1, h2⟩
theorem ow_at {G : Hp} {S : List Sl} {As : Nat → List Addr} {τ : List V} {o : O} (R : Real c G S As τ σ H) (hi : i < σ.length) (e : S[i]? = some (.ow o)) : ∃ v, σ[i]? = some (some v) ∧ Ro c.E G H o v (As i) := by
  obtain ⟨v, h1, h2⟩ := R.sl i _ e
  rw [env_lt hi] at h1
  exact ⟨v, h1, h2⟩
end
section
variable {X : Cx} {c : Ctx} {W : XK} {mods m1 m2 : List Nat} {md md1 md2 : Bool} {e a b : Expr} {pos : Pos}
/-- slots are those of the names -/
theorem PE.len {t : TE} (h : ∀ n, X.N.length = n → PE X e t) : PE X e t := h _ rfl
/-- an expression, where the slots are as many as the names -/
theorem PEl {t t' : TE} (h : PE X e t) (w : ∀ σ H Q, σ.length = X.N.length → t' σ H Q → t σ H Q) : PE X e t' := ⟨fun pins s σ H Q I q => h.run pins s σ H Q I (w σ H Q I.len q)⟩
theorem PSl {st : Stmt} {t t' : TS} (h : PS X st t) (w : ∀ D σ H, σ.length = X.N.length → t' D σ H → t D σ H) : PS X st t' := ⟨fun pins s σ H D I q => h.run pins s σ H D I (w D σ H I.len q)⟩
theorem zVar {i : Nat} {x : Str} {p : Pos} (hN : X.N[i]? = some x := by rfl) (hv : Vis X.env.scope x := by first | exact Or.inl rfl | exact Or.inr (Or.inl rfl) | exact Or.inr (Or.inr rfl))
    (hd : (x == ("__debug__" : Str)) = false := by decide) (hcd : (x == ("__classdict__" : Str)) = false := by decide) : PE X (.Name x p) (tE c W true [] (mVar i)) :=
  PEl (pe_var (i := i) hN hv hd hcd) fun σ H Q hl ⟨G, S, As, τ, R, h⟩ => by
    have hi : i < σ.length := by rw [hl]; exact (List.getElem?_eq_some_iff.mp hN).1
    unfold mVar at h
    split at h
    · rename_i d e
      obtain ⟨v, h1, h2⟩ := pl_at R hi e
      exact ⟨v, h1, h v G As H R Post.refl h2⟩
    · exact h.elim
theorem zC {t : TE} {d : D} {v : V} (h : PE X e (tC v)) (r : ∀ G, Rs c.E G d v) : PE X e (tE c W true [] (mC d)) :=
  PEw h fun σ H Q ⟨G, S, As, τ, R, h⟩ => h v G As H R Post.refl (r G)
theorem zInt {i : Int} {j : Nat} : PE X (.Constant (.int i) j pos) (tE c W true [] (mC (.int i))) := zC (t := tC .non) pe_int fun _ => by unfold Rs; rfl
theorem zBl {b : Bool} {j : Nat} : PE X (.Constant (.bool b) j pos) (tE c W true [] (mC (.bl b))) := zC (t := tC .non) pe_bl fun _ => by unfold Rs; rfl
theorem zNon {j : Nat} : PE X (.Constant .none j pos) (tE c W true [] (mC .non)) := zC (t := tC .non) pe_non fun _ => by unfold Rs; rfl
theorem zStr {x : Str} {j : Nat} : PE X (.Constant (.str x) j pos) (tE c W true [] (mC (.str x))) := zC (t := tC .non) pe_str fun _ => by unfold Rs; rfl

/-! ### scalars -/
def isScal : D → Bool
  | .non => true
  | .bl _ => true
  | .int _ => true
  | .str _ => true
  | _ => false
theorem scal_any {E : Ev} {H H' : Hp} {d : D} {v : V} (s : isScal d = true) (h : Rs E H d v) : Rs E H' d v := by
  cases d <;> first | (unfold Rs at h ⊢; exact h) | cases s
/-- a made thing is shared -/
def mFr (m : M O) : M D := fun S => (m S).bd fun o S => .ok (fr o) S
theorem zFr {m : M O} (h : PE X e (tO c W mods m)) : PE X e (tE c W true mods (mFr m)) := PEw h fun σ H Q ⟨G, S, As, τ, R, q⟩ => by
  refine ⟨G, S, As, τ, R, fin_mono (fin_bd q) fun o S1 e1 k => ?_⟩
  intro v A G' As' H' R' P r N F
  refine k v (frz G' H' A) As' H' (R'.freeze N) ⟨P.exG.trans (frz_ex N.g), P.same, P.frm, P.new, P.stay, P.len, fun a h hn => ?_⟩ (R'.frozen N r)
  rw [frz_out fun z => ?_]
  · exact P.gn a h hn
  · rcases F a z with q | ⟨k, hk, q⟩
    · exact h q
    · exact hn k hk q
/-- shared data as a thing without own nodes -/
def mSh (m : M D) : M O := fun S => (m S).bd fun d S => .ok (.sh d) S
theorem zSh {m : M D} (h : PE X e (tE c W true mods m)) : PE X e (tO c W mods (mSh m)) := PEw h fun σ H Q ⟨G, S, As, τ, R, q⟩ => by
  refine ⟨G, S, As, τ, R, fin_mono (fin_bd q) fun d S1 e1 k => ?_⟩
  intro v G' As' H' R' P r
  exact k v [] G' As' H' R' P (by unfold Ro; exact ⟨rfl, r⟩) New.nil (fun _ z => nomatch z)

/-! ### two operands, one operand -/
def oo {γ : Type} (x : Option γ) (S : List Sl) : Out γ := match x with
  | some d => .ok d S
  | none => .bad
def m2x {α β γ : Type} (f : α → β → Option γ) (a : M α) (b : M β) : M γ := fun S => (a S).bd fun x S1 => (b S1).bd fun y S2 => oo (f x y) S2
def m1x {α γ : Type} (f : α → Option γ) (a : M α) : M γ := fun S => (a S).bd fun x S1 => oo (f x) S1
/-- from x's place to a later one -/
theorem rs_later {G1 G2 H1 H2 : Hp} {S1 S2 : List Sl} {As1 As2 : Nat → List Addr} {d : D} {v : V} (hm : (md1 || m2.isEmpty) = true) (P : Post m2 S1 S2 As1 As2 G1 G2 H1 H2) (h : Rs c.E (hp md1 G1 H1) d v) : Rs c.E (hp md1 G2 H2) d v := by
  cases md1 with
  | true => exact Rs.mono P.exG h
  | false =>
    cases m2 with
    | nil => exact Rs.mono P.keep.ex h
    | cons j r => cases hm
/-- r answers f, by a scalar or by a part of x -/
def Ans2 (c : Ctx) (r : R2) (f : D → D → Option D) : Prop := ∀ (h : Hp) (H : Hp) (dx dy d : D) (x y : V) (Q : VK), Ex h H → Rs c.E h dx x → Rs c.E H dy y → f dx dy = some d → (∀ v, Rs c.E h d v → Q v H) → r x y H Q
def Scal2 (f : D → D → Option D) : Prop := ∀ dx dy d, f dx dy = some d → isScal d = true
theorem w_op {r : R2} {f : D → D → Option D} {ma mb : M D} (hr : Ans2 c r f) (hm : (md1 || m2.isEmpty) = true) (σ : L2.St) (H : Hp) (Q : VK) (h : tE c W md1 (m1 ++ m2) (m2x f ma mb) σ H Q) :
    tOp r (tE c W md1 m1 ma) (tE c W md2 m2 mb) σ H Q := by
  obtain ⟨G, S, As, τ, R, q⟩ := h
  refine ⟨G, S, As, τ, R, fin_mono (fin_bd q) fun dx S1 e1 k => ?_⟩
  intro v G1 As1 H1 R1 P1 r1
  refine ⟨G1, S1, As1, τ, R1, fin_mono (fin_bd k) fun dy S2 e2 k2 => ?_⟩
  intro u G2 As2 H2 R2 P2 r2
  cases hf : f dx dy with
  | none =>
    rw [hf] at k2
    exact k2.elim
  | some d =>
    rw [hf] at k2
    exact hr (hp md1 G2 H2) H2 dx dy d v u Q (hp_ex R2.exG) (rs_later hm P2 r1) (Rs.mono (hp_ex R2.exG) r2) hf fun w hw => k2 w G2 As2 H2 R2 (P1.trans P2) hw
theorem w_opS {r : R2} {f : D → D → Option D} {ma mb : M D} (hr : Ans2 c r f) (hs : Scal2 f) (hm : (md1 || m2.isEmpty) = true) (σ : L2.St) (H : Hp) (Q : VK) (h : tE c W true (m1 ++ m2) (m2x f ma mb) σ H Q) :
    tOp r (tE c W md1 m1 ma) (tE c W md2 m2 mb) σ H Q := by
  obtain ⟨G, S, As, τ, R, q⟩ := h
  refine ⟨G, S, As, τ, R, fin_mono (fin_bd q) fun dx S1 e1 k => ?_⟩
  intro v G1 As1 H1 R1 P1 r1
  refine ⟨G1, S1, As1, τ, R1, fin_mono (fin_bd k) fun dy S2 e2 k2 => ?_⟩
  intro u G2 As2 H2 R2 P2 r2
  cases hf : f dx dy with
  | none =>
    rw [hf] at k2
    exact k2.elim
  | some d =>
    rw [hf] at k2
    exact hr (hp md1 G2 H2) H2 dx dy d v u Q (hp_ex R2.exG) (rs_later hm P2 r1) (Rs.mono (hp_ex R2.exG) r2) hf fun w hw => k2 w G2 As2 H2 R2 (P1.trans P2) (scal_any (hs dx dy d hf) hw)
/-- a scalar answer as a test -/
def mTst (m : M D) : M Bool := fun S => (m S).bd fun d S => match d with
  | .bl b => .ok b S
  | _ => .bad
theorem w_tst {t : TE} {m : M D} (h : ∀ σ H Q, tE c W md mods m σ H Q → t σ H Q) (σ : L2.St) (H : Hp) (Q : Bool → Hp → Prop) (q : tT c W mods (mTst m) σ H Q) : tTest t σ H Q := by
  obtain ⟨G, S, As, τ, R, q⟩ := q
  refine h σ H _ ⟨G, S, As, τ, R, fin_mono (fin_bd q) fun d S1 e1 k => ?_⟩
  intro v G' As' H' R' P r
  cases d with
  | bl b =>
    unfold Rs at r
    exact ⟨b, r, k G' As' H' R' P⟩
  | _ => exact k.elim
/-! arithmetic -/
def dI2 (f : Int → Int → D) : D → D → Option D
  | .int i, .int j => some (f i j)
  | _, _ => none
def dI2c (C : Int → Int → Bool) (f : Int → Int → D) : D → D → Option D
  | .int i, .int j => match C i j with
    | true => some (f i j)
    | false => none
  | _, _ => none
theorem ans_I0 {f : Int → Int → D} {g : Int → Int → V} (h : ∀ i j H, Rs c.E H (f i j) (g i j)) : Ans2 c (rI0 g) (dI2 f) := fun h' H dx dy d x y Q e rx ry hf k => by
  unfold dI2 at hf
  split at hf
  · unfold Rs at rx ry
    cases hf
    exact ⟨_, _, rx, ry, k _ (h _ _ _)⟩
  · cases hf
theorem ans_I {C : Int → Int → Prop} {C' : Int → Int → Bool} {f : Int → Int → D} {g : Int → Int → V} (hC : ∀ i j, C' i j = true → C i j) (h : ∀ i j H, Rs c.E H (f i j) (g i j)) : Ans2 c (rI C g) (dI2c C' f) := fun h' H dx dy d x y Q e rx ry hf k => by
  unfold dI2c at hf
  split at hf
  · split at hf
    · unfold Rs at rx ry
      cases hf
      exact ⟨_, _, rx, ry, hC _ _ (by assumption), k _ (h _ _ _)⟩
    · cases hf
  · cases hf
theorem scal_I0 {f : Int → Int → D} (h : ∀ i j, isScal (f i j) = true) : Scal2 (dI2 f) := fun dx dy d hf => by
  unfold dI2 at hf
  split at hf
  · cases hf; exact h _ _
  · cases hf
theorem scal_I {C' : Int → Int → Bool} {f : Int → Int → D} (h : ∀ i j, isScal (f i j) = true) : Scal2 (dI2c C' f) := fun dx dy d hf => by
  unfold dI2c at hf
  split at hf
  · split at hf
    · cases hf; exact h _ _
    · cases hf
  · cases hf
abbrev dAdd : D → D → Option D := dI2 fun i j => .int (i + j)
abbrev dSub : D → D → Option D := dI2 fun i j => .int (i - j)
abbrev dLt : D → D → Option D := dI2 fun i j => .bl (decide (i < j))
abbrev dLe : D → D → Option D := dI2 fun i j => .bl (decide (i ≤ j))
abbrev dGt : D → D → Option D := dI2 fun i j => .bl (decide (j < i))
abbrev dGe : D → D → Option D := dI2 fun i j => .bl (decide (j ≤ i))
abbrev dMod : D → D → Option D := dI2c (fun _ j => decide (0 < j)) fun i j => .int (i % j)
abbrev dDiv : D → D → Option D := dI2c (fun _ j => decide (0 < j ∧ j < 2 ^ 200)) fun i j => .int (i / j)
abbrev dPow : D → D → Option D := dI2c (fun i j => decide (0 ≤ j ∧ j ≤ 1000 ∧ i.natAbs < 2 ^ 64)) fun i j => .int (i ^ j.toNat)
abbrev dMul : D → D → Option D := dI2c (fun i j => decide ((-(2 ^ 64) < i ∧ i < 2 ^ 64) ∨ (-(2 ^ 64) < j ∧ j < 2 ^ 64))) fun i j => .int (i * j)
theorem divW_ok {i j : Int} (h : 0 < j ∧ j < 2 ^ 200) : CDivW i j := wide_div (b := 200) h.1 (by omega) (by decide) (by decide)
variable {ma mb : M D}
theorem zAdd (ha : PE X a (tE c W md1 m1 ma)) (hb : PE X b (tE c W md2 m2 mb)) (hm : (md1 || m2.isEmpty) = true := by rfl) : PE X (.BinOp a .Add b pos) (tE c W true (m1 ++ m2) (m2x dAdd ma mb)) :=
  PEw (pe_op op_add ha hb) (w_opS (ans_I0 fun _ _ _ => by unfold Rs; rfl) (scal_I0 fun _ _ => rfl) hm)
theorem zSub (ha : PE X a (tE c W md1 m1 ma)) (hb : PE X b (tE c W md2 m2 mb)) (hm : (md1 || m2.isEmpty) = true := by rfl) : PE X (.BinOp a .Sub b pos) (tE c W true (m1 ++ m2) (m2x dSub ma mb)) :=
  PEw (pe_op op_sub ha hb) (w_opS (ans_I0 fun _ _ _ => by unfold Rs; rfl) (scal_I0 fun _ _ => rfl) hm)
theorem zMul (ha : PE X a (tE c W md1 m1 ma)) (hb : PE X b (tE c W md2 m2 mb)) (hm : (md1 || m2.isEmpty) = true := by rfl) : PE X (.BinOp a .Mult b pos) (tE c W true (m1 ++ m2) (m2x dMul ma mb)) :=
  PEw (pe_op op_mul ha hb) (w_opS (ans_I (fun i j h => (show CMul i j from of_decide_eq_true (p := (-(2 ^ 64) < i ∧ i < 2 ^ 64) ∨ (-(2 ^ 64) < j ∧ j < 2 ^ 64)) h)) fun _ _ _ => by unfold Rs; rfl) (scal_I fun _ _ => rfl) hm)
theorem zMod (ha : PE X a (tE c W md1 m1 ma)) (hb : PE X b (tE c W md2 m2 mb)) (hm : (md1 || m2.isEmpty) = true := by rfl) : PE X (.BinOp a .Mod b pos) (tE c W true (m1 ++ m2) (m2x dMod ma mb)) :=
  PEw (pe_op op_mod ha hb) (w_opS (ans_I (fun _ _ h => of_decide_eq_true h) fun _ _ _ => by unfold Rs; rfl) (scal_I fun _ _ => rfl) hm)
theorem zDiv (ha : PE X a (tE c W md1 m1 ma)) (hb : PE X b (tE c W md2 m2 mb)) (hm : (md1 || m2.isEmpty) = true := by rfl) : PE X (.BinOp a .FloorDiv b pos) (tE c W true (m1 ++ m2) (m2x dDiv ma mb)) :=
  PEw (pe_op op_fdivW ha hb) (w_opS (ans_I (fun i j h => (divW_ok (of_decide_eq_true h))) fun _ _ _ => by unfold Rs; rfl) (scal_I fun _ _ => rfl) hm)
theorem zPow (ha : PE X a (tE c W md1 m1 ma)) (hb : PE X b (tE c W md2 m2 mb)) (hm : (md1 || m2.isEmpty) = true := by rfl) : PE X (.BinOp a .Pow b pos) (tE c W true (m1 ++ m2) (m2x dPow ma mb)) :=
  PEw (pe_op op_pow ha hb) (w_opS (ans_I (fun i j h => (show CPow i j from by
    have := of_decide_eq_true (p := 0 ≤ j ∧ j ≤ 1000 ∧ i.natAbs < 2 ^ 64) h
    exact ⟨this.1, by omega, this.2.2⟩)) fun _ _ _ => by unfold Rs; rfl) (scal_I fun _ _ => rfl) hm)
/-! comparisons of ints -/
theorem yLt (ha : PE X a (tE c W md1 m1 ma)) (hb : PE X b (tE c W md2 m2 mb)) (hm : (md1 || m2.isEmpty) = true := by rfl) : PT X (.Compare a [.Lt] [b] pos) (tT c W (m1 ++ m2) (mTst (m2x dLt ma mb))) :=
  PTw (pt_cmpR op_lt ha hb (nomark _)) (w_tst (w_opS (ans_I0 fun _ _ _ => by unfold Rs; rfl) (scal_I0 fun _ _ => rfl) hm))
theorem yGt (ha : PE X a (tE c W md1 m1 ma)) (hb : PE X b (tE c W md2 m2 mb)) (hm : (md1 || m2.isEmpty) = true := by rfl) : PT X (.Compare a [.Gt] [b] pos) (tT c W (m1 ++ m2) (mTst (m2x dGt ma mb))) :=
  PTw (pt_cmpR op_gt ha hb (nomark _)) (w_tst (w_opS (ans_I0 fun _ _ _ => by unfold Rs; rfl) (scal_I0 fun _ _ => rfl) hm))
theorem yGe (ha : PE X a (tE c W md1 m1 ma)) (hb : PE X b (tE c W md2 m2 mb)) (hm : (md1 || m2.isEmpty) = true := by rfl) : PT X (.Compare a [.GtE] [b] pos) (tT c W (m1 ++ m2) (mTst (m2x dGe ma mb))) :=
  PTw (pt_cmpR op_ge ha hb (nomark _)) (w_tst (w_opS (ans_I0 fun _ _ _ => by unfold Rs; rfl) (scal_I0 fun _ _ => rfl) hm))
end
end Z

/-! Z4: more expressions. -/
namespace Z
open PySem PySem.Spec PyProof.Rows L2
section
variable {X : Cx} {c : Ctx} {W : XK} {mods m1 m2 m3 : List Nat} {md md1 md2 : Bool} {e a b : Expr} {pos : Pos} {ma mb : M D}

/-! ### data as the model compares them -/
mutual
def toPy : D → Option PyData
  | .non => some .none
  | .bl b => some (.bool b)
  | .int i => some (.int i)
  | .str x => some (.str x)
  | .lst ds => (toPyL ds).map .list
  | .tup ds => (toPyL ds).map .tuple
  | .dic _ _ => none
  | .obj _ _ _ => none
  | .fls _ => none
def toPyL : List D → Option (List PyData)
  | [] => some []
  | d :: ds => match toPy d, toPyL ds with
    | some p, some ps => some (p :: ps)
    | _, _ => none
end
mutual
theorem dp_of {E : Ev} {H : Hp} : ∀ {d : D} {v : V} {p : PyData}, Rs E H d v → toPy d = some p → Dp E.K H v p
  | .non, v, p, h, e => by
    unfold Rs at h; unfold toPy at e
    cases e; subst h; exact .non
  | .bl b, v, p, h, e => by
    unfold Rs at h; unfold toPy at e
    cases e; subst h; exact .bl b
  | .int b, v, p, h, e => by
    unfold Rs at h; unfold toPy at e
    cases e; subst h; exact .int b
  | .str b, v, p, h, e => by
    unfold Rs at h; unfold toPy at e
    cases e; subst h; exact .str b
  | .lst ds, v, p, h, e => by
    unfold Rs at h; unfold toPy at e
    obtain ⟨a, xs, rfl, h2, h3⟩ := h
    cases q : toPyL ds with
    | none => rw [q] at e; cases e
    | some ps => rw [q] at e; cases e; exact .lst (SqL.of h2) (dpL_of h3 q)
  | .tup ds, v, p, h, e => by
    unfold Rs at h; unfold toPy at e
    obtain ⟨a, xs, rfl, h2, h3⟩ := h
    cases q : toPyL ds with
    | none => rw [q] at e; cases e
    | some ps => rw [q] at e; cases e; exact .tup h2.sq (dpL_of h3 q)
  | .dic _ _, v, p, h, e => by unfold toPy at e; cases e
  | .obj _ _ _, v, p, h, e => by unfold toPy at e; cases e
  | .fls _, v, p, h, e => by unfold toPy at e; cases e
theorem dpL_of {E : Ev} {H : Hp} : ∀ {ds : List D} {vs : List V} {ps : List PyData}, RsL E H ds vs → toPyL ds = some ps → DpAll E.K H vs ps
  | [], vs, ps, h, e => by
    unfold RsL at h; unfold toPyL at e
    cases e; subst h; exact .nil
  | d :: ds, vs, ps, h, e => by
    unfold RsL at h; unfold toPyL at e
    obtain ⟨v, r, rfl, h2, h3⟩ := h
    cases q1 : toPy d with
    | none => rw [q1] at e; cases e
    | some p =>
      cases q2 : toPyL ds with
      | none => rw [q1, q2] at e; cases e
      | some qs => rw [q1, q2] at e; cases e; exact .cons (dp_of h2 q1) (dpL_of h3 q2)
end
/-- == as a bool, where the model can tell -/
def eqB (x y : D) : Option Bool := match toPy x, toPy y with
  | some p, some q => match SeqAt.shaped p && SeqAt.shaped q with
    | true => some (PyData.eqv p q)
    | false => none
  | _, _ => none
def dEq (x y : D) : Option D := (eqB x y).map D.bl
def dNe (x y : D) : Option D := (eqB x y).map fun b => D.bl (!b)
theorem eqB_some {x y : D} {b : Bool} (h : eqB x y = some b) : ∃ p q, toPy x = some p ∧ toPy y = some q ∧ SeqAt.shaped p = true ∧ SeqAt.shaped q = true ∧ b = PyData.eqv p q := by
  unfold eqB at h
  split at h
  · rename_i p q e1 e2
    split at h
    · rename_i hs
      rw [Bool.and_eq_true] at hs
      exact ⟨p, q, e1, e2, hs.1, hs.2, (Option.some.inj h).symm⟩
    · cases h
  · cases h
theorem ans_eq : Ans2 c (rEqD c.E.K) dEq := fun h H dx dy d x y Q e rx ry hf k => by
  obtain ⟨b, hb, rfl⟩ := Option.map_eq_some_iff.mp hf
  obtain ⟨p, q, e1, e2, s1, s2, rfl⟩ := eqB_some hb
  exact ⟨p, q, dp_of (Rs.mono e rx) e1, dp_of ry e2, s1, s2, k _ (by unfold Rs; rfl)⟩
theorem ans_ne : Ans2 c (rNeD c.E.K) dNe := fun h H dx dy d x y Q e rx ry hf k => by
  obtain ⟨b, hb, rfl⟩ := Option.map_eq_some_iff.mp hf
  obtain ⟨p, q, e1, e2, s1, s2, rfl⟩ := eqB_some hb
  exact ⟨p, q, dp_of (Rs.mono e rx) e1, dp_of ry e2, s1, s2, k _ (by unfold Rs; rfl)⟩
theorem scal_eq : Scal2 dEq := fun x y d hf => by
  obtain ⟨b, hb, rfl⟩ := Option.map_eq_some_iff.mp hf
  rfl
theorem scal_ne : Scal2 dNe := fun x y d hf => by
  obtain ⟨b, hb, rfl⟩ := Option.map_eq_some_iff.mp hf
  rfl
theorem zEq (hK : c.E.K = X.K) (hu : X.A.units + 64 < cLine) (ha : PE X a (tE c W md1 m1 ma)) (hb : PE X b (tE c W md2 m2 mb)) (hm : (md1 || m2.isEmpty) = true := by rfl) : PE X (.Compare a [.Eq] [b] pos) (tE c W true (m1 ++ m2) (m2x dEq ma mb)) :=
  PEw (pe_cmpR (op_eqD hu) ha hb (nomark _)) (w_opS (hK ▸ ans_eq) scal_eq hm)
theorem yEq (hK : c.E.K = X.K) (hu : X.A.units + 64 < cLine) (ha : PE X a (tE c W md1 m1 ma)) (hb : PE X b (tE c W md2 m2 mb)) (hm : (md1 || m2.isEmpty) = true := by rfl) : PT X (.Compare a [.Eq] [b] pos) (tT c W (m1 ++ m2) (mTst (m2x dEq ma mb))) :=
  PTw (pt_cmpR (op_eqD hu) ha hb (nomark _)) (w_tst (w_opS (hK ▸ ans_eq) scal_eq hm))
theorem yNe (hK : c.E.K = X.K) (hu : X.A.units + 64 < cLine) (ha : PE X a (tE c W md1 m1 ma)) (hb : PE X b (tE c W md2 m2 mb)) (hm : (md1 || m2.isEmpty) = true := by rfl) : PT X (.Compare a [.NotEq] [b] pos) (tT c W (m1 ++ m2) (mTst (m2x dNe ma mb))) :=
  PTw (pt_cmpR (op_neD hu) ha hb (nomark _)) (w_tst (w_opS (hK ▸ ans_ne) scal_ne hm))

/-! ### in, of scalars -/
def eqS : D → D → Bool
  | .non, .non => true
  | .bl a, .bl b => a == b
  | .bl a, .int b => (if a then 1 else 0) == b
  | .int a, .bl b => a == (if b then 1 else 0)
  | .int a, .int b => a == b
  | .str a, .str b => a == b
  | _, _ => false
def sv : D → V
  | .bl b => .bl b
  | .int i => .int i
  | .str x => .str x
  | _ => .non
theorem rs_sv {E : Ev} {H : Hp} {d : D} {v : V} (s : isScal d = true) (h : Rs E H d v) : v = sv d := by
  cases d <;> first | (unfold Rs at h; exact h) | cases s
theorem rsL_sv {E : Ev} {H : Hp} : ∀ {ds : List D} {vs : List V}, RsL E H ds vs → ds.all isScal = true → vs = ds.map sv
  | [], vs, h, _ => by
    unfold RsL at h
    exact h
  | d :: ds, vs, h, s => by
    unfold RsL at h
    obtain ⟨v, r, rfl, h2, h3⟩ := h
    rw [List.all_cons, Bool.and_eq_true] at s
    rw [rs_sv s.1 h2, rsL_sv h3 s.2]
    rfl
theorem sv_rs {E : Ev} {H : Hp} {d : D} (s : isScal d = true) : Rs E H d (sv d) := by
  cases d <;> first | (unfold Rs; rfl) | cases s
theorem sv_rsL {E : Ev} {H : Hp} : ∀ {ds : List D}, ds.all isScal = true → RsL E H ds (ds.map sv)
  | [], _ => .nil
  | d :: ds, s => by
    rw [List.all_cons, Bool.and_eq_true] at s
    exact .cons (sv_rs s.1) (sv_rsL s.2)
def inB (x : D) : D → Option Bool
  | .lst ds => match isScal x && ds.all isScal with
    | true => some (ds.any fun y => eqS y x)
    | false => none
  | .tup ds => match isScal x && ds.all isScal with
    | true => some (ds.any fun y => eqS y x)
    | false => none
  | _ => none
def dIn (x y : D) : Option D := (inB x y).map D.bl
def dNi (x y : D) : Option D := (inB x y).map fun b => D.bl (!b)
/-! ### items -/
def dIx : D → D → Option D
  | .lst ds, .int i => atI ds i
  | .tup ds, .int i => atI ds i
  | _, _ => none
theorem rs_atI {E : Ev} {H : Hp} {ds : List D} {vs : List V} {i : Int} {d : D} (h : RsL E H ds vs) (e : atI ds i = some d) : ∃ v, atI vs i = some v ∧ Rs E H d v := by
  unfold atI at e ⊢
  rw [← RsL.length h]
  cases q : ixN ds.length i with
  | none => rw [q] at e; cases e
  | some j =>
    rw [q] at e
    exact RsL.get h e
theorem ans_ix : Ans2 c (fun x y H Q => rIxL c.E.K x y H Q ∨ rIxT c.E.K x y H Q) dIx := fun h H dx dy d x y Q e rx ry hf k => by
  unfold dIx at hf
  split at hf
  · rename_i ds i
    unfold Rs at rx ry
    obtain ⟨p, xs, rfl, h2, h3⟩ := rx
    obtain ⟨v, h4, h5⟩ := rs_atI h3 hf
    exact .inl ⟨p, xs, i, v, rfl, ry, SqL.of (e.hard h2 rfl), h4, k v h5⟩
  · rename_i ds i
    unfold Rs at rx ry
    obtain ⟨p, xs, rfl, h2, h3⟩ := rx
    obtain ⟨v, h4, h5⟩ := rs_atI h3 hf
    exact .inr ⟨p, xs, i, v, rfl, ry, e.seqt h2.sq, h4, k v h5⟩
  · cases hf
theorem zIx (hK : c.E.K = X.K) (ha : PE X a (tE c W md1 m1 ma)) (hb : PE X b (tE c W md2 m2 mb)) (hm : (md1 || m2.isEmpty) = true := by rfl) (hs : PlainIx b := by exact fun _ _ => rfl) : PE X (.Subscript a b pos) (tE c W md1 (m1 ++ m2) (m2x dIx ma mb)) :=
  PEw (pe_ix (ix_list.or ix_tup) ha hb hs) (w_op (hK ▸ ans_ix) hm)

/-! ### truth -/
def mAnd (a b : M Bool) : M Bool := fun S => (a S).bd fun x S1 => match x with
  | true => b S1
  | false => .ok false S1
def mOr (a b : M Bool) : M Bool := fun S => (a S).bd fun x S1 => match x with
  | true => .ok true S1
  | false => b S1
def mNot (a : M Bool) : M Bool := fun S => (a S).bd fun x S1 => .ok (!x) S1
def mIf {α : Type} (t : M Bool) (a b : M α) : M α := fun S => (t S).bd fun x S1 => match x with
  | true => a S1
  | false => b S1
variable {ta tb : M Bool} {rest : List Expr}
theorem tT_trans {c : Ctx} {W : XK} {G G1 : Hp} {S S1 : List Sl} {As As1 : Nat → List Addr} {τ : List V} {σ : L2.St} {H H1 : Hp} {Q : Bool → Hp → Prop} {m : M Bool} {x : Out Bool}
    (R1 : Real c G1 S1 As1 τ σ H1) (P1 : Post m1 S S1 As As1 G G1 H H1) (k : fin c W (m S1) fun b S' => ∀ G' As' H', Real c G' S' As' τ σ H' → Post (m1 ++ m2) S S' As As' G G' H H' → Q b H') : tT c W m2 m σ H1 Q :=
  ⟨G1, S1, As1, τ, R1, fin_mono k fun b S2 e k2 G' As' H' R' P' => k2 G' As' H' R' (P1.trans P')⟩
theorem w_or (σ : L2.St) (H : Hp) (Q : Bool → Hp → Prop) (h : tT c W (m1 ++ m2) (mOr ta tb) σ H Q) : tOr (tT c W m1 ta) (tT c W m2 tb) σ H Q := by
  obtain ⟨G, S, As, τ, R, q⟩ := h
  refine ⟨G, S, As, τ, R, fin_mono (fin_bd q) fun x S1 e1 k => ?_⟩
  intro G1 As1 H1 R1 P1
  cases x with
  | true =>
    rw [if_pos rfl]
    exact k G1 As1 H1 R1 (P1.mono fun j hj => List.mem_append_left _ hj)
  | false =>
    rw [if_neg Bool.false_ne_true]
    exact tT_trans (x := .bad) R1 P1 k
theorem w_not (σ : L2.St) (H : Hp) (Q : Bool → Hp → Prop) (h : tT c W mods (mNot ta) σ H Q) : tNot (tT c W mods ta) σ H Q := by
  obtain ⟨G, S, As, τ, R, q⟩ := h
  exact ⟨G, S, As, τ, R, fin_mono (fin_bd q) fun x S1 e1 k => k⟩
theorem yOr1 (ha : PT X a (tT c W m1 ta)) : PW X (.BoolOp .Or [a] pos) (tT c W m1 ta) := pw_or1 ha
theorem yOr (ha : PT X a (tT c W m1 ta)) (hb : PW X (.BoolOp .Or (b :: rest) pos) (tT c W m2 tb)) : PW X (.BoolOp .Or (a :: b :: rest) pos) (tT c W (m1 ++ m2) (mOr ta tb)) := PWw (pw_or ha hb) w_or
theorem yNot (ha : PT X a (tT c W m1 ta)) : PT X (.UnaryOp .Not a pos) (tT c W m1 (mNot ta)) := PTw (pt_not ha) w_not
/-- an answer True or False as a test -/
theorem yVal (h : PE X e (tE c W md mods ma)) (he : ∀ whole, isTrue e X.env whole = (do let v ← whole; standAt e.pos; holding [v] (truthy v)) := by intro _; rfl) : PT X e (tT c W mods (mTst ma)) :=
  PTw (pt_val h he) fun σ H Q ⟨G, S, As, τ, R, q⟩ => by
    refine ⟨G, S, As, τ, R, fin_mono (fin_bd q) fun d S1 e1 k => ?_⟩
    intro v G' As' H' R' P r
    cases d with
    | bl b =>
      unfold Rs at r
      exact ⟨b, r, k G' As' H' R' P⟩
    | _ => exact k.elim
/-- and, or, not as values: bools -/
def mBl (t : M Bool) : M D := fun S => (t S).bd fun b S => .ok (.bl b) S
theorem zAnd1 {op : BoolOp} (ha : PE X a (tE c W md m1 ma)) : PE X (.BoolOp op [a] pos) (tE c W md m1 ma) := pe_one ha
theorem zAndV (ha : PE X a (tE c W md1 m1 ma)) (hb : PE X (.BoolOp .And (b :: rest) pos) (tE c W md2 m2 mb)) : PE X (.BoolOp .And (a :: b :: rest) pos) (tE c W true (m1 ++ m2) (mBl (mAnd (mTst ma) (mTst mb)))) :=
  PEw (pe_and ha hb) fun σ H Q ⟨G, S, As, τ, R, q⟩ => by
    refine ⟨G, S, As, τ, R, fin_mono (fin_bd (fin_bd (fin_bd q))) fun d S1 e1 k => ?_⟩
    intro v G1 As1 H1 R1 P1 r1
    cases d with
    | bl x =>
      unfold Rs at r1
      refine ⟨x, r1, ?_⟩
      cases x with
      | true =>
        have k1 : fin c W (mTst mb S1) _ := k
        rw [if_pos rfl]
        refine ⟨G1, S1, As1, τ, R1, fin_mono (fin_bd k1) fun d2 S2 e2 k2 => ?_⟩
        intro u G2 As2 H2 R2 P2 r2
        cases d2 with
        | bl y => exact k2 u G2 As2 H2 R2 (P1.trans P2) (scal_any rfl r2)
        | _ => exact k2.elim
      | false =>
        rw [if_neg Bool.false_ne_true]
        exact k _ G1 As1 H1 R1 (P1.mono fun j hj => List.mem_append_left _ hj) (by unfold Rs; rfl)
    | _ => exact k.elim
theorem zNotV (ha : PE X a (tE c W md1 m1 ma)) : PE X (.UnaryOp .Not a pos) (tE c W true m1 (mBl (mNot (mTst ma)))) :=
  PEw (pe_not ha) fun σ H Q ⟨G, S, As, τ, R, q⟩ => by
    refine ⟨G, S, As, τ, R, fin_mono (fin_bd (fin_bd (fin_bd q))) fun d S1 e1 k => ?_⟩
    intro v G1 As1 H1 R1 P1 r1
    cases d with
    | bl x =>
      unfold Rs at r1
      exact ⟨x, r1, k _ G1 As1 H1 R1 P1 (by unfold Rs; rfl)⟩
    | _ => exact k.elim
theorem Frs.mono {As : Nat → List Addr} {H : Hp} {A : List Addr} (f : Frs m1 As H A) (h : ∀ j ∈ m1, j ∈ m2) : Frs m2 As H A := fun a ha => (f a ha).imp id fun ⟨k, hk, z⟩ => ⟨k, h k hk, z⟩
theorem Frs.later {S S1 : List Sl} {As As1 : Nat → List Addr} {G G1 H H1 : Hp} {A : List Addr} (P : Post m1 S S1 As As1 G G1 H H1) (f : Frs m2 As1 H1 A) : Frs (m1 ++ m2) As H A := fun a ha => by
  rcases f a ha with z | ⟨k, hk, z⟩
  · left
    cases e : H a with
    | none => rfl
    | some o => exact absurd z (P.stay a (by rw [e]; exact fun z => nomatch z))
  · rcases P.new k a z with q | ⟨k', hk', q⟩ | q
    · exact .inr ⟨k, List.mem_append_right _ hk, q⟩
    · exact .inr ⟨k', List.mem_append_left _ hk', q⟩
    · exact .inl q
theorem Frs.one {S S1 : List Sl} {As As1 : Nat → List Addr} {G G1 H H1 : Hp} {p : Addr} (P : Post mods S S1 As As1 G G1 H H1) (h : H1 p = none) : Frs mods As H [p] := fun a ha => by
  obtain rfl : a = p := by simpa using ha
  left
  cases e : H a with
  | none => rfl
  | some o => exact absurd h (P.stay a (by rw [e]; exact fun z => nomatch z))
/-! ### arguments, all of one mode -/
def tA (c : Ctx) (X : XK) (md : Bool) (mods : List Nat) (m : M (List D)) : TA := fun σ H Q => ∃ G S As τ, Real c G S As τ σ H ∧ fin c X (m S) fun ds S' =>
  ∀ vs G' As' H', Real c G' S' As' τ σ H' → Post mods S S' As As' G G' H H' → RsL c.E (hp md G' H') ds vs → Q vs H'
def mCons {α : Type} (a : M α) (r : M (List α)) : M (List α) := fun S => (a S).bd fun x S1 => (r S1).bd fun xs S2 => .ok (x :: xs) S2
theorem PAw {es : List Expr} {t t' : TA} (h : PA X es t) (w : ∀ σ H Q, t' σ H Q → t σ H Q) : PA X es t' := ⟨fun p pins s σ H Q I q => h.run p pins s σ H Q I (w σ H Q q)⟩
theorem zNil : PA X [] (tA c W md [] (mC [])) := PAw pa_nil fun σ H Q ⟨G, S, As, τ, R, q⟩ => q [] G As H R Post.refl .nil
theorem zCons {es : List Expr} {mr : M (List D)} (ha : PE X e (tE c W md m1 ma)) (hr : PA X es (tA c W md m2 mr)) (hm : (md || m2.isEmpty) = true := by rfl) (hs : starEach (e :: es) X.env = (false, eval e X.env) :: starEach es X.env := by rfl) :
    PA X (e :: es) (tA c W md (m1 ++ m2) (mCons ma mr)) := PAw (pa_cons ha hr hs) fun σ H Q ⟨G, S, As, τ, R, q⟩ => by
  refine ⟨G, S, As, τ, R, fin_mono (fin_bd q) fun d S1 e1 k => ?_⟩
  intro v G1 As1 H1 R1 P1 r1
  refine ⟨G1, S1, As1, τ, R1, fin_mono (fin_bd k) fun ds S2 e2 k2 => ?_⟩
  intro vs G2 As2 H2 R2 P2 r2
  exact k2 (v :: vs) G2 As2 H2 R2 (P1.trans P2) (.cons (rs_later hm P2 r1) r2)
/-- r answers f by a scalar -/
def AnsL (c : Ctx) (r : List V → Hp → VK → Prop) (f : List D → Option D) : Prop := ∀ (H : Hp) (ds : List D) (d : D) (vs : List V) (Q : VK), RsL c.E H ds vs → f ds = some d → isScal d = true ∧ ((∀ v, Rs c.E H d v → Q v H) → r vs H Q)
theorem w_cb {r : List V → Hp → VK → Prop} {f : List D → Option D} {m : M (List D)} (hr : AnsL c r f) (σ : L2.St) (H : Hp) (Q : VK) (h : tE c W true mods (m1x f m) σ H Q) : tCB r (tA c W md mods m) σ H Q := by
  obtain ⟨G, S, As, τ, R, q⟩ := h
  refine ⟨G, S, As, τ, R, fin_mono (fin_bd q) fun ds S1 e1 k => ?_⟩
  intro vs G1 As1 H1 R1 P1 r1
  cases hf : f ds with
  | none =>
    rw [hf] at k
    exact k.elim
  | some d =>
    rw [hf] at k
    obtain ⟨h1, h2⟩ := hr H1 ds d vs Q (RsL.mono (hp_ex R1.exG) r1) hf
    exact h2 fun w hw => k w G1 As1 H1 R1 P1 (scal_any h1 hw)
/-- the items of a new list -/
def mkL (md : Bool) (ds : List D) : Option O := match md || ds.all isScal with
  | true => some (.lst (ds.map .sh))
  | false => none
theorem rsL_any {E : Ev} {H H' : Hp} {ds : List D} {vs : List V} (s : ds.all isScal = true) (h : RsL E H ds vs) : RsL E H' ds vs := by
  rw [rsL_sv h s]
  exact sv_rsL s
/-- r gives a new list of f's items -/
def AnsN (c : Ctx) (r : List V → Hp → VK → Prop) (f : List D → Option (List D)) : Prop := ∀ (h H : Hp) (ds es : List D) (vs : List V) (Q : VK), Ex h H → RsL c.E h ds vs → f ds = some es →
  (∀ p xs, H p = none → RsL c.E h es xs → Q (.ref p) (upd H p (.lst xs))) → r vs H Q
theorem new_list {G G1 H1 H0 : Hp} {S S1 : List Sl} {As As1 : Nat → List Addr} {τ : List V} {σ : L2.St} {es : List D} {xs : List V} {p : Addr} {o : O} {Q : VK} (R1 : Real c G1 S1 As1 τ σ H1) (P1 : Post mods S S1 As As1 G G1 H0 H1) (hp0 : H1 p = none)
    (r : RsL c.E (hp md G1 H1) es xs) (ho : mkL md es = some o)
    (k : ∀ v A G' As' H', Real c G' S1 As' τ σ H' → Post mods S S1 As As' G G' H0 H' → Ro c.E G' H' o v A → New c G' As' A → Frs mods As H0 A → Q v H') : Q (.ref p) (upd H1 p (.lst xs)) := by
  have r' : RsL c.E G1 es xs ∧ o = .lst (es.map .sh) := by
    unfold mkL at ho
    cases md with
    | true => exact ⟨r, (Option.some.inj ho).symm⟩
    | false =>
      cases hs : es.all isScal with
      | false => rw [hs] at ho; cases ho
      | true => rw [hs] at ho; exact ⟨rsL_any hs r, (Option.some.inj ho).symm⟩
  obtain ⟨r', rfl⟩ := r'
  have R2 := R1.keep (Keep.new (o := .lst xs) hp0)
  refine k (.ref p) [p] G1 As1 _ R2 ?_ ?_ (R1.new1 hp0) (Frs.one P1 hp0)
  · have P2 : Post mods S1 S1 As1 As1 G1 G1 H1 (upd H1 p (.lst xs)) := Post.of_keep (Ex.refl _) (Keep.new hp0) fun _ _ => rfl
    exact (P1.trans P2).mono fun j hj => (List.mem_append.mp hj).elim id id
  · unfold Ro
    exact ⟨p, xs, [], rfl, rfl, upd_same, RoL.sh r'⟩
theorem w_cbN {r : List V → Hp → VK → Prop} {f : List D → Option (List D)} {m : M (List D)} (hr : AnsN c r f) (σ : L2.St) (H : Hp) (Q : VK) (h : tO c W mods (m1x (fun ds => (f ds).bind (mkL md)) m) σ H Q) : tCB r (tA c W md mods m) σ H Q := by
  obtain ⟨G, S, As, τ, R, q⟩ := h
  refine ⟨G, S, As, τ, R, fin_mono (fin_bd q) fun ds S1 e1 k => ?_⟩
  intro vs G1 As1 H1 R1 P1 r1
  have k' : fin c W (oo ((f ds).bind (mkL md)) S1) _ := k
  cases hf : f ds with
  | none =>
    rw [hf] at k'
    exact k'.elim
  | some es =>
    rw [hf, Option.bind_some] at k'
    cases ho : mkL md es with
    | none =>
      rw [ho] at k'
      exact k'.elim
    | some o =>
      rw [ho] at k'
      exact hr (hp md G1 H1) H1 ds es vs Q (hp_ex R1.exG) r1 hf fun p xs hp0 rx => new_list R1 P1 hp0 rx ho k'
/-! lists, tuples as displayed, their items shared -/
def dLst (ds : List D) : Option O := match decide (ds.length ≤ sizeLine) with
  | true => some (.lst (ds.map .sh))
  | false => none
def dTup (ds : List D) : Option O := match decide (ds.length ≤ sizeLine) with
  | true => some (.tup (ds.map .sh))
  | false => none
theorem zLst {es : List Expr} {m : M (List D)} (h : PA X es (tA c W true mods m)) : PE X (.List es pos) (tO c W mods (m1x dLst m)) := PEw (pe_lst h) fun σ H Q ⟨G, S, As, τ, R, q⟩ => by
  refine ⟨G, S, As, τ, R, fin_mono (fin_bd q) fun ds S1 e1 k => ?_⟩
  intro vs G1 As1 H1 R1 P1 r1
  unfold dLst at k
  cases hl : decide (ds.length ≤ sizeLine) with
  | false =>
    rw [hl] at k
    exact k.elim
  | true =>
    rw [hl] at k
    refine ⟨by rw [← RsL.length r1]; exact of_decide_eq_true hl, fun p hp0 => ?_⟩
    exact new_list (md := true) R1 P1 hp0 r1 rfl k
theorem zTup {es : List Expr} {m : M (List D)} {x1 : Nat} (h : PA X es (tA c W true mods m)) : PE X (.Tuple es x1 pos) (tO c W mods (m1x dTup m)) := PEw (pe_tup h) fun σ H Q ⟨G, S, As, τ, R, q⟩ => by
  refine ⟨G, S, As, τ, R, fin_mono (fin_bd q) fun ds S1 e1 k => ?_⟩
  intro vs G1 As1 H1 R1 P1 r1
  unfold dTup at k
  cases hl : decide (ds.length ≤ sizeLine) with
  | false =>
    rw [hl] at k
    exact k.elim
  | true =>
    rw [hl] at k
    refine ⟨by rw [← RsL.length r1]; exact of_decide_eq_true hl, fun p hp0 => ?_⟩
    have R2 := R1.keep (Keep.new (o := .tup vs) hp0)
    refine k (.ref p) [p] G1 As1 _ R2 ?_ ?_ (R1.new1 hp0) (Frs.one P1 hp0)
    · have P2 : Post mods S1 S1 As1 As1 G1 G1 H1 (upd H1 p (.tup vs)) := Post.of_keep (Ex.refl _) (Keep.new hp0) fun _ _ => rfl
      exact (P1.trans P2).mono fun j hj => (List.mem_append.mp hj).elim id id
    · unfold Ro
      exact ⟨p, vs, [], rfl, rfl, upd_same, RoL.sh r1⟩
end
end Z

/-! Z5: statements, loops, comprehensions. -/
namespace Z
open PySem PySem.Spec PyProof.Rows L2

inductive OutS where
  | next (S : List Sl) | ret (o : O) (S : List Sl) | brk (S : List Sl) | cont (S : List Sl)
  | exc (C : Str) (fs : List Str) (ds : List D) (S : List Sl) | bad
abbrev MS := List Sl → OutS
def okS (c : Ctx) (X : XK) (Dn : Ends) : OutS → Prop
  | .next S => ∀ G As σ H, Real c G S As [] σ H → Dn.nx σ H
  | .brk S => ∀ G As σ H, Real c G S As [] σ H → Dn.bk σ H
  | .cont S => ∀ G As σ H, Real c G S As [] σ H → Dn.ct σ H
  | .ret o S => ∀ v A G As τ σ H, Real c G S As τ σ H → Ro c.E G H o v A → New c G As A → Dn.rt v H
  | .exc C fs ds S => ∀ G As τ σ H dd, Real c G S As τ σ H → ExcAt c.E G H fs ds dd → X (.ref (c.E.ca C)) dd H
  | .bad => False
def tS (c : Ctx) (X : XK) (m : MS) : TS := fun Dn σ H => ∃ G S As, Real c G S As [] σ H ∧ okS c X Dn (m S)
def Out.sd {α : Type} (x : Out α) (k : α → List Sl → OutS) : OutS := match x with
  | .ok a S => k a S
  | .exc C fs ds S => .exc C fs ds S
  | .bad => .bad
theorem ok_sd {α : Type} {c : Ctx} {X : XK} {Dn : Ends} {x : Out α} {k : α → List Sl → OutS} (h : okS c X Dn (x.sd k)) : fin c X x fun a S => okS c X Dn (k a S) := by
  cases x with
  | ok a S => exact h
  | exc C fs ds S => exact h
  | bad => exact h
theorem PSsw {X : Cx} {st : List Stmt} {t t' : TS} (h : PSs X st t) (w : ∀ D σ H, t' D σ H → t D σ H) : PSs X st t' := ⟨fun pins s σ H D I q => h.run pins s σ H D I (w D σ H q)⟩

def sNext : MS := fun S => .next S
def sSeq (a b : MS) : MS := fun S => match a S with
  | .next S1 => b S1
  | .ret o S1 => .ret o S1
  | .brk S1 => .brk S1
  | .cont S1 => .cont S1
  | .exc C fs ds S1 => .exc C fs ds S1
  | .bad => .bad
section
variable {X : Cx} {c : Ctx} {W : XK} {mods m1 m2 : List Nat} {md md1 md2 : Bool} {e a b : Expr} {pos : Pos} {ma : M D} {mo : M O} {st : Stmt} {rest body : List Stmt} {s t u : MS}
theorem zDone : PSs X [] (tS c W sNext) := PSsw pss_nil fun D σ H ⟨G, S, As, R, q⟩ => q G As σ H R
theorem zSeq (h1 : PS X st (tS c W s)) (h2 : PSs X rest (tS c W t)) : PSs X (st :: rest) (tS c W (sSeq s t)) := PSsw (pss_cons h1 h2) fun D σ H ⟨G, S, As, R, q⟩ => by
  refine ⟨G, S, As, R, ?_⟩
  unfold sSeq at q
  cases hs : s S with
  | next S1 =>
    rw [hs] at q
    intro G' As' σ' H' R'
    exact ⟨G', S1, As', R', q⟩
  | ret o S1 =>
    rw [hs] at q
    exact q
  | brk S1 =>
    rw [hs] at q
    exact q
  | cont S1 =>
    rw [hs] at q
    exact q
  | exc C fs ds S1 =>
    rw [hs] at q
    exact q
  | bad =>
    rw [hs] at q
    exact q
theorem zOne (h1 : PS X st (tS c W s)) : PSs X [st] (tS c W s) := pss_one h1
def sBrk : MS := fun S => .brk S
def sCnt : MS := fun S => .cont S
/-- a way that is never gone -/
def sBad : MS := fun _ => .bad
/-! if -/
def sIf (t : M Bool) (a b : MS) : MS := fun S => (t S).sd fun x S1 => match x with
  | true => a S1
  | false => b S1
theorem zIf {tc : M Bool} {x y : List Stmt} {e : Expr} (ht : PT X e (tT c W mods tc)) (ha : PSs X x (tS c W s)) (hb : PSs X y (tS c W t)) : PS X (.If e x y pos) (tS c W (sIf tc s t)) := PSw (ps_if ht ha hb) fun D σ H ⟨G, S, As, R, q⟩ => by
  refine ⟨G, S, As, [], R, fin_mono (ok_sd q) fun x S1 e1 k => ?_⟩
  intro G1 As1 H1 R1 P1
  cases x with
  | true =>
    rw [if_pos rfl]
    exact ⟨G1, S1, As1, R1, k⟩
  | false =>
    rw [if_neg Bool.false_ne_true]
    exact ⟨G1, S1, As1, R1, k⟩
/-! return -/
def sRet (m : M O) : MS := fun S => (m S).sd fun o S1 => .ret o S1
def sRetN : MS := fun S => .ret (.sh .non) S
theorem zRet (h : PE X e (tO c W mods mo)) : PS X (.Return (some e) pos) (tS c W (sRet mo)) := PSw (ps_ret h) fun D σ H ⟨G, S, As, R, q⟩ => by
  refine ⟨G, S, As, [], R, fin_mono (ok_sd q) fun o S1 e1 k => ?_⟩
  intro v A G1 As1 H1 R1 P1 r1 N1 _
  exact k v A G1 As1 [] σ H1 R1 r1 N1
/-! an expression alone -/
def sDrop {α : Type} (m : M α) : MS := fun S => (m S).sd fun _ S1 => .next S1
/-! ### targets -/
abbrev Tg := D → List Sl → Option (List Sl)
abbrev Tgs := List D → List Sl → Option (List Sl)
/-- just the slots ts were changed, none of them holds a thing of one's own now -/
structure Chg (ts : List Nat) (S S' : List Sl) (As As' : Nat → List Addr) (σ σ' : L2.St) : Prop where
  sl : ∀ j, j ∉ ts → S'[j]? = S[j]? ∧ As' j = As j ∧ σ'[j]? = σ[j]?
  sub : ∀ j a, a ∈ As' j → a ∈ As j
  len : S'.length = S.length
  lenσ : σ'.length = σ.length
theorem Chg.refl {ts : List Nat} {S : List Sl} {As : Nat → List Addr} {σ : L2.St} : Chg ts S S As As σ σ := ⟨fun _ _ => ⟨rfl, rfl, rfl⟩, fun _ _ h => h, rfl, rfl⟩
theorem Chg.trans {t1 t2 : List Nat} {S S1 S2 : List Sl} {As As1 As2 : Nat → List Addr} {σ σ1 σ2 : L2.St} (a : Chg t1 S S1 As As1 σ σ1) (b : Chg t2 S1 S2 As1 As2 σ1 σ2) : Chg (t1 ++ t2) S S2 As As2 σ σ2 :=
  ⟨fun j hj => by
    obtain ⟨h1, h2, h3⟩ := a.sl j fun z => hj (List.mem_append_left _ z)
    obtain ⟨h4, h5, h6⟩ := b.sl j fun z => hj (List.mem_append_right _ z)
    exact ⟨h4.trans h1, h5.trans h2, h6.trans h3⟩, fun j x h => a.sub j x (b.sub j x h), b.len.trans a.len, b.lenσ.trans a.lenσ⟩
def gT (c : Ctx) (ts : List Nat) (g : Tg) : TG := fun v σ H Q => ∃ G S As τ d, Real c G S As τ σ H ∧ Rs c.E G d v ∧ match g d S with
  | some S' => ∀ σ' As', Real c G S' As' τ σ' H → Chg ts S S' As As' σ σ' → Q σ' H
  | none => False
theorem PGl {tg : Expr} {t t' : TG} (h : PG X tg t) (w : ∀ v σ H Q, σ.length = X.N.length → t' v σ H Q → t v σ H Q) : PG X tg t' := ⟨fun pins s σ H v u Q I r q => h.run pins s σ H v u Q I r (w v σ H Q I.len q)⟩
def gNm (i : Nat) : Tg := fun d S => some (S.set i (.pl d))
theorem zNm {i : Nat} {x : Str} (hN : X.N.Nodup) (hi : X.N[i]? = some x) (hx : Loc X.env.scope x) (hio : i ∉ c.io) (hf : X.fn x = true ∨ X.env.scope.names.lookup x = some .local := by first | exact .inl rfl | exact .inr rfl | assumption) :
    PG X (.Name x pos) (gT c [i] (gNm i)) := PGl (pg_name hN hi hx hf) fun v σ H Q hl ⟨G, S, As, τ, d, R, r, k⟩ => by
  have hlt : i < σ.length := by rw [hl]; exact (List.getElem?_eq_some_iff.mp hi).1
  refine k _ _ (R.put (s := .pl d) (v := v) (A := []) hlt hio New.nil ⟨rfl, v, rfl, r⟩) ⟨fun j hj => ?_, fun j a h => ?_, List.length_set, List.length_set⟩
  · have hne : j ≠ i := fun z => hj (by rw [z]; exact List.mem_cons_self)
    exact ⟨List.getElem?_set_ne (Ne.symm hne), upA_ne hne, List.getElem?_set_ne (Ne.symm hne)⟩
  · by_cases hne : j = i
    · rw [hne, upA_same] at h; cases h
    · rw [upA_ne hne] at h; exact h
def gsNil : Tgs := fun ds S => match ds with
  | [] => some S
  | _ => none
def gsCons (g : Tg) (r : Tgs) : Tgs := fun ds S => match ds with
  | [] => none
  | d :: ds => match g d S with
    | some S1 => r ds S1
    | none => none
def gTp (n : Nat) (r : Tgs) : Tg := fun d S => match d with
  | .tup ds => match decide (ds.length = n) with
    | true => r ds S
    | false => none
  | _ => none
/-! ### assignments -/
def sAsg (m : M D) (g : Tg) : MS := fun S => (m S).sd fun d S1 => match g d S1 with
  | some S2 => .next S2
  | none => .bad
theorem w_asg {m : M D} {g : Tg} {ts : List Nat} (D : Ends) (σ : L2.St) (H : Hp) (h : tS c W (sAsg m g) D σ H) : tAsg (tE c W true mods m) (gT c ts g) D σ H := by
  obtain ⟨G, S, As, R, q⟩ := h
  refine ⟨G, S, As, [], R, fin_mono (ok_sd q) fun d S1 e1 k => ?_⟩
  intro v G1 As1 H1 R1 P1 r1
  refine ⟨G1, S1, As1, [], d, R1, r1, ?_⟩
  cases hg : g d S1 with
  | none =>
    rw [hg] at k
    exact k.elim
  | some S2 =>
    rw [hg] at k
    intro σ' As' R' _
    exact k G1 As' σ' H1 R'
theorem zAsg {tg : Expr} {g : Tg} {ts : List Nat} (h : PE X e (tE c W true mods ma)) (hg : PG X tg (gT c ts g)) (hs : swapsWithSole [tg] e pos.line X.env = pure false := by rfl) (hw : swappedStores [tg] e X.env = pure none := by rfl)
    (h1 : (assignEach [tg] X.env).map (·.2) = [assign tg X.env] := by rfl) : PS X (.Assign [tg] e pos) (tS c W (sAsg ma g)) :=
  PSw (ps_asg h hg hs hw h1) w_asg
def sOwn (m : M O) (i : Nat) : MS := fun S => (m S).sd fun o S1 => .next (S1.set i (.ow o))
/-! ### while -/
/-! ### what is walked -/
/-- J walks ds, as long as what G has stands -/
structure Walks (E : Ev) (J : It) (G : Hp) (ds : List D) : Prop where
  go : ∀ i H, Ex G H → i < ds.length → J.go i H
  stop : ∀ i H, Ex G H → ds.length ≤ i → J.stop i H
  yld : ∀ i H x H', Ex G H → i < ds.length → J.yld i H x H' → Keep H H' ∧ ∃ B d, ds[i]? = some d ∧ (∀ b ∈ B, H b = none) ∧ B.Nodup ∧ ∀ G2, Ex G G2 → Ex G2 H → Rs E (frz G2 H' B) d x
def tI (c : Ctx) (X : XK) (mods : List Nat) (m : M (List D)) : TI := fun σ H R => ∃ G S As τ, Real c G S As τ σ H ∧ fin c X (m S) fun ds S' =>
  ∀ J G' As' H', Real c G' S' As' τ σ H' → Post mods S S' As As' G G' H H' → Walks c.E J G' ds → R J H'
def forGo (g : Tg) (b : MS) : List D → MS
  | [] => fun S => .next S
  | d :: ds => fun S => match g d S with
    | none => .bad
    | some S1 => match b S1 with
      | .next S2 => forGo g b ds S2
      | .cont S2 => forGo g b ds S2
      | .brk S2 => .next S2
      | .ret o S2 => .ret o S2
      | .exc C fs ds S2 => .exc C fs ds S2
      | .bad => .bad
def sFor (m : M (List D)) (g : Tg) (b : MS) : MS := fun S => (m S).sd fun ds S1 => forGo g b ds S1
/-- new nodes are shared from now on -/
theorem Real.seen {c : Ctx} {G : Hp} {S : List Sl} {As : Nat → List Addr} {τ : List V} {σ : L2.St} {H H' : Hp} {B : List Addr} (R : Real c G S As τ σ H) (k : Keep H H') (n : ∀ b ∈ B, H b = none) (nd : B.Nodup) : Real c (frz G H' B) S As τ σ H' := by
  have N : New c G As B := ⟨nd, fun b hb => (R.fresh (n b hb)).1, fun b hb => (R.fresh (n b hb)).2.1, fun b hb => (R.fresh (n b hb)).2.2⟩
  exact (R.keep k).freeze N
/-- the same entry, what G1 has told apart -/
def Ctx.at (c : Ctx) (G1 : Hp) : Ctx := { c with G0 := G1 }
theorem Real.into {c : Ctx} {G G1 : Hp} {S : List Sl} {As : Nat → List Addr} {τ : List V} {σ : L2.St} {H : Hp} (R : Real c G S As τ σ H) (e : Ex G1 G) (n : ∀ a, c.H0 a ≠ none → G1 a = c.G0 a) : Real (c.at G1) G S As τ σ H :=
  ⟨R.exG, R.sl, R.len, R.emp, R.nd, R.dj, R.nf, e, fun a h => (R.gn a h).trans (n a h).symm, R.fr0, R.stay, R.fn, R.io⟩
theorem Real.back {c : Ctx} {G G1 : Hp} {S : List Sl} {As : Nat → List Addr} {τ : List V} {σ : L2.St} {H : Hp} (R : Real (c.at G1) G S As τ σ H) (e : Ex c.G0 G1) (n : ∀ a, c.H0 a ≠ none → G1 a = c.G0 a) : Real c G S As τ σ H :=
  ⟨R.exG, R.sl, R.len, R.emp, R.nd, R.dj, R.nf, e.trans R.g0, fun a h => (R.gn a h).trans (n a h), R.fr0, R.stay, R.fn, R.io⟩
/-- a body that is entered with any shared part -/
def tSx (c : Ctx) (X : XK) (m : MS) : TS := fun Dn σ H => ∃ G1, tS (c.at G1) X m Dn σ H
theorem zx {st : List Stmt} {s : MS} (h : ∀ G1, PSs X st (tS (c.at G1) W s)) : PSs X st (tSx c W s) := ⟨fun pins s σ H D I ⟨G1, q⟩ => (h G1).run pins s σ H D I q⟩
theorem zFor {tg iter : Expr} {g : Tg} {ts : List Nat} {mi : M (List D)} (hp : PassesOwn (model X.prog X.w) X.A X.env X.xe) (hc : X.calm = true) (hi : PI X tg iter (tI c W mods mi)) (hg : PG X tg (gT c ts g)) (hb : ∀ G1, PSs X body (tS (c.at G1) W s)) (hs : ∀ x, foldedSetIterable iter X.env x = pure x := by intro _; rfl) :
    PS X (.For tg iter body [] pos) (tS c W (sFor mi g s)) := PSw (ps_for hp hc hi hg (zx hb) hs) fun D σ H ⟨G, S, As, R, q⟩ => by
  refine ⟨G, S, As, [], R, fin_mono (ok_sd q) fun ds S1 e1 k => ?_⟩
  intro J G1 As1 H1 R1 P1 Wk
  have n1 : ∀ a, c.H0 a ≠ none → G1 a = c.G0 a := R1.gn
  have g1 : Ex c.G0 G1 := R1.g0
  refine ⟨fun i m σ H => m = ds.length - i ∧ i ≤ ds.length ∧ ∃ G S As, Real (c.at G1) G S As [] σ H ∧ okS c W D (forGo g s (ds.drop i) S), ⟨ds.length, rfl, Nat.zero_le _, G1, S1, As1, R1.into (Ex.refl _) n1, k⟩, ?_⟩
  rintro i m σ2 H2 ⟨rfl, hi, G2, S2, As2, R2, k2⟩
  have x2 : Ex G1 G2 := R2.g0
  have x3 : Ex G1 H2 := x2.trans R2.exG
  by_cases hlt : i < ds.length
  · refine .inr ⟨Wk.go i H2 x3 hlt, fun σ' H' => ∃ G S As, Real (c.at G1) G S As [] σ' H' ∧ okS c W D (forGo g s (ds.drop (i + 1)) S), fun σ' H' q => ⟨ds.length - (i + 1), by omega, rfl, hlt, q⟩, fun x H' y => ?_⟩
    obtain ⟨kp, B, d, hd, nb, ndb, rs⟩ := Wk.yld i H2 x H' x3 hlt y
    have R3 := R2.seen kp nb ndb
    have r3 := rs G2 x2 R2.exG
    have ed : ds.drop i = d :: ds.drop (i + 1) := by
      rw [List.drop_eq_getElem_cons hlt]
      have := List.getElem?_eq_getElem hlt
      rw [hd] at this
      rw [Option.some.inj this]
    rw [ed] at k2
    refine ⟨frz G2 H' B, S2, As2, [], d, R3.back g1 n1, r3, ?_⟩
    have k3 : okS c W D (match g d S2 with
      | none => .bad
      | some S1 => match s S1 with
        | .next S2 => forGo g s (ds.drop (i + 1)) S2
        | .cont S2 => forGo g s (ds.drop (i + 1)) S2
        | .brk S2 => .next S2
        | .ret o S2 => .ret o S2
        | .exc C fs ds S2 => .exc C fs ds S2
        | .bad => .bad) := k2
    cases hg : g d S2 with
    | none =>
      rw [hg] at k3
      exact k3.elim
    | some S3 =>
      rw [hg] at k3
      intro σ3 As3 R4 _
      have R5 := R4.into R3.g0 n1
      refine ⟨G1, frz G2 H' B, S3, As3, R5, ?_⟩
      have k4 : okS c W D (match s S3 with
        | .next S2 => forGo g s (ds.drop (i + 1)) S2
        | .cont S2 => forGo g s (ds.drop (i + 1)) S2
        | .brk S2 => .next S2
        | .ret o S2 => .ret o S2
        | .exc C fs ds S2 => .exc C fs ds S2
        | .bad => .bad) := k3
      cases hs : s S3 with
      | next S4 =>
        rw [hs] at k4
        intro G4 As4 σ4 H4 R6
        exact ⟨G4, S4, As4, R6, k4⟩
      | cont S4 =>
        rw [hs] at k4
        intro G4 As4 σ4 H4 R6
        exact ⟨G4, S4, As4, R6, k4⟩
      | brk S4 =>
        rw [hs] at k4
        intro G4 As4 σ4 H4 R6
        exact k4 G4 As4 σ4 H4 (R6.back g1 n1)
      | ret o S4 =>
        rw [hs] at k4
        intro v A G4 As4 τ4 σ4 H4 R6 r6 N6
        exact k4 v A G4 As4 τ4 σ4 H4 (R6.back g1 n1) r6 ⟨N6.nd, N6.h0, N6.g, N6.out⟩
      | exc C fs ds S4 =>
        rw [hs] at k4
        intro G4 As4 τ4 σ4 H4 dd R6 x6
        exact k4 G4 As4 τ4 σ4 H4 dd (R6.back g1 n1) x6
      | bad =>
        rw [hs] at k4
        exact k4.elim
  · have e : i = ds.length := by omega
    subst e
    rw [List.drop_length] at k2
    exact .inl ⟨Wk.stop _ H2 x3 (Nat.le_refl _), k2 G2 As2 σ2 H2 (R2.back g1 n1)⟩
/-! ### what can be walked -/
theorem PIw {tg iter : Expr} {t t' : TI} (h : PI X tg iter t) (w : ∀ σ H R, t' σ H R → t σ H R) : PI X tg iter t' := ⟨fun pins s σ H R I q => h.run pins s σ H R I (w σ H R q)⟩
def itL : D → Option (List D)
  | .lst ds => some ds
  | _ => none
def itT : D → Option (List D)
  | .tup ds => some ds
  | _ => none
theorem frz_nil {G H : Hp} : frz G H [] = G := by
  funext a
  exact frz_out fun z => nomatch z
theorem zIl {tg iter : Expr} (hK : c.E.K = X.K) (h : PE X iter (tE c W true mods ma)) : PI X tg iter (tI c W mods (m1x itL ma)) := PIw (pi_list h) fun σ H R ⟨G, S, As, τ, Rl, q⟩ => by
  refine ⟨G, S, As, τ, Rl, fin_mono (fin_bd q) fun d S1 e1 k => ?_⟩
  intro v G1 As1 H1 R1 P1 r1
  cases d with
  | lst ds =>
    unfold Rs at r1
    obtain ⟨a, xs, rfl, h2, h3⟩ := r1
    have sq : ∀ H, Ex G1 H → SqL X.K H a xs := fun H x => SqL.of (x.hard h2 rfl)
    refine ⟨a, rfl, ⟨xs, sq H1 R1.exG⟩, k (Itl X.K a) G1 As1 H1 R1 P1 ⟨fun i H x hl => ?_, fun i H x hl => ?_, fun i H x H' ex hl y => ?_⟩⟩
    · rw [RsL.length h3] at hl
      exact ⟨xs, xs[i], sq H x, List.getElem?_eq_getElem hl⟩
    · rw [RsL.length h3] at hl
      exact ⟨xs, sq H x, hl⟩
    · obtain ⟨rfl, y⟩ := y
      refine ⟨Keep.refl _, [], ds[i], List.getElem?_eq_getElem hl, (fun _ z => nomatch z), List.nodup_nil, fun G2 x2 _ => ?_⟩
      obtain ⟨v, hv, rv⟩ := RsL.get h3 (List.getElem?_eq_getElem hl)
      have e := y xs (sq _ ex)
      rw [hv] at e
      rw [frz_nil, ← Option.some.inj e]
      exact Rs.mono x2 rv
  | _ => exact k.elim
theorem zIt {tg iter : Expr} (hK : c.E.K = X.K) (h : PE X iter (tE c W true mods ma)) : PI X tg iter (tI c W mods (m1x itT ma)) := PIw (pi_tup h) fun σ H R ⟨G, S, As, τ, Rl, q⟩ => by
  refine ⟨G, S, As, τ, Rl, fin_mono (fin_bd q) fun d S1 e1 k => ?_⟩
  intro v G1 As1 H1 R1 P1 r1
  cases d with
  | tup ds =>
    unfold Rs at r1
    obtain ⟨a, xs, rfl, h2, h3⟩ := r1
    have sq : ∀ H, Ex G1 H → SqT X.K H a xs := fun H x => hK ▸ x.seqt h2.sq
    refine ⟨a, rfl, ⟨xs, sq H1 R1.exG⟩, k (Itt X.K a) G1 As1 H1 R1 P1 ⟨fun i H x hl => ?_, fun i H x hl => ?_, fun i H x H' ex hl y => ?_⟩⟩
    · rw [RsL.length h3] at hl
      exact ⟨xs, xs[i], sq H x, List.getElem?_eq_getElem hl⟩
    · rw [RsL.length h3] at hl
      exact ⟨xs, sq H x, hl⟩
    · obtain ⟨rfl, y⟩ := y
      refine ⟨Keep.refl _, [], ds[i], List.getElem?_eq_getElem hl, (fun _ z => nomatch z), List.nodup_nil, fun G2 x2 _ => ?_⟩
      obtain ⟨v, hv, rv⟩ := RsL.get h3 (List.getElem?_eq_getElem hl)
      have e := y xs (sq _ ex)
      rw [hv] at e
      rw [frz_nil, ← Option.some.inj e]
      exact Rs.mono x2 rv
  | _ => exact k.elim
/-- lo, lo + 1, .. -/
def rangeD (lo : Int) (n : Nat) : List D := (List.range n).map fun (i : Nat) => D.int (lo + i)
theorem rangeD_len {lo : Int} {n : Nat} : (rangeD lo n).length = n := by
  unfold rangeD
  rw [List.length_map, List.length_range]
theorem rangeD_at {lo : Int} {n i : Nat} (h : i < n) : (rangeD lo n)[i]? = some (.int (lo + i)) := by
  unfold rangeD
  rw [List.getElem?_map, List.getElem?_range h]
  rfl
theorem walks_range {E : Ev} {G : Hp} {lo : Int} {n : Nat} : Walks E (Itr lo n) G (rangeD lo n) where
  go := fun i H _ h => by rw [rangeD_len] at h; exact h
  stop := fun i H _ h => by rw [rangeD_len] at h; exact h
  yld := fun i H x H' _ h y => by
    rw [rangeD_len] at h
    obtain ⟨rfl, rfl⟩ := y
    refine ⟨Keep.refl _, [], _, rangeD_at h, (fun _ z => nomatch z), List.nodup_nil, fun G2 _ _ => ?_⟩
    unfold Rs
    rfl
def itR1 : List D → Option (List D)
  | [.int j] => match decide (-(2 ^ 62) ≤ j ∧ j < 2 ^ 62) with
    | true => some (rangeD 0 j.toNat)
    | false => none
  | _ => none
def itR2 : List D → Option (List D)
  | [.int i, .int j] => match decide (-(2 ^ 62) ≤ i ∧ i < 2 ^ 62 ∧ -(2 ^ 62) ≤ j ∧ j < 2 ^ 62) with
    | true => some (rangeD i (j - i).toNat)
    | false => none
  | _ => none
theorem zIr1 {tg : Expr} {m : M (List D)} {p : Pos} (hg : Gl X "range") (hm : X.mg "range" = none) (ha : PA X [a] (tA c W md mods m)) (hs : starEach [a] X.env = [(false, eval a X.env)] := by rfl) : PI X tg (.Call (.Name "range" p) [a] [] pos) (tI c W mods (m1x itR1 m)) :=
  PIw (pi_range1 hg hm ha hs) fun σ H R ⟨G, S, As, τ, Rl, q⟩ => by
    refine ⟨G, S, As, τ, Rl, fin_mono (fin_bd q) fun ds S1 e1 k => ?_⟩
    intro vs G1 As1 H1 R1 P1 r1
    unfold itR1 at k
    split at k
    · rename_i j
      unfold RsL at r1
      obtain ⟨v, r, rfl, h2, h3⟩ := r1
      unfold RsL at h3
      unfold Rs at h2
      subst h3 h2
      cases hd : decide (-(2 ^ 62) ≤ j ∧ j < 2 ^ 62) with
      | false => rw [hd] at k; exact k.elim
      | true =>
        rw [hd] at k
        have hd' := of_decide_eq_true hd
        exact ⟨j, rfl, hd'.1, hd'.2, k _ G1 As1 H1 R1 P1 walks_range⟩
    · exact k.elim
end
end Z

/-! Z6: comprehensions. -/
namespace Z
open PySem PySem.Spec PyProof.Rows L2
/-- nothing may be raised here -/
def Out.bn {α β : Type} (x : Out α) (k : α → List Sl → Out β) : Out β := match x with
  | .ok a S => k a S
  | .exc _ _ _ _ => .bad
  | .bad => .bad
abbrev E00 : XK := fun _ _ _ => False
theorem fin_bn {α β : Type} {c : Ctx} {X W : XK} {x : Out α} {k : α → List Sl → Out β} {q : β → List Sl → Prop} (h : fin c X (x.bn k) q) : fin c W x fun a S => fin c X (k a S) q := by
  cases x with
  | ok a S => exact h
  | exc C fs ds S => exact h.elim
  | bad => exact h
def wipeS (S : List Sl) : List Nat → List Sl
  | [] => S
  | v :: vs => (wipeS S vs).set v .no
def wipeA (As : Nat → List Addr) (vs : List Nat) : Nat → List Addr := fun j => if j ∈ vs then [] else As j
def notOw : Option Sl → Bool
  | some (.ow _) => false
  | _ => true
def restS (S1 S2 : List Sl) : List Nat → List Sl
  | [] => S2
  | v :: vs => (restS S1 S2 vs).set v (S1.getD v .no)
theorem wipeS_len {S : List Sl} : ∀ {vs : List Nat}, (wipeS S vs).length = S.length
  | [] => rfl
  | v :: vs => by unfold wipeS; rw [List.length_set, wipeS_len]
theorem restS_len {S1 S2 : List Sl} : ∀ {vs : List Nat}, (restS S1 S2 vs).length = S2.length
  | [] => rfl
  | v :: vs => by unfold restS; rw [List.length_set, restS_len]
theorem wipeS_at {S : List Sl} {j : Nat} : ∀ {vs : List Nat}, j ∉ vs → (wipeS S vs)[j]? = S[j]?
  | [], _ => rfl
  | v :: vs, h => by
    unfold wipeS
    rw [List.getElem?_set_ne fun z => h (by rw [z]; exact List.mem_cons_self)]
    exact wipeS_at fun z => h (List.mem_cons_of_mem _ z)
theorem wipeS_in {S : List Sl} {j : Nat} : ∀ {vs : List Nat}, j ∈ vs → j < S.length → (wipeS S vs)[j]? = some .no
  | v :: vs, h, hl => by
    unfold wipeS
    by_cases e : v = j
    · subst e
      rw [List.getElem?_set_self (by rw [wipeS_len]; exact hl)]
    · rw [List.getElem?_set_ne e]
      exact wipeS_in ((List.mem_cons.mp h).resolve_left fun z => e z.symm) hl
theorem restS_at {S1 S2 : List Sl} {j : Nat} : ∀ {vs : List Nat}, j ∉ vs → (restS S1 S2 vs)[j]? = S2[j]?
  | [], _ => rfl
  | v :: vs, h => by
    unfold restS
    rw [List.getElem?_set_ne fun z => h (by rw [z]; exact List.mem_cons_self)]
    exact restS_at fun z => h (List.mem_cons_of_mem _ z)
theorem restS_in {S1 S2 : List Sl} {j : Nat} : ∀ {vs : List Nat}, j ∈ vs → j < S2.length → S1.length = S2.length → (restS S1 S2 vs)[j]? = S1[j]?
  | v :: vs, h, hl, el => by
    unfold restS
    by_cases e : v = j
    · subst e
      rw [List.getElem?_set_self (by rw [restS_len]; exact hl), List.getD_eq_getElem?_getD, List.getElem?_eq_getElem (by omega)]
      rfl
    · rw [List.getElem?_set_ne e]
      exact restS_in ((List.mem_cons.mp h).resolve_left fun z => e z.symm) hl el
theorem wipe_out2 {σ : L2.St} {j : Nat} : ∀ {vs : List Nat}, j ∉ vs → (wipe σ vs)[j]? = σ[j]?
  | [], _ => rfl
  | v :: vs, h => by
    unfold wipe
    rw [List.getElem?_set_ne fun z => h (by rw [z]; exact List.mem_cons_self)]
    exact wipe_out2 fun z => h (List.mem_cons_of_mem _ z)
theorem wipe_in2 {σ : L2.St} {j : Nat} : ∀ {vs : List Nat}, j ∈ vs → j < σ.length → (wipe σ vs)[j]? = some none
  | v :: vs, h, hl => by
    unfold wipe
    by_cases e : v = j
    · subst e
      rw [List.getElem?_set_self (by rw [wipe_length]; exact hl)]
    · rw [List.getElem?_set_ne e]
      exact wipe_in2 ((List.mem_cons.mp h).resolve_left fun z => e z.symm) hl
/-- states that differ in vs alone are one when wiped -/
theorem wipe_eq {σ σ' : L2.St} {ts vs : List Nat} (h : ∀ j, j ∉ ts → σ'[j]? = σ[j]?) (hl : σ'.length = σ.length) (hs : ∀ j ∈ ts, j ∈ vs) : wipe σ' vs = wipe σ vs := by
  apply List.ext_getElem?
  intro j
  by_cases hj : j ∈ vs
  · by_cases hlt : j < σ.length
    · rw [wipe_in2 hj hlt, wipe_in2 hj (by omega)]
    · rw [List.getElem?_eq_none (by rw [wipe_length]; omega), List.getElem?_eq_none (by rw [wipe_length]; omega)]
  · rw [wipe_out2 hj, wipe_out2 hj]
    exact h j fun z => hj (hs j z)
section
variable {c : Ctx} {G G1 : Hp} {S S1 S2 : List Sl} {As As1 As2 : Nat → List Addr} {τ : List V} {σ : L2.St} {H H1 : Hp} {vs mods : List Nat}
theorem Real.wipe (R : Real c G S As τ σ H) (hv : ∀ v ∈ vs, v < σ.length) (hio : ∀ v ∈ vs, v ∉ c.io) : Real c G (wipeS S vs) (wipeA As vs) τ (L2.wipe σ vs) H where
  exG := R.exG
  sl := fun j s e => by
    by_cases hj : j ∈ vs
    · have hl := hv j hj
      rw [wipeS_in hj (by rw [R.len]; omega)] at e
      cases e
      show wipeA As vs j = []
      exact if_pos hj
    · rw [wipeS_at hj] at e
      have q := R.sl j s e
      have e1 : wipeA As vs j = As j := if_neg hj
      have e2 : (env (L2.wipe σ vs) τ)[j]? = (env σ τ)[j]? := by
        unfold env
        by_cases hlt : j < σ.length
        · rw [List.getElem?_append_left (by rw [wipe_length]; exact hlt), List.getElem?_append_left hlt, wipe_out2 hj]
        · rw [List.getElem?_append_right (by rw [wipe_length]; omega), List.getElem?_append_right (by omega), wipe_length]
      rw [e1, e2]
      exact q
  len := by rw [wipeS_len, wipe_length]; exact R.len
  emp := fun j hj => by
    rw [wipeS_len] at hj
    unfold wipeA
    split
    · rfl
    · exact R.emp j hj
  nd := fun j => by
    unfold wipeA
    split
    · exact List.nodup_nil
    · exact R.nd j
  dj := fun i j a hi hj => by
    unfold wipeA at hi hj
    split at hi
    · cases hi
    · split at hj
      · cases hj
      · exact R.dj i j a hi hj
  nf := fun i a hi => by
    unfold wipeA at hi
    split at hi
    · cases hi
    · exact R.nf i a hi
  g0 := R.g0
  gn := R.gn
  fr0 := R.fr0
  stay := R.stay
  fn := fun i a hi => by
    unfold wipeA at hi
    split at hi
    · cases hi
    · exact R.fn i a hi
  io := fun j hj => by
    have hn : j ∉ vs := fun z => hio j z hj
    obtain ⟨o, w, h1, h2, h3⟩ := R.io j hj
    exact ⟨o, w, by rw [wipeS_at hn]; exact h1, h2, by rw [wipe_out2 hn]; exact h3⟩
theorem Real.unwipe (R2 : Real c G S2 As2 τ (L2.wipe σ vs) H) (R1 : Real c G1 S1 As1 τ σ H1) (e : Ex G1 G) (hv : ∀ v ∈ vs, v < σ.length) (hio : ∀ v ∈ vs, v ∉ c.io) (hn : ∀ v ∈ vs, notOw S1[v]? = true) : Real c G (restS S1 S2 vs) (wipeA As2 vs) τ σ H where
  exG := R2.exG
  sl := fun j s e1 => by
    have l1 := R1.len
    have l2 := R2.len
    rw [wipe_length] at l2
    by_cases hj : j ∈ vs
    · have hl := hv j hj
      rw [restS_in hj (by omega) (by omega)] at e1
      have e2 : wipeA As2 vs j = [] := if_pos hj
      rw [e2]
      have q := R1.sl j s e1
      have n := hn j hj
      rw [e1] at n
      cases s with
      | no => rfl
      | pl d =>
        obtain ⟨h1, v, h2, h3⟩ := q
        exact ⟨rfl, v, h2, Rs.mono e h3⟩
      | ow o => cases n
    · rw [restS_at hj] at e1
      have q := R2.sl j s e1
      have e2 : wipeA As2 vs j = As2 j := if_neg hj
      have e3 : (env (L2.wipe σ vs) τ)[j]? = (env σ τ)[j]? := by
        unfold env
        by_cases hlt : j < σ.length
        · rw [List.getElem?_append_left (by rw [wipe_length]; exact hlt), List.getElem?_append_left hlt, wipe_out2 hj]
        · rw [List.getElem?_append_right (by rw [wipe_length]; omega), List.getElem?_append_right (by omega), wipe_length]
      rw [e3] at q
      rw [e2]
      exact q
  len := by
    rw [restS_len]
    have := R2.len
    rw [wipe_length] at this
    exact this
  emp := fun j hj => by
    rw [restS_len] at hj
    unfold wipeA
    split
    · rfl
    · exact R2.emp j hj
  nd := fun j => by
    unfold wipeA
    split
    · exact List.nodup_nil
    · exact R2.nd j
  dj := fun i j a hi hj => by
    unfold wipeA at hi hj
    split at hi
    · cases hi
    · split at hj
      · cases hj
      · exact R2.dj i j a hi hj
  nf := fun i a hi => by
    unfold wipeA at hi
    split at hi
    · cases hi
    · exact R2.nf i a hi
  g0 := R2.g0
  gn := R2.gn
  fr0 := R2.fr0
  stay := R2.stay
  fn := fun i a hi => by
    unfold wipeA at hi
    split at hi
    · cases hi
    · exact R2.fn i a hi
  io := fun j hj => by
    have hn : j ∉ vs := fun z => hio j z hj
    obtain ⟨o, w, h1, h2, h3⟩ := R2.io j hj
    exact ⟨o, w, by rw [restS_at hn]; exact h1, h2, by rw [wipe_out2 hn] at h3; exact h3⟩
end
section
variable {mods vs ts : List Nat} {S S0 S1 S2 S' : List Sl} {As As0 As1 As2 As' : Nat → List Addr} {G G1 G2 G' H H1 H2 H' : Hp} {σ σ' : L2.St}
theorem Chg.post (k : Chg ts S S' As As' σ σ') (h : ∀ j ∈ ts, j ∈ vs) : Post vs S S' As As' G G H H :=
  ⟨Ex.refl G, fun j hj => let ⟨a, b, _⟩ := k.sl j fun z => hj (h j z); ⟨a, b⟩, fun a o e _ => e, fun j a e => .inl (k.sub j a e), fun _ e => e, k.len, fun _ _ _ => rfl⟩
/-- what was done to wiped slots is wiped -/
theorem Post.unvs (p : Post (vs ++ mods) S0 S As0 As G G' H H') (h0 : ∀ v ∈ vs, As0 v = []) (hs : ∀ v ∈ vs, v < S0.length → S0[v]? = some .no) : Post mods S0 (wipeS S vs) As0 (wipeA As vs) G G' H H' where
  exG := p.exG
  same := fun j hj => by
    by_cases hv : j ∈ vs
    · refine ⟨?_, ?_⟩
      · by_cases hl : j < S0.length
        · rw [wipeS_in hv (by rw [p.len]; exact hl), hs j hv hl]
        · rw [List.getElem?_eq_none (by rw [wipeS_len, p.len]; omega), List.getElem?_eq_none (by omega)]
      · rw [h0 j hv]
        exact if_pos hv
    · obtain ⟨a, b⟩ := p.same j fun z => (List.mem_append.mp z).elim hv hj
      refine ⟨by rw [wipeS_at hv]; exact a, ?_⟩
      rw [← b]
      exact if_neg hv
  frm := fun a o e hn => p.frm a o e fun j hj => by
    rcases List.mem_append.mp hj with z | z
    · rw [h0 j z]; exact fun q => nomatch q
    · exact hn j z
  new := fun j a h => by
    unfold wipeA at h
    split at h
    · cases h
    · rcases p.new j a h with z | ⟨k, hk, z⟩ | z
      · exact .inl z
      · rcases List.mem_append.mp hk with q | q
        · rw [h0 k q] at z; cases z
        · exact .inr (.inl ⟨k, q, z⟩)
      · exact .inr (.inr z)
  stay := p.stay
  len := by rw [wipeS_len]; exact p.len
  gn := fun a e hn => p.gn a e fun j hj => by
    rcases List.mem_append.mp hj with z | z
    · rw [h0 j z]; exact fun q => nomatch q
    · exact hn j z
/-- out of the block: its slots are as they were -/
theorem Post.unwipe (p : Post mods (wipeS S1 vs) S2 (wipeA As1 vs) As2 G G' H H') (h0 : ∀ v ∈ vs, As1 v = []) : Post mods S1 (restS S1 S2 vs) As1 (wipeA As2 vs) G G' H H' := by
  have ea : ∀ j, wipeA As1 vs j = As1 j := fun j => by
    unfold wipeA
    split
    · rename_i h
      exact (h0 j h).symm
    · rfl
  have l2 : S2.length = S1.length := by
    have := p.len
    rw [wipeS_len] at this
    exact this
  refine ⟨p.exG, fun j hj => ?_, fun a o e hn => p.frm a o e fun j hj => by rw [ea]; exact hn j hj, fun j a h => ?_, p.stay, by rw [restS_len]; exact l2, fun a e hn => p.gn a e fun j hj => by rw [ea]; exact hn j hj⟩
  · by_cases hv : j ∈ vs
    · refine ⟨?_, by rw [h0 j hv]; exact if_pos hv⟩
      by_cases hl : j < S2.length
      · exact restS_in hv hl l2.symm
      · rw [List.getElem?_eq_none (by rw [restS_len]; omega), List.getElem?_eq_none (by omega)]
    · obtain ⟨a, b⟩ := p.same j hj
      rw [ea] at b
      refine ⟨by rw [restS_at hv, a, wipeS_at hv], ?_⟩
      rw [← b]
      exact if_neg hv
  · unfold wipeA at h
    split at h
    · cases h
    · rcases p.new j a h with z | ⟨k, hk, z⟩ | z
      · rw [ea] at z; exact .inl z
      · rw [ea] at z; exact .inr (.inl ⟨k, hk, z⟩)
      · exact .inr (.inr z)
/-- an object that was not there ahead may change -/
theorem Post.mut {p : Addr} {o : HO} (q : Post mods S S' As As' G G' H H') (hp0 : H p = none) (hG : H' p ≠ none) : Post mods S S' As As' G G' H (upd H' p o) :=
  ⟨q.exG, q.same, fun a u e hn => by rw [upd_ne (ne_of_none e hp0)]; exact q.frm a u e hn, q.new, fun a h => by
    by_cases e : a = p
    · rw [e, upd_same]; exact fun z => nomatch z
    · rw [upd_ne e]; exact q.stay a h, q.len, q.gn⟩
end
section
variable {c : Ctx} {G : Hp} {S : List Sl} {As : Nat → List Addr} {τ : List V} {σ : L2.St} {H : Hp}
/-- an object that nobody in sight has changes -/
theorem Real.mutOut {p : Addr} {o : HO} (R : Real c G S As τ σ H) (hG : G p = none) (hA : ∀ j, p ∉ As j) (h0 : c.H0 p = none) : Real c G S As τ σ (upd H p o) :=
  ⟨R.exG.mut hG, fun i s e => (R.sl i s e).keep (Ex.refl G) fun a ha u e => by rw [upd_ne fun z => hA i (by rw [← z]; exact ha)]; exact e, R.len, R.emp, R.nd, R.dj, R.nf, R.g0, R.gn,
    fun a u e hn => by rw [upd_ne (ne_of_none e h0)]; exact R.fr0 a u e hn, fun a h => by
      by_cases e : a = p
      · rw [e, upd_same]; exact fun z => nomatch z
      · rw [upd_ne e]; exact R.stay a h, R.fn, R.io⟩
end
/-- one turn after another: the items -/
def cmpGo (g : Tg) (t : M Bool) (e : M D) (vs : List Nat) : List D → List Sl → Out (List D)
  | [] => fun S => .ok [] S
  | d :: ds => fun S => match g d S with
    | none => .bad
    | some S1 => (t S1).bn fun b S2 => match b with
      | true => (e S2).bn fun x S3 => (cmpGo g t e vs ds (wipeS S3 vs)).bn fun xs S4 => .ok (x :: xs) S4
      | false => cmpGo g t e vs ds (wipeS S2 vs)
def mComp (mi : M (List D)) (g : Tg) (t : M Bool) (e : M D) (vs : List Nat) : M O := fun S => (mi S).bd fun ds S1 => match decide (ds.length ≤ 16777216) && vs.all fun v => notOw S1[v]? with
  | true => (cmpGo g t e vs ds (wipeS S1 vs)).bn fun xs S2 => .ok (.lst (xs.map .sh)) (restS S1 S2 vs)
  | false => .bad
section
variable {X : Cx} {c : Ctx} {W : XK} {mods m1 m2 m3 vs ts : List Nat} {elt tg iter : Expr} {mi : M (List D)} {g : Tg} {t : M Bool} {me : M D}
theorem w_comp (hv : ∀ v ∈ vs, v < X.N.length) (hio : ∀ v ∈ vs, v ∉ c.io) (hts : ∀ j ∈ ts, j ∈ vs) (σ : L2.St) (H : Hp) (Q : VK) (hl : σ.length = X.N.length) (h : tO c W (m1 ++ (m2 ++ m3)) (mComp mi g t me vs) σ H Q) :
    tLc (tI c W m1 mi) (gT c ts g) (tT c E00 m2 t) (tE c E00 true m3 me) vs σ H Q := by
  obtain ⟨G, S, As, τ, R, q⟩ := h
  have hv' : ∀ v ∈ vs, v < σ.length := fun v h => by rw [hl]; exact hv v h
  refine ⟨G, S, As, τ, R, fin_mono (fin_bd q) fun ds S1 e1 k => ?_⟩
  intro J G1 As1 H1 R1 P1 Wk D hD
  cases hc1 : decide (ds.length ≤ 16777216) && vs.all fun v => notOw S1[v]? with
  | false =>
    rw [hc1] at k
    exact k.elim
  | true =>
    rw [hc1] at k
    rw [Bool.and_eq_true, List.all_eq_true] at hc1
    have hlen : ds.length ≤ 16777216 := of_decide_eq_true hc1.1
    have hno := hc1.2
    obtain ⟨dH0, dG1, dA1⟩ := R1.fresh hD
    have Rw := R1.wipe hv' hio
    have Rw' : Real c G1 (wipeS S1 vs) (wipeA As1 vs) τ (wipe σ vs) (upd H1 D (.lst [])) := Rw.keep (Keep.new hD)
    have h0 : ∀ v ∈ vs, wipeA As1 vs v = [] := fun v h => if_pos h
    have hs0 : ∀ v ∈ vs, v < (wipeS S1 vs).length → (wipeS S1 vs)[v]? = some .no := fun v h hl => wipeS_in h (by rw [wipeS_len] at hl; exact hl)
    have k0 := fin_bn (W := W) k
    refine ⟨fun i m H2 => m = ds.length - i ∧ i ≤ ds.length ∧ ∃ G2 S2 As2 acc xs, Real c G2 S2 As2 τ (wipe σ vs) H2 ∧ Ex G1 G2 ∧ Post (m2 ++ m3) (wipeS S1 vs) S2 (wipeA As1 vs) As2 G1 G2 H1 H2 ∧ H2 D = some (.lst xs) ∧ RsL c.E G2 acc xs ∧ acc.length ≤ i ∧ G2 D = none ∧ (∀ j, D ∉ As2 j) ∧
        fin c W (cmpGo g t me vs (ds.drop i) S2) (fun ys S3 => ∀ v A G' As' H', Real c G' (restS S1 S3 vs) As' τ σ H' → Post (m1 ++ (m2 ++ m3)) S (restS S1 S3 vs) As As' G G' H H' → Ro c.E G' H' (.lst ((acc ++ ys).map .sh)) v A → New c G' As' A → Frs (m1 ++ (m2 ++ m3)) As H A → Q v H'),
      ⟨ds.length, rfl, Nat.zero_le _, G1, wipeS S1 vs, wipeA As1 vs, [], [], Rw', Ex.refl _, ?_, upd_same, .nil, Nat.zero_le _, dG1, fun j z => ?_, ?_⟩, ?_⟩
    · exact Post.of_keep (Ex.refl _) (Keep.new hD) fun _ _ => rfl
    · unfold wipeA at z
      split at z
      · cases z
      · exact dA1 j z
    · exact fin_mono k0 fun ys S3 _ k1 => k1
    · rintro i m H2 ⟨rfl, hi, G2, S2, As2, acc, xs, R2, x2, P2, hD2, ra, la, dG2, dA2, k2⟩
      have x3 : Ex G1 H2 := x2.trans R2.exG
      by_cases hlt : i < ds.length
      · have ed : ∃ d, ds[i]? = some d ∧ ds.drop i = d :: ds.drop (i + 1) := ⟨ds[i], List.getElem?_eq_getElem hlt, List.drop_eq_getElem_cons hlt⟩
        refine .inr ⟨Wk.go i H2 x3 hlt, fun H3 => ∃ G2 S2 As2 acc xs, Real c G2 S2 As2 τ (wipe σ vs) H3 ∧ Ex G1 G2 ∧ Post (m2 ++ m3) (wipeS S1 vs) S2 (wipeA As1 vs) As2 G1 G2 H1 H3 ∧ H3 D = some (.lst xs) ∧ RsL c.E G2 acc xs ∧ acc.length ≤ i + 1 ∧ G2 D = none ∧ (∀ j, D ∉ As2 j) ∧
            fin c W (cmpGo g t me vs (ds.drop (i + 1)) S2) (fun ys S3 => ∀ v A G' As' H', Real c G' (restS S1 S3 vs) As' τ σ H' → Post (m1 ++ (m2 ++ m3)) S (restS S1 S3 vs) As As' G G' H H' → Ro c.E G' H' (.lst ((acc ++ ys).map .sh)) v A → New c G' As' A → Frs (m1 ++ (m2 ++ m3)) As H A → Q v H'),
          fun H3 q => ⟨ds.length - (i + 1), by omega, rfl, hlt, q⟩, fun x H3 y => ?_⟩
        obtain ⟨d, hd, edr⟩ := ed
        obtain ⟨kp, B, d', hd', nb, ndb, rs⟩ := Wk.yld i H2 x H3 x3 hlt y
        rw [hd] at hd'
        cases hd'
        have R3 := R2.seen kp nb ndb
        have r3 := rs G2 x2 R2.exG
        have nB : ∀ b ∈ B, G2 b = none := fun b hb => (R2.fresh (nb b hb)).2.1
        have DB : D ∉ B := fun z => by rw [nb D z] at hD2; cases hD2
        have x4 : Ex G2 (frz G2 H3 B) := frz_ex nB
        have dG3 : frz G2 H3 B D = none := by rw [frz_out DB]; exact dG2
        have P3 : Post (m2 ++ m3) (wipeS S1 vs) S2 (wipeA As1 vs) As2 G1 (frz G2 H3 B) H1 H3 := by
          have p := P2.trans (Post.of_keep (mods := []) (S := S2) (As := As2) x4 kp fun a h => frz_out fun z => h (nb a z))
          rw [List.append_nil] at p
          exact p
        refine ⟨frz G2 H3 B, S2, As2, τ, d, R3, r3, ?_⟩
        rw [edr] at k2
        have k3 : fin c W (match g d S2 with
          | none => .bad
          | some S1 => (t S1).bn fun b S2 => match b with
            | true => (me S2).bn fun x S3 => (cmpGo g t me vs (ds.drop (i + 1)) (wipeS S3 vs)).bn fun xs S4 => .ok (x :: xs) S4
            | false => cmpGo g t me vs (ds.drop (i + 1)) (wipeS S2 vs)) _ := k2
        cases hg : g d S2 with
        | none =>
          rw [hg] at k3
          exact k3.elim
        | some S3 =>
          rw [hg] at k3
          intro σ3 As3 R4 C4
          have ew : wipe σ3 vs = wipe σ vs := by
            have z := wipe_eq (vs := vs) (fun j hj => (C4.sl j hj).2.2) C4.lenσ hts
            rw [z]
            exact wipe_eq (ts := vs) (fun j hj => wipe_out2 hj) (wipe_length _ _) fun _ h => h
          have hv3 : ∀ v ∈ vs, v < σ3.length := fun v h => by
            rw [C4.lenσ, wipe_length]; exact hv' v h
          refine ⟨ew, frz G2 H3 B, S3, As3, τ, R4, fin_mono (fin_bn k3) fun b S4 e4 k4 => ?_⟩
          intro G4 As4 H4 R5 P5
          have P4 : Post ((m2 ++ m3) ++ vs) (wipeS S1 vs) S3 (wipeA As1 vs) As3 G1 (frz G2 H3 B) H1 H3 := P3.trans (C4.post hts)
          have P6 := P4.trans P5
          have D3 : ∀ j, D ∉ As3 j := fun j z => dA2 j (C4.sub j D z)
          have hD3 : H3 D = some (.lst xs) := kp D _ hD2
          have D4 : ∀ j, D ∉ As4 j := fun j z => by
            rcases P5.new j D z with q | ⟨k', _, q⟩ | q
            · exact D3 j q
            · exact D3 k' q
            · rw [hD3] at q; cases q
          have hD4 : H4 D = some (.lst xs) := P5.frm D _ hD3 fun j _ => D3 j
          have G4D : G4 D = none := by
            rw [P5.gn D (by rw [hD3]; exact fun z => nomatch z) fun j _ => D3 j]
            exact dG3
          have x5 : Ex G2 G4 := x4.trans P5.exG
          have out : ∀ {As5 : Nat → List Addr}, (∀ j, D ∉ As5 j) → ∀ j, D ∉ wipeA As5 vs j := fun h j z => by
            unfold wipeA at z
            split at z
            · cases z
            · exact h j z
          cases b with
          | false =>
            rw [if_neg Bool.false_ne_true]
            have P7 : Post (vs ++ (m2 ++ m3)) (wipeS S1 vs) S4 (wipeA As1 vs) As4 G1 G4 H1 H4 := P6.mono fun j hj => by
              simp only [List.mem_append] at hj ⊢
              rcases hj with ((h | h) | h) | h
              · exact .inr (.inl h)
              · exact .inr (.inr h)
              · exact .inl h
              · exact .inr (.inl h)
            have R6 := R5.wipe hv3 hio
            rw [ew] at R6
            exact ⟨G4, wipeS S4 vs, wipeA As4 vs, acc, xs, R6, x2.trans x5, P7.unvs h0 hs0, hD4, RsL.mono x5 ra, by omega, G4D, out D4, k4⟩
          | true =>
            rw [if_pos rfl]
            refine ⟨G4, S4, As4, τ, R5, fin_mono (fin_bn k4) fun x S5 e5 k5 => ?_⟩
            intro v G5 As5 H5 R6 P8 r6
            have hD5 : H5 D = some (.lst xs) := P8.frm D _ hD4 fun j _ => D4 j
            have D5 : ∀ j, D ∉ As5 j := fun j z => by
              rcases P8.new j D z with q | ⟨k', _, q⟩ | q
              · exact D4 j q
              · exact D4 k' q
              · rw [hD4] at q; cases q
            have G5D : G5 D = none := by
              rw [P8.gn D (by rw [hD4]; exact fun z => nomatch z) fun j _ => D4 j]
              exact G4D
            have lx : xs.length < sizeLine := by
              have := RsL.length ra
              rw [sizeLine_eq]
              omega
            refine ⟨xs, hD5, lx, ?_⟩
            have P7 : Post (vs ++ (m2 ++ m3)) (wipeS S1 vs) S5 (wipeA As1 vs) As5 G1 G5 H1 H5 := (P6.trans P8).mono fun j hj => by
              simp only [List.mem_append] at hj ⊢
              rcases hj with (((h | h) | h) | h) | h
              · exact .inr (.inl h)
              · exact .inr (.inr h)
              · exact .inl h
              · exact .inr (.inl h)
              · exact .inr (.inr h)
            have R7 := R6.wipe hv3 hio
            rw [ew] at R7
            have R8 := R7.mutOut (o := .lst (xs ++ [v])) G5D (out D5) dH0
            have ra5 : RsL c.E G5 (acc ++ [x]) (xs ++ [v]) := .append (RsL.mono (x5.trans P8.exG) ra) (.cons r6 .nil)
            refine ⟨G5, wipeS S5 vs, wipeA As5 vs, acc ++ [x], xs ++ [v], R8, x2.trans (x5.trans P8.exG), (P7.unvs h0 hs0).mut hD (by rw [hD5]; exact fun z => nomatch z), upd_same, ra5, ?_, G5D, out D5, ?_⟩
            · rw [List.length_append]
              show acc.length + 1 ≤ i + 1
              omega
            · refine fin_mono (fin_bn (W := W) k5) fun ys S6 _ k6 => ?_
              rw [List.append_assoc]
              exact k6
      · have e : i = ds.length := by omega
        subst e
        rw [List.drop_length] at k2
        refine .inl ⟨Wk.stop _ H2 x3 (Nat.le_refl _), ?_⟩
        have A0 : ∀ v ∈ vs, As1 v = [] := fun v hvv => by
          have hl := hv' v hvv
          have hs : v < S1.length := by rw [R1.len]; omega
          have q := R1.sl v _ (List.getElem?_eq_getElem hs)
          have n := hno v hvv
          rw [List.getElem?_eq_getElem hs] at n
          cases e : S1[v] with
          | no => rw [e] at q; exact q
          | pl d => rw [e] at q; exact q.1
          | ow o => rw [e] at n; cases n
        refine k2 (.ref D) [D] G2 (wipeA As2 vs) H2 (R2.unwipe R1 x2 hv' hio hno) (P1.trans (P2.unwipe A0)) ?_ ⟨?_, ?_, ?_, ?_⟩ (Frs.mono (Frs.one P1 hD) fun j hj => List.mem_append_left _ hj)
        · unfold Ro
          rw [List.append_nil]
          exact ⟨D, xs, [], rfl, rfl, hD2, RoL.sh ra⟩
        · exact List.nodup_cons.mpr ⟨fun z => (nomatch z), List.nodup_nil⟩
        · intro a ha
          obtain rfl : a = D := by simpa using ha
          exact dH0
        · intro a ha
          obtain rfl : a = D := by simpa using ha
          exact dG2
        · intro a ha j z
          obtain rfl : a = D := by simpa using ha
          unfold wipeA at z
          split at z
          · cases z
          · exact dA2 j z
/-- [elt for tg in iter if ..], the items shared -/
theorem zComp {scope : Scope} {own : List (Str × Nat)} {pos : Pos} {ifs : List Expr} (hc : X.calm = true) (hN : X.N.Nodup) (hi : PI X tg iter (tI c W m1 mi)) (ok : BlkOk X.N X.env.scope scope own) (hvs : own.map (·.2) = vs) (hv : ∀ v ∈ vs, v < X.N.length) (hio : ∀ v ∈ vs, v ∉ c.io) (hts : ∀ j ∈ ts, j ∈ vs)
    (hg : ∀ (s : Shared) (H : Hp) (C : Addr) (cl : List (Str × Addr)) (fp : List Addr), PG (X.blk s H scope (compEnvC scope cl C X.env) fp) tg (gT c ts g)) (ht : ∀ (s : Shared) (H : Hp) (C : Addr) (cl : List (Str × Addr)) (fp : List Addr), PTs (X.blk s H scope (compEnvC scope cl C X.env) fp) ifs (tT c E00 m2 t))
    (he : ∀ (s : Shared) (H : Hp) (C : Addr) (cl : List (Str × Addr)) (fp : List Addr), PE (X.blk s H scope (compEnvC scope cl C X.env) fp) elt (tE c E00 true m3 me)) (hs : ∀ x, foldedSetIterable iter X.env x = pure x := by intro _; rfl) :
    PE X (.ListComp elt [⟨tg, iter, ifs, 0⟩] scope pos) (tO c W (m1 ++ (m2 ++ m3)) (mComp mi g t me vs)) := by
  subst hvs
  exact PEl (pe_lc hc hN hi ok hg ht he hs) (w_comp hv hio hts)
def mYes : M Bool := mC true
theorem zNoIf : PTs X [] (tT c W [] mYes) := ⟨fun pins s σ H Q I ⟨G, S, As, τ, R, q⟩ => pts_nil.run pins s σ H Q I (q G As H R Post.refl)⟩
theorem zIf1 {e : Expr} (h : PT X e (tT c W mods t)) : PTs X [e] (tT c W mods t) := pts_one h
end
end Z

/-! Z7: defs: what they promise, how they are called. -/
namespace Z
open PySem PySem.Spec PyProof.Rows L2
abbrev Fn := List Sl → Out O
def mkFn (n : Nat) (b : MS) : Fn := fun args => match b (args ++ List.replicate (n - args.length) .no) with
  | .ret o S => .ok o S
  | .next S => .ok (.sh .non) S
  | .exc C fs ds S => .exc C fs ds S
  | _ => .bad
/-- what stands at a call: the arguments, those of io own things -/
structure Ent (E : Ev) (io : List Nat) (G H : Hp) (args : List Sl) (vs : List V) (As : Nat → List Addr) : Prop where
  exG : Ex G H
  len : args.length = vs.length
  sl : ∀ i s, args[i]? = some s → SlOk E G H s (vs[i]?.map some) (As i)
  iow : ∀ i ∈ io, ∃ o, args[i]? = some (.ow o)
  emp : ∀ i, i ∉ io → As i = []
  nd : ∀ i, (As i).Nodup
  dj : ∀ i j a, a ∈ As i → a ∈ As j → i = j
  nf : ∀ i a, a ∈ As i → G a = none
/-- what stands behind it -/
structure Exi (E : Ev) (io : List Nat) (G H : Hp) (vs : List V) (As : Nat → List Addr) (S' : List Sl) (As' : Nat → List Addr) (G' H' : Hp) (A : List Addr) : Prop where
  exG : Ex G' H'
  grow : Ex G G'
  gn : ∀ a, H a ≠ none → G' a = G a
  frm : ∀ a o, H a = some o → (∀ i ∈ io, a ∉ As i) → H' a = some o
  stay : ∀ a, H a ≠ none → H' a ≠ none
  sl : ∀ i ∈ io, ∃ o w, S'[i]? = some (.ow o) ∧ vs[i]? = some w ∧ Ro E G' H' o w (As' i)
  nd : ∀ i ∈ io, (As' i).Nodup
  dj : ∀ i ∈ io, ∀ j ∈ io, ∀ a, a ∈ As' i → a ∈ As' j → i = j
  nf : ∀ i ∈ io, ∀ a ∈ As' i, G' a = none ∧ (H a = none ∨ a ∈ As i)
  rnd : A.Nodup
  rnf : ∀ a ∈ A, G' a = none ∧ H a = none ∧ ∀ i ∈ io, a ∉ As' i
/-- the promise of a def whose mirror is f -/
def spM (E : Ev) (n : Nat) (io : List Nat) (f : Fn) : Sp := fun vs H Q X => vs.length = n ∧ ∃ G args As, Ent E io G H args vs As ∧ match f args with
  | .ok o S' => ∀ v A G' As' H', Exi E io G H vs As S' As' G' H' A → Ro E G' H' o v A → Q v H'
  | .exc C fs ds S' => ∀ G' As' H' dd, Exi E io G H vs As S' As' G' H' [] → ExcAt E G' H' fs ds dd → X (.ref (E.ca C)) dd H'
  | .bad => False
/-- the body's context -/
def ctxOf (E : Ev) (io : List Nat) (G H : Hp) (vs : List V) (As : Nat → List Addr) : Ctx := ⟨E, G, H, As, io, vs⟩
theorem start_real {E : Ev} {io : List Nat} {G H : Hp} {args : List Sl} {vs : List V} {As : Nat → List Addr} {N : List Str} (h : Ent E io G H args vs As) :
    Real (ctxOf E io G H vs As) G (args ++ List.replicate (N.length - args.length) .no) As [] (L2.start N vs) H where
  exG := h.exG
  sl := fun i s e => by
    have e0 : env (L2.start N vs) [] = L2.start N vs := List.append_nil _
    rw [e0]
    by_cases hi : i < args.length
    · rw [List.getElem?_append_left hi] at e
      have q := h.sl i s e
      have e1 : (L2.start N vs)[i]? = vs[i]?.map some := by
        unfold L2.start
        rw [List.getElem?_append_left (by rw [List.length_map, ← h.len]; exact hi), List.getElem?_map]
      rw [e1]
      exact q
    · rw [List.getElem?_append_right (by omega)] at e
      have := List.eq_of_mem_replicate (List.mem_of_getElem? e)
      subst this
      refine h.emp i fun z => ?_
      obtain ⟨o, ho⟩ := h.iow i z
      exact hi (List.getElem?_eq_some_iff.mp ho).1
  len := by
    unfold L2.start
    simp only [List.length_append, List.length_replicate, List.length_map, List.length_nil]
    have := h.len
    omega
  emp := fun i hi => by
    rw [List.length_append] at hi
    refine h.emp i fun z => ?_
    obtain ⟨o, ho⟩ := h.iow i z
    have := (List.getElem?_eq_some_iff.mp ho).1
    omega
  nd := h.nd
  dj := h.dj
  nf := h.nf
  g0 := Ex.refl G
  gn := fun _ _ => rfl
  fr0 := fun a o e _ => e
  stay := fun _ e => e
  fn := fun i a ha => by
    right
    refine ⟨?_, ha⟩
    apply Classical.byContradiction
    intro z
    rw [h.emp i z] at ha
    cases ha
  io := fun i hi => by
    obtain ⟨o, ho⟩ := h.iow i hi
    have hl := (List.getElem?_eq_some_iff.mp ho).1
    obtain ⟨v, hv, _⟩ := h.sl i _ ho
    have hv' : vs[i]? = some v := by
      rw [Option.map_eq_some_iff] at hv
      obtain ⟨w, h1, h2⟩ := hv
      cases h2
      exact h1
    refine ⟨o, v, by rw [List.getElem?_append_left hl]; exact ho, hv', ?_⟩
    unfold L2.start
    rw [List.getElem?_append_left (by rw [List.length_map, ← h.len]; exact hl), List.getElem?_map, hv']
    rfl
theorem exit_real {E : Ev} {io : List Nat} {G H : Hp} {vs : List V} {As : Nat → List Addr} {G' H' : Hp} {S' : List Sl} {As' : Nat → List Addr} {τ : List V} {σ : L2.St} {A : List Addr}
    (R : Real (ctxOf E io G H vs As) G' S' As' τ σ H') (N : New (ctxOf E io G H vs As) G' As' A) : Exi E io G H vs As S' As' G' H' A where
  exG := R.exG
  grow := R.g0
  gn := R.gn
  frm := R.fr0
  stay := R.stay
  sl := fun i hi => by
    obtain ⟨o, v, h1, h2, h3⟩ := R.io i hi
    obtain ⟨w, h4, h5⟩ := R.sl i _ h1
    rw [env_lt (List.getElem?_eq_some_iff.mp h3).1, h3] at h4
    cases h4
    exact ⟨o, v, h1, h2, h5⟩
  nd := fun i _ => R.nd i
  dj := fun i _ j _ a => R.dj i j a
  nf := fun i hi a ha => ⟨R.nf i a ha, (R.fn i a ha).imp id fun z => z.2⟩
  rnd := N.nd
  rnf := fun a ha => ⟨N.g a ha, N.h0 a ha, fun i _ => N.out a ha i⟩
/-- a body that means its mirror keeps the promise -/
theorem body_ok {E : Ev} {n : Nat} {io : List Nat} {N : List Str} {b : MS} {vs : List V} {H : Hp} {Q : VK} {X : XK} (h : spM E n io (mkFn N.length b) vs H Q X) :
    ∃ c : Ctx, c.E = E ∧ c.io = io ∧ tS c X b { nx := fun _ H' => Q .non H', rt := Q } (L2.start N vs) H := by
  obtain ⟨hn, G, args, As, En, q⟩ := h
  refine ⟨ctxOf E io G H vs As, rfl, rfl, G, _, As, start_real (N := N) En, ?_⟩
  unfold mkFn at q
  cases hb : b (args ++ List.replicate (N.length - args.length) .no) with
  | next S1 =>
    simp only [hb] at q
    intro G1 As1 σ1 H1 R1
    exact q .non [] G1 As1 H1 (exit_real R1 New.nil) (by unfold Ro; exact ⟨rfl, by unfold Rs; rfl⟩)
  | ret o S1 =>
    simp only [hb] at q
    intro v A G1 As1 τ1 σ1 H1 R1 r1 N1
    exact q v A G1 As1 H1 (exit_real R1 N1) r1
  | brk S1 =>
    simp only [hb] at q
  | cont S1 =>
    simp only [hb] at q
  | exc C fs ds S1 =>
    simp only [hb] at q
    intro G1 As1 τ1 σ1 H1 dd R1 x1
    exact q G1 As1 H1 dd (exit_real R1 New.nil) x1
  | bad =>
    simp only [hb] at q

/-! ### a def, where no repr is under way -/
structure FnG (P : Program) (w : World) (K : PySem.W.Frag) (mg : Str → Option Value) (base : Heap) (CX : CXT) (k : Nat) (f : Addr) (fd : FuncData) (ps : List Str) (sp : Sp) : Prop where
  len : ∀ vs H Q E, sp vs H Q E → vs.length = ps.length
  run : ∀ (A : Around) (outer : List Env) (s : Shared) (H : Hp) (args : Args) (us : List Value) (vs : List V) (Q : VK) (E : XK), Room k A → A.guards = some [] → Env0 P w K mg base A outer s H →
    BindsTo s fd args (ps.zip us) → Vals vs us → sp vs H Q E → codeAny (model P w) A (.call (.ref f) args) (CR CX outer P w H s Q E) s
theorem FnG.mono {P : Program} {w : World} {K : PySem.W.Frag} {mg : Str → Option Value} {base : Heap} {CX : CXT} {j k : Nat} {f : Addr} {fd : FuncData} {ps : List Str} {sp : Sp} (F : FnG P w K mg base CX j f fd ps sp) (h : j ≤ k) :
    FnG P w K mg base CX k f fd ps sp := ⟨F.len, fun A o s H args us vs Q E hr hg => F.run A o s H args us vs Q E (hr.mono h) hg⟩
section
variable {X : Cx} {CX : CXT} {k : Nat} {f C : Addr} {fd : FuncData} {ps : List Str} {sp : Sp} {dvs : List V} {ds : List Value} {E : XK} {x m : Str} {p pos apos : Pos} {e o : Expr} {es : List Expr} {ta : TE} {t : TA}
theorem runG {pins : List (Addr × Obj)} {σ : L2.St} {H : Hp} {s : Shared} {Q : VK} {us : List Value} {vs : List V} (F : FnG X.prog X.w X.K X.mg X.base CX k f fd ps sp) (hr : Room k X.A) (hgd : X.A.guards = some []) (hb : Binds X.K fd ps ds) (hd : Vals dvs ds)
    (hx : Passes CX X E) (I : Inv X pins σ H s) (r : Vals vs us) (h : sp (vs ++ dvs) H Q E) : wpAny (model X.prog X.w) X.A (call (.ref f) us) (EP X pins σ Q) X.xe s := by
  have rr : Vals (vs ++ dvs) (us ++ ds) := r.append hd
  have ll : (us ++ ds).length = ps.length := rr.length.symm.trans (F.len _ _ _ _ h)
  have body := F.run X.A X.stack s H ⟨us, []⟩ (us ++ ds) (vs ++ dvs) Q E hr hgd I.env0 (hb s us I.kIn ll) rr h
  refine wpAny_call (codeAny_mono body fun res s2 hres => ?_)
  match res, hres with
  | .error e2, hres => exact hx pins σ H s e2 s2 I hres
  | .ok (.ret u2), hres => exact I.after hres
theorem pe_callG (F : FnG X.prog X.w X.K X.mg X.base CX k f fd ps sp) (hr : Room k X.A) (hgd : X.A.guards = some []) (hg : Gl X x) (hm : X.mg x = some (.ref f)) (hk : PySem.W.keepIn X.K (.ref f) = true) (hb : Binds X.K fd ps ds) (hd : Vals dvs ds) (hx : Passes CX X E)
    (ha : PA X (e :: es) t) (hdb : (x == ("__debug__" : Str)) = false := by decide) (he : starEach (e :: es) X.env = (false, eval e X.env) :: starEach es X.env := by rfl) (hpl : (backTo pos (starEach es X.env)).any (·.1) = false := by rfl) :
    PE X (.Call (.Name x p) (e :: es) [] pos) (tCall sp dvs E t) := ⟨fun pins s σ H Q I h => by
  have arg := ha.run pos pins s σ H _ I h
  exact wpAny_Call_Name_kw (ld_glob I hg hm (PySem.W.callWith_K (h₀ := X.base) I.ok.mod.kin hk (thn arg fun us s1 hq => by
    obtain ⟨vs, H1, I1, r, q⟩ := hq
    exact ⟨I1.kIn, runG F hr hgd hb hd hx I1 r q⟩) he hpl) hdb)⟩
end
section
variable {P : Program} {w : World} {K : PySem.W.Frag} {mg : Str → Option Value} {base : Heap} {x qual : Str} {params : Arguments} {body : List Stmt} {scope : Scope} {dvs : List V} {kws : List (Str × V)} {f : Addr} {fd : FuncData}
/-- a def's body, walked as its mirror says -/
theorem okG {E : Ev} {n : Nat} {io : List Nat} {N ps : List Str} {k : Nat} {b : MS} (F : FunD K x qual params body scope dvs kws f fd) (S : FnScope N ps scope) (hn : ps.length = n)
    (hbody : ∀ (cdv : Value) (A : Around) (outer : List Env) (s : Shared) (H : Hp) (X : XK) (c : Ctx), Room k (A.deeper (envOfC qual scope s.heap.objs.size f cdv)) → A.guards = some [] → c.E = E → c.io = io →
      PSs (cxOf (L2.CX P w) P w K mg base N qual scope f cdv A outer s H X) body (tS c X b)) : FnG P w K mg base (L2.CX P w) (k + 1) f fd ps (spM E n io (mkFn N.length b)) := by
  refine ⟨fun vs H Q X h => h.1.trans hn.symm, fun A outer s H args us vs Q X hr hgd e0 hb r hsp => ?_⟩
  obtain ⟨oc, od, dV, kV, doc, pm, an, cdv, ct, osl, rfl, lk, hcd, _, _⟩ := F.ex
  have hz : vs.length = ps.length := hsp.1.trans hn.symm
  have kin : K.In s.heap := e0.mod.kin.keeps (fun a ob q => (e0.bs a ob q).1)
  have nol : s.heap.NoLimit := e0.mod.nolimit.keeps (fun a ob q => (e0.bs a ob q).1)
  have kinds : ∀ z ∈ ps.zip us, scope.names.lookup z.1 = some .local ∨ (scope.names.lookup z.1 = some .cell ∧ ((cellsFrom (s.heap.objs.size + 1) scope.names []).lookup z.1).isSome = true) := by
    rintro ⟨nm, u⟩ hz
    have hp := S.par nm (List.of_mem_zip hz).1
    rcases hp with hp | hp
    · exact Or.inl hp
    · exact Or.inr ⟨hp, PySem.W.cellsFrom_some _ _ _ (Or.inl hp)⟩
  refine codeAny_call_function hr.depth (kin _ _ lk) rfl S.co S.gen rfl (PySem.W.codeRec_of kin hcd) (hb _ _ _ _ ?_)
  refine wpAny_newFunctionEnv_cells S.kind kinds fun env2 he2 s2 st2 => ?_
  subst he2
  refine ⟨nol.keeps st2.toInCall.keep, codeAny_func ?_⟩
  obtain ⟨c, hcE, hcio, hq⟩ := body_ok hsp
  have I := inv_start (CX := L2.CX P w) (E := X) S hr.hd e0 hz r st2
  have dr := hbody cdv A outer s H X c (hr.deeper _) hgd hcE hcio
  refine wpAny_mono (dr.run [] _ (L2.start N vs) H _ I hq) (fun fl s3 h3 => ?_) fun e2 s3 h3 => h3
  have done : ∀ {σ2 : L2.St} {H2 : Hp} {v : V} {u : Value}, Inv (cxOf (L2.CX P w) P w K mg base N qual scope f cdv A outer s H X) [] σ2 H2 s3 → RelV v u → Q v H2 → CE outer P w H s Q u s3 := by
    intro σ2 H2 v u J rv q
    exact ⟨v, H2, J.os, J.bare, J.base, J.hok, rv, q⟩
  cases fl with
  | ret u =>
    obtain ⟨v, σ2, H2, J, rv, q⟩ := h3
    exact done J rv q
  | next =>
    obtain ⟨σ2, H2, J, q⟩ := h3
    exact done (v := V.non) (u := Value.none) J rfl q
  | brk =>
    obtain ⟨σ2, H2, J, q⟩ := h3
    exact q.elim
  | cont =>
    obtain ⟨σ2, H2, J, q⟩ := h3
    exact q.elim
end
end Z

/-! Z8: calls of defs. -/
namespace Z
open PySem PySem.Spec PyProof.Rows L2
/-- an argument: data, a slot that is shown, a slot that is lent -/
inductive Av where
  | d (d : D) | s (i : Nat) | b (i : Nat)
def AvOk (E : Ev) (G : Hp) (σ : L2.St) : List Av → List V → Prop
  | [], vs => vs = []
  | .d d :: r, vs => ∃ v ws, vs = v :: ws ∧ Rs E G d v ∧ AvOk E G σ r ws
  | .s i :: r, vs => ∃ v ws, vs = v :: ws ∧ σ[i]? = some (some v) ∧ AvOk E G σ r ws
  | .b i :: r, vs => ∃ v ws, vs = v :: ws ∧ σ[i]? = some (some v) ∧ AvOk E G σ r ws
theorem AvOk.mono {E : Ev} {G G' : Hp} {σ : L2.St} (e : Ex G G') : ∀ {as : List Av} {vs : List V}, AvOk E G σ as vs → AvOk E G' σ as vs
  | [], _, h => h
  | .d d :: r, vs, h => by
    obtain ⟨v, ws, h1, h2, h3⟩ := h
    exact ⟨v, ws, h1, Rs.mono e h2, AvOk.mono e h3⟩
  | .s i :: r, vs, h => by
    obtain ⟨v, ws, h1, h2, h3⟩ := h
    exact ⟨v, ws, h1, h2, AvOk.mono e h3⟩
  | .b i :: r, vs, h => by
    obtain ⟨v, ws, h1, h2, h3⟩ := h
    exact ⟨v, ws, h1, h2, AvOk.mono e h3⟩
/-- the lent slots by their places among the arguments -/
def lentAt : Nat → List Av → List (Nat × Nat)
  | _, [] => []
  | p, .b i :: r => (p, i) :: lentAt (p + 1) r
  | p, _ :: r => lentAt (p + 1) r
def shown : List Av → List Nat
  | [] => []
  | .s i :: r => i :: shown r
  | _ :: r => shown r
/-- the slots that stand among the arguments -/
def AvIn (bs : List Nat) (σ : L2.St) (as : List Av) : Prop := (∀ i, Av.b i ∈ as → i ∈ bs ∧ i < σ.length) ∧ ∀ i, Av.s i ∈ as → i < σ.length
theorem AvIn.nil {bs : List Nat} {σ : L2.St} : AvIn bs σ [] := ⟨fun _ h => (nomatch h), fun _ h => (nomatch h)⟩
theorem AvIn.d {bs : List Nat} {σ : L2.St} {d : D} {as : List Av} (h : AvIn bs σ as) : AvIn bs σ (.d d :: as) :=
  ⟨fun i hi => (List.mem_cons.mp hi).elim (fun e => nomatch e) (h.1 i), fun i hi => (List.mem_cons.mp hi).elim (fun e => nomatch e) (h.2 i)⟩
theorem AvIn.s {bs : List Nat} {σ : L2.St} {j : Nat} {as : List Av} (h : AvIn bs σ as) (hj : j < σ.length) : AvIn bs σ (.s j :: as) :=
  ⟨fun i hi => (List.mem_cons.mp hi).elim (fun e => nomatch e) (h.1 i), fun i hi => (List.mem_cons.mp hi).elim (fun e => by cases e; exact hj) (h.2 i)⟩
theorem AvIn.b {bs : List Nat} {σ : L2.St} {j : Nat} {as : List Av} (h : AvIn bs σ as) (hb : j ∈ bs) (hj : j < σ.length) : AvIn bs σ (.b j :: as) :=
  ⟨fun i hi => (List.mem_cons.mp hi).elim (fun e => by cases e; exact ⟨hb, hj⟩) (h.1 i), fun i hi => (List.mem_cons.mp hi).elim (fun e => nomatch e) (h.2 i)⟩
theorem AvIn.append {bs : List Nat} {σ : L2.St} {as zs : List Av} (h : AvIn bs σ as) (k : AvIn bs σ zs) : AvIn bs σ (as ++ zs) :=
  ⟨fun i hi => (List.mem_append.mp hi).elim (h.1 i) (k.1 i), fun i hi => (List.mem_append.mp hi).elim (h.2 i) (k.2 i)⟩
theorem lent_mem {as : List Av} : ∀ {k : Nat} {p : Nat × Nat}, p ∈ lentAt k as → Av.b p.2 ∈ as := by
  induction as with
  | nil => intro k p h; cases h
  | cons a r ih =>
    intro k p h
    cases a with
    | d x => exact List.mem_cons_of_mem _ (ih h)
    | s x => exact List.mem_cons_of_mem _ (ih h)
    | b x =>
      rcases List.mem_cons.mp h with e | h
      · rw [e]; exact List.mem_cons_self
      · exact List.mem_cons_of_mem _ (ih h)
theorem shown_mem {as : List Av} {i : Nat} (h : i ∈ shown as) : Av.s i ∈ as := by
  induction as with
  | nil => cases h
  | cons a r ih =>
    cases a with
    | d x => exact List.mem_cons_of_mem _ (ih h)
    | b x => exact List.mem_cons_of_mem _ (ih h)
    | s x =>
      rcases List.mem_cons.mp h with e | h
      · rw [e]; exact List.mem_cons_self
      · exact List.mem_cons_of_mem _ (ih h)
def tAg (c : Ctx) (X : XK) (mods bs : List Nat) (m : M (List Av)) : TA := fun σ H Q => ∃ G S As τ, Real c G S As τ σ H ∧ fin c X (m S) fun as S' =>
  ∀ vs G' As' H', Real c G' S' As' τ σ H' → Post mods S S' As As' G G' H H' → AvOk c.E G' (env σ τ) as vs → AvIn bs σ as → Q vs H'
def aD (m : M D) : M Av := fun S => (m S).bd fun d S => .ok (.d d) S
def isOw : Option Sl → Bool
  | some (.ow _) => true
  | _ => false
def aS (i : Nat) : M Av := fun S => match isOw S[i]? with
  | true => .ok (.s i) S
  | false => .bad
def aB (i : Nat) : M Av := fun S => match isOw S[i]? with
  | true => .ok (.b i) S
  | false => .bad
theorem isOw_some {x : Option Sl} (h : isOw x = true) : ∃ o, x = some (.ow o) := by
  cases x with
  | none => cases h
  | some s => cases s with
    | ow o => exact ⟨o, rfl⟩
    | _ => cases h
section
variable {X : Cx} {c : Ctx} {W : XK} {mods m1 m2 bs : List Nat} {e : Expr} {es : List Expr} {ma : M D} {mr : M (List Av)} {t0 : TE} {t1 t' : TA}
theorem PAl {t : TA} (h : PA X es t) (w : ∀ σ H Q, σ.length = X.N.length → t' σ H Q → t σ H Q) : PA X es t' := ⟨fun p pins s σ H Q I q => h.run p pins s σ H Q I (w σ H Q I.len q)⟩
theorem w_a0 (σ : L2.St) (H : Hp) (Q : List V → Hp → Prop) (h : tAg c W [] bs (mC []) σ H Q) : tNil σ H Q := by
  obtain ⟨G, S, As, τ, R, q⟩ := h
  exact q [] G As H R Post.refl rfl AvIn.nil
theorem w_ad (σ : L2.St) (H : Hp) (Q : List V → Hp → Prop) (h : tAg c W (m1 ++ m2) bs (mCons (aD ma) mr) σ H Q) : tCons (tE c W true m1 ma) (tAg c W m2 bs mr) σ H Q := by
  obtain ⟨G, S, As, τ, R, q⟩ := h
  refine ⟨G, S, As, τ, R, fin_mono (fin_bd (fin_bd q)) fun d S1 e1 k => ?_⟩
  intro v G1 As1 H1 R1 P1 r1
  refine ⟨G1, S1, As1, τ, R1, fin_mono (fin_bd k) fun as S2 e2 k2 => ?_⟩
  intro vs G2 As2 H2 R2 P2 r2 a2
  exact k2 (v :: vs) G2 As2 H2 R2 (P1.trans P2) ⟨v, vs, rfl, Rs.mono P2.exG r1, r2⟩ a2.d
theorem w_ab {i : Nat} {σ : L2.St} {H : Hp} {Q : List V → Hp → Prop} (hi : i < σ.length) (hb : i ∈ bs) (h : tAg c W m2 bs (mCons (aB i) mr) σ H Q) : tCons (tVar i) (tAg c W m2 bs mr) σ H Q := by
  obtain ⟨G, S, As, τ, R, q⟩ := h
  have q1 := fin_bd q
  unfold aB at q1
  cases ho : isOw S[i]? with
  | false => rw [ho] at q1; exact q1.elim
  | true =>
    rw [ho] at q1
    obtain ⟨o, eo⟩ := isOw_some ho
    obtain ⟨v, h1, h2⟩ := ow_at R hi eo
    refine ⟨v, h1, G, S, As, τ, R, fin_mono (fin_bd q1) fun as S2 e2 k2 => ?_⟩
    intro vs G2 As2 H2 R2 P2 r2 a2
    exact k2 (v :: vs) G2 As2 H2 R2 P2 ⟨v, vs, rfl, by rw [env_lt hi]; exact h1, r2⟩ (a2.b hb hi)
theorem aNil : PA X [] (tAg c W [] bs (mC [])) := PAw pa_nil w_a0
theorem zAd (ha : PE X e (tE c W true m1 ma)) (hr : PA X es (tAg c W m2 bs mr)) (hs : starEach (e :: es) X.env = (false, eval e X.env) :: starEach es X.env := by rfl) : PA X (e :: es) (tAg c W (m1 ++ m2) bs (mCons (aD ma) mr)) := PAw (pa_cons ha hr hs) w_ad
theorem zAb {i : Nat} {x : Str} {p : Pos} (hN : X.N[i]? = some x) (hr : PA X es (tAg c W m2 bs mr)) (hb : i ∈ bs) (hv : Vis X.env.scope x := by first | exact Or.inl rfl | exact Or.inr (Or.inl rfl) | exact Or.inr (Or.inr rfl))
    (hd : (x == ("__debug__" : Str)) = false := by decide) (hcd : (x == ("__classdict__" : Str)) = false := by decide) (hs : starEach (.Name x p :: es) X.env = (false, eval (.Name x p) X.env) :: starEach es X.env := by rfl) : PA X (.Name x p :: es) (tAg c W m2 bs (mCons (aB i) mr)) :=
  PAl (pa_cons (pe_var (i := i) hN hv hd hcd) hr hs) fun σ H Q hl h => w_ab (by rw [hl]; exact (List.getElem?_eq_some_iff.mp hN).1) hb h
/-! keywords -/
variable {nm : Option Str} {kpos : Pos} {kws : List Keyword}
end
/-! ### closed things: no shared objects within -/
mutual
def clO : O → Bool
  | .sh d => isScal d
  | .lst os => clL os
  | .tup os => clL os
  | .dic _ os => clL os
  | .obj _ _ os => clL os
def clL : List O → Bool
  | [] => true
  | o :: os => clO o && clL os
end
mutual
theorem cl_any {E : Ev} {G G' H : Hp} : ∀ {o : O} {v : V} {A : List Addr}, clO o = true → Ro E G H o v A → Ro E G' H o v A
  | .sh d, v, A, s, h => by
    unfold Ro at h ⊢
    unfold clO at s
    exact ⟨h.1, scal_any s h.2⟩
  | .lst os, v, A, s, h => by
    unfold Ro at h ⊢
    unfold clO at s
    obtain ⟨a, xs, B, h1, h2, h3, h4⟩ := h
    exact ⟨a, xs, B, h1, h2, h3, clL_any s h4⟩
  | .tup os, v, A, s, h => by
    unfold Ro at h ⊢
    unfold clO at s
    obtain ⟨a, xs, B, h1, h2, h3, h4⟩ := h
    exact ⟨a, xs, B, h1, h2, h3, clL_any s h4⟩
  | .dic ks os, v, A, s, h => by
    unfold Ro at h ⊢
    unfold clO at s
    obtain ⟨a, xs, B, h1, h2, h3, h5, h4⟩ := h
    exact ⟨a, xs, B, h1, h2, h3, h5, clL_any s h4⟩
  | .obj C fs os, v, A, s, h => by
    unfold Ro at h ⊢
    unfold clO at s
    obtain ⟨a, dx, xs, B, h1, h2, h3, h5, h4⟩ := h
    exact ⟨a, dx, xs, B, h1, h2, h3, h5, clL_any s h4⟩
theorem clL_any {E : Ev} {G G' H : Hp} : ∀ {os : List O} {vs : List V} {A : List Addr}, clL os = true → RoL E G H os vs A → RoL E G' H os vs A
  | [], vs, A, s, h => by
    unfold RoL at h ⊢
    exact h
  | o :: os, vs, A, s, h => by
    unfold RoL at h ⊢
    unfold clL at s
    rw [Bool.and_eq_true] at s
    obtain ⟨v, r, A1, A2, h1, h2, h3, h4⟩ := h
    exact ⟨v, r, A1, A2, h1, h2, cl_any s.1 h3, clL_any s.2 h4⟩
end
def clS : Option Sl → Bool
  | some (.ow o) => clO o
  | _ => false
/-- the arguments as the callee has them -/
def argOf (S : List Sl) : Av → Option Sl
  | .d d => some (.pl d)
  | .s i => match S[i]? with
    | some (.ow o) => some (.pl (fr o))
    | _ => none
  | .b i => match S[i]? with
    | some (.ow o) => some (.ow o)
    | _ => none
def argsOf (S : List Sl) : List Av → Option (List Sl)
  | [] => some []
  | a :: r => match argOf S a, argsOf S r with
    | some x, some xs => some (x :: xs)
    | _, _ => none
/-- what was lent comes back -/
def backS (S2 : List Sl) : List (Nat × Nat) → List Sl → List Sl
  | [], S => S
  | (p, i) :: r, S => (backS S2 r S).set i (S2.getD p .no)
/-- the calling side's own checks -/
def callOk (n : Nat) (io : List Nat) (as : List Av) : Bool := decide (as.length = n) && (decide ((lentAt 0 as).map (·.1) = io) && (decide ((lentAt 0 as).map (·.2)).Nodup && (shown as).all fun i => !((lentAt 0 as).map (·.2)).contains i))
def callV (n : Nat) (io : List Nat) (f : Fn) (as : List Av) : M O := fun S1 => match callOk n io as, argsOf S1 as with
  | true, some args => match f args with
    | .ok o S2 => match (shown as).isEmpty || (clO o && io.all fun p => clS S2[p]?) with
      | true => .ok o (backS S2 (lentAt 0 as) S1)
      | false => .bad
    | .exc C fs ds S2 => match (shown as).isEmpty || (ds.all isScal && io.all fun p => clS S2[p]?) with
      | true => .exc C fs ds (backS S2 (lentAt 0 as) S1)
      | false => .bad
    | .bad => .bad
  | _, _ => .bad
def mCall (n : Nat) (io : List Nat) (f : Fn) (m : M (List Av)) : M O := fun S => (m S).bd fun as S1 => callV n io f as S1
/-! places -/
def lentI : Option Av → Option Nat
  | some (.b i) => some i
  | _ => none
theorem lent_lookup : ∀ (as : List Av) (k n : Nat), (lentAt k as).lookup n = if n < k then none else lentI as[n - k]?
  | [], k, n => by
    show none = _
    split <;> rfl
  | a :: r, k, n => by
    have ih := lent_lookup r (k + 1) n
    have key : (lentAt (k + 1) r).lookup n = if n < k + 1 then none else lentI r[n - (k + 1)]? := ih
    have go : n ≠ k → (lentAt (k + 1) r).lookup n = if n < k then none else lentI (a :: r)[n - k]? := fun hne => by
      rw [key]
      by_cases h1 : n < k
      · rw [if_pos (by omega), if_pos h1]
      · rw [if_neg (by omega), if_neg h1]
        have e : n - k = (n - (k + 1)) + 1 := by omega
        rw [e, List.getElem?_cons_succ]
    have none_k : (lentAt (k + 1) r).lookup k = none := by
      rw [lent_lookup r (k + 1) k, if_pos (by omega)]
    cases a with
    | d x =>
      show (lentAt (k + 1) r).lookup n = _
      by_cases hn : n = k
      · subst hn
        rw [none_k, if_neg (by omega), Nat.sub_self]
        rfl
      · exact go hn
    | s x =>
      show (lentAt (k + 1) r).lookup n = _
      by_cases hn : n = k
      · subst hn
        rw [none_k, if_neg (by omega), Nat.sub_self]
        rfl
      · exact go hn
    | b x =>
      show ((k, x) :: lentAt (k + 1) r).lookup n = _
      by_cases hn : n = k
      · subst hn
        rw [if_neg (by omega), Nat.sub_self]
        simp [List.lookup, lentI]
      · have : (n == k) = false := by simpa using hn
        rw [List.lookup_cons, this]
        exact go hn
theorem lookup_in : ∀ {l : List (Nat × Nat)} {p i : Nat}, l.lookup p = some i → (p, i) ∈ l
  | [], _, _, h => by cases h
  | (a, b) :: r, p, i, h => by
    rw [List.lookup_cons] at h
    cases e : p == a with
    | true =>
      rw [e] at h
      have e1 : p = a := by simpa using e
      cases h
      rw [e1]
      exact List.mem_cons_self
    | false =>
      rw [e] at h
      exact List.mem_cons_of_mem _ (lookup_in h)
theorem lookup_of : ∀ {l : List (Nat × Nat)} {p i : Nat}, (l.map (·.1)).Nodup → (p, i) ∈ l → l.lookup p = some i
  | (a, b) :: r, p, i, hn, h => by
    rw [List.map_cons, List.nodup_cons] at hn
    rw [List.lookup_cons]
    rcases List.mem_cons.mp h with e | h
    · cases e
      simp
    · have : (p == a) = false := by
        have : p ≠ a := fun e => hn.1 (List.mem_map.mpr ⟨(p, i), h, e⟩)
        simpa using this
      rw [this]
      exact lookup_of hn.2 h
theorem lent_keys : ∀ (as : List Av) (k : Nat), ((lentAt k as).map (·.1)).Nodup ∧ ∀ p ∈ lentAt k as, k ≤ p.1
  | [], k => ⟨List.nodup_nil, fun _ h => nomatch h⟩
  | a :: r, k => by
    obtain ⟨h1, h2⟩ := lent_keys r (k + 1)
    have h3 : ∀ p ∈ lentAt (k + 1) r, k ≤ p.1 := fun p hp => by have := h2 p hp; omega
    cases a with
    | d x => exact ⟨h1, h3⟩
    | s x => exact ⟨h1, h3⟩
    | b x =>
      refine ⟨?_, fun p hp => ?_⟩
      · show (k :: (lentAt (k + 1) r).map (·.1)).Nodup
        rw [List.nodup_cons]
        refine ⟨fun z => ?_, h1⟩
        obtain ⟨q, hq, e⟩ := List.mem_map.mp z
        have := h2 q hq
        omega
      · rcases List.mem_cons.mp hp with e | hp
        · rw [e]; exact Nat.le_refl _
        · exact h3 p hp
/-- slot i was lent at the place .. -/
def whereL (l : List (Nat × Nat)) (i : Nat) : Option Nat := (l.map fun p => (p.2, p.1)).lookup i
theorem where_in {l : List (Nat × Nat)} {i p : Nat} (h : whereL l i = some p) : (p, i) ∈ l := by
  have := lookup_in h
  obtain ⟨q, hq, e⟩ := List.mem_map.mp this
  have e1 := congrArg Prod.fst e
  have e2 := congrArg Prod.snd e
  obtain ⟨q1, q2⟩ := q
  have e1' : q2 = i := e1
  have e2' : q1 = p := e2
  rw [← e1', ← e2']
  exact hq
theorem where_of {l : List (Nat × Nat)} {i p : Nat} (hn : (l.map (·.2)).Nodup) (h : (p, i) ∈ l) : whereL l i = some p := by
  refine lookup_of ?_ (List.mem_map.mpr ⟨(p, i), h, rfl⟩)
  rw [List.map_map]
  exact hn
theorem backS_len {S2 S : List Sl} : ∀ {l : List (Nat × Nat)}, (backS S2 l S).length = S.length
  | [] => rfl
  | (p, i) :: r => by unfold backS; rw [List.length_set, backS_len]
theorem backS_out {S2 S : List Sl} {j : Nat} : ∀ {l : List (Nat × Nat)}, j ∉ l.map (·.2) → (backS S2 l S)[j]? = S[j]?
  | [], _ => rfl
  | (p, i) :: r, h => by
    rw [List.map_cons, List.mem_cons, not_or] at h
    unfold backS
    rw [List.getElem?_set_ne fun e => h.1 e.symm]
    exact backS_out h.2
theorem backS_in {S2 S : List Sl} {j p : Nat} : ∀ {l : List (Nat × Nat)}, (l.map (·.2)).Nodup → (p, j) ∈ l → j < S.length → (backS S2 l S)[j]? = some (S2.getD p .no)
  | (q, i) :: r, hn, h, hl => by
    rw [List.map_cons, List.nodup_cons] at hn
    unfold backS
    rcases List.mem_cons.mp h with e | h
    · cases e
      rw [List.getElem?_set_self (by rw [backS_len]; exact hl)]
    · have : i ≠ j := fun e => hn.1 (by rw [e]; exact List.mem_map.mpr ⟨(p, j), h, rfl⟩)
      rw [List.getElem?_set_ne this]
      exact backS_in hn.2 h hl
theorem argsOf_len {S : List Sl} : ∀ {as : List Av} {args : List Sl}, argsOf S as = some args → args.length = as.length
  | [], _, h => by cases h; rfl
  | a :: r, args, h => by
    unfold argsOf at h
    split at h
    · rename_i x xs h1 h2
      cases h
      rw [List.length_cons, List.length_cons, argsOf_len h2]
    · cases h
theorem argsOf_at {S : List Sl} : ∀ {as : List Av} {args : List Sl} {p : Nat} {s : Sl}, argsOf S as = some args → args[p]? = some s → ∃ a, as[p]? = some a ∧ argOf S a = some s
  | [], args, p, s, h, e => by
    cases h
    rw [List.getElem?_nil] at e
    cases e
  | a :: r, args, p, s, h, e => by
    unfold argsOf at h
    split at h
    · rename_i x xs h1 h2
      cases h
      cases p with
      | zero =>
        cases e
        exact ⟨a, rfl, h1⟩
      | succ p =>
        rw [List.getElem?_cons_succ] at e
        rw [List.getElem?_cons_succ]
        exact argsOf_at h2 e
    · cases h
theorem argsOf_to {S : List Sl} : ∀ {as : List Av} {args : List Sl} {p : Nat} {a : Av}, argsOf S as = some args → as[p]? = some a → ∃ s, args[p]? = some s ∧ argOf S a = some s
  | [], args, p, a, h, e => by
    rw [List.getElem?_nil] at e
    cases e
  | b :: r, args, p, a, h, e => by
    unfold argsOf at h
    split at h
    · rename_i x xs h1 h2
      cases h
      cases p with
      | zero =>
        cases e
        exact ⟨x, rfl, h1⟩
      | succ p =>
        rw [List.getElem?_cons_succ] at e
        rw [List.getElem?_cons_succ]
        exact argsOf_to h2 e
    · cases h
theorem AvOk.len {E : Ev} {G : Hp} {σ : L2.St} : ∀ {as : List Av} {vs : List V}, AvOk E G σ as vs → as.length = vs.length
  | [], _, h => by
    have h' : _ = [] := h
    rw [h']
    rfl
  | .d d :: r, vs, h => by
    obtain ⟨v, ws, h1, h2, h3⟩ := h
    rw [h1, List.length_cons, List.length_cons, AvOk.len h3]
  | .s i :: r, vs, h => by
    obtain ⟨v, ws, h1, h2, h3⟩ := h
    rw [h1, List.length_cons, List.length_cons, AvOk.len h3]
  | .b i :: r, vs, h => by
    obtain ⟨v, ws, h1, h2, h3⟩ := h
    rw [h1, List.length_cons, List.length_cons, AvOk.len h3]
def AvOk1 (E : Ev) (G : Hp) (σ : L2.St) : Av → V → Prop
  | .d d, v => Rs E G d v
  | .s i, v => σ[i]? = some (some v)
  | .b i, v => σ[i]? = some (some v)
theorem AvOk.at {E : Ev} {G : Hp} {σ : L2.St} : ∀ {as : List Av} {vs : List V} {p : Nat} {a : Av}, AvOk E G σ as vs → as[p]? = some a → ∃ v, vs[p]? = some v ∧ AvOk1 E G σ a v
  | [], _, p, a, _, e => by
    rw [List.getElem?_nil] at e
    cases e
  | x :: r, vs, 0, a, h, e => by
    cases e
    cases x with
    | d d =>
      obtain ⟨v, ws, h1, h2, h3⟩ := h
      rw [h1]
      exact ⟨v, rfl, h2⟩
    | s i =>
      obtain ⟨v, ws, h1, h2, h3⟩ := h
      rw [h1]
      exact ⟨v, rfl, h2⟩
    | b i =>
      obtain ⟨v, ws, h1, h2, h3⟩ := h
      rw [h1]
      exact ⟨v, rfl, h2⟩
  | x :: r, vs, p + 1, a, h, e => by
    rw [List.getElem?_cons_succ] at e
    cases x with
    | d d =>
      obtain ⟨v, ws, h1, h2, h3⟩ := h
      rw [h1]
      exact AvOk.at (p := p) h3 e
    | s i =>
      obtain ⟨v, ws, h1, h2, h3⟩ := h
      rw [h1]
      exact AvOk.at (p := p) h3 e
    | b i =>
      obtain ⟨v, ws, h1, h2, h3⟩ := h
      rw [h1]
      exact AvOk.at (p := p) h3 e
theorem shown_in : ∀ {as : List Av} {p i : Nat}, as[p]? = some (.s i) → i ∈ shown as
  | [], p, i, e => by
    rw [List.getElem?_nil] at e
    cases e
  | x :: r, 0, i, e => by
    cases e
    exact List.mem_cons_self
  | x :: r, p + 1, i, e => by
    rw [List.getElem?_cons_succ] at e
    have ih := shown_in e
    cases x with
    | s j => exact List.mem_cons_of_mem _ ih
    | d d => exact ih
    | b j => exact ih
end Z

/-! Z9: a call keeps the caller's state. -/
namespace Z
open PySem PySem.Spec PyProof.Rows L2
section
variable {c : Ctx} {W : XK} {G1 H1 : Hp} {S1 : List Sl} {As1 : Nat → List Addr} {τ : List V} {σ : L2.St} {as : List Av} {vs : List V} {n : Nat} {io : List Nat} {args : List Sl}
/-- the nodes of the shown slots -/
def shA (As : Nat → List Addr) (as : List Av) : List Addr := (shown as).flatMap As
def lentA (As : Nat → List Addr) (as : List Av) : Nat → List Addr := fun p => match (lentAt 0 as).lookup p with
  | some i => As i
  | none => []
theorem callOk_io (h : callOk n io as = true) : as.length = n ∧ (lentAt 0 as).map (·.1) = io ∧ ((lentAt 0 as).map (·.2)).Nodup ∧ ∀ i ∈ shown as, i ∉ (lentAt 0 as).map (·.2) := by
  unfold callOk at h
  rw [Bool.and_eq_true, Bool.and_eq_true, Bool.and_eq_true, List.all_eq_true] at h
  refine ⟨of_decide_eq_true h.1, of_decide_eq_true h.2.1, of_decide_eq_true h.2.2.1, fun i hi z => ?_⟩
  have := h.2.2.2 i hi
  rw [List.contains_iff_mem.mpr z] at this
  cases this
theorem lent_of {p i : Nat} (h : (p, i) ∈ lentAt 0 as) : as[p]? = some (.b i) := by
  have h1 := lookup_of (lent_keys as 0).1 h
  rw [lent_lookup as 0 p, if_neg (by omega), Nat.sub_zero] at h1
  unfold lentI at h1
  split at h1
  · rename_i j e
    cases h1
    exact e
  · cases h1
theorem of_lent {p i : Nat} (h : as[p]? = some (.b i)) : (p, i) ∈ lentAt 0 as := by
  refine lookup_in ?_
  rw [lent_lookup as 0 p, if_neg (by omega), Nat.sub_zero, h]
  rfl
theorem call_ent (R : Real c G1 S1 As1 τ σ H1) (ok : AvOk c.E G1 (env σ τ) as vs) (hs : ∀ i ∈ shown as, i < (env σ τ).length) (hb : ∀ p ∈ lentAt 0 as, p.2 < (env σ τ).length) (hc : callOk n io as = true) (ha : argsOf S1 as = some args) :
    Ent c.E io (frz G1 H1 (shA As1 as)) H1 args vs (lentA As1 as) := by
  obtain ⟨h1, h2, h3, h4⟩ := callOk_io hc
  have nf : ∀ a ∈ shA As1 as, G1 a = none := fun a h => by
    obtain ⟨i, _, q⟩ := List.mem_flatMap.mp h
    exact R.nf i a q
  have x1 : Ex G1 (frz G1 H1 (shA As1 as)) := frz_ex nf
  have lent_in : ∀ {p : Nat} {a : Addr}, a ∈ lentA As1 as p → ∃ i, (p, i) ∈ lentAt 0 as ∧ a ∈ As1 i := fun {p a} h => by
    unfold lentA at h
    cases e : (lentAt 0 as).lookup p with
    | none => rw [e] at h; cases h
    | some i => rw [e] at h; exact ⟨i, lookup_in e, h⟩
  refine ⟨frz_of R.exG, (argsOf_len ha).trans ok.len, fun p s e => ?_, fun p hp => ?_, fun p hp => ?_, fun p => ?_, fun p q a hp hq => ?_, fun p a hp => ?_⟩
  · obtain ⟨a, ea, eo⟩ := argsOf_at ha e
    obtain ⟨v, ev, ro⟩ := AvOk.at ok ea
    have el : (lentAt 0 as).lookup p = lentI as[p]? := by rw [lent_lookup as 0 p, if_neg (by omega), Nat.sub_zero]
    rw [ev]
    cases a with
    | d d =>
      cases eo
      refine ⟨?_, v, rfl, Rs.mono x1 ro⟩
      unfold lentA
      rw [el, ea]
      rfl
    | s i =>
      have hi := hs i (shown_in ea)
      have eo : (match S1[i]? with | some (.ow o) => some (Sl.pl (fr o)) | _ => none) = some s := eo
      cases eS : S1[i]? with
      | none => rw [eS] at eo; cases eo
      | some s' =>
        rw [eS] at eo
        cases s' with
        | ow o =>
          cases eo
          obtain ⟨w, hw, rw'⟩ := R.sl i _ eS
          have ro' : (env σ τ)[i]? = some (some v) := ro
          rw [hw] at ro'
          cases ro'
          refine ⟨?_, v, rfl, Ro.see x1 rw' fun a h u q => ?_⟩
          · unfold lentA
            rw [el, ea]
            rfl
          · rw [frz_in (show a ∈ shA As1 as from List.mem_flatMap.mpr ⟨i, shown_in ea, h⟩)]
            exact q
        | _ => cases eo
    | b i =>
      have hi := hb (p, i) (of_lent ea)
      have eo : (match S1[i]? with | some (.ow o) => some (Sl.ow o) | _ => none) = some s := eo
      cases eS : S1[i]? with
      | none => rw [eS] at eo; cases eo
      | some s' =>
        rw [eS] at eo
        cases s' with
        | ow o =>
          cases eo
          obtain ⟨w, hw, rw'⟩ := R.sl i _ eS
          have ro' : (env σ τ)[i]? = some (some v) := ro
          rw [hw] at ro'
          cases ro'
          refine ⟨v, rfl, ?_⟩
          have e2 : lentA As1 as p = As1 i := by
            unfold lentA
            rw [el, ea]
            rfl
          rw [e2]
          exact Ro.keep x1 rw' fun _ _ _ q => q
        | _ => cases eo
  · rw [← h2] at hp
    obtain ⟨⟨p', i⟩, hq, rfl⟩ := List.mem_map.mp hp
    have ea := lent_of hq
    obtain ⟨s, es, eo⟩ := argsOf_to ha ea
    have eo : (match S1[i]? with | some (.ow o) => some (Sl.ow o) | _ => none) = some s := eo
    split at eo
    · cases eo
      exact ⟨_, es⟩
    · cases eo
  · cases e : (lentAt 0 as).lookup p with
    | none => unfold lentA; rw [e]
    | some i =>
      refine absurd ?_ hp
      rw [← h2]
      exact List.mem_map.mpr ⟨(p, i), lookup_in e, rfl⟩
  · unfold lentA
    split
    · exact R.nd _
    · exact List.nodup_nil
  · obtain ⟨i, hi, qi⟩ := lent_in hp
    obtain ⟨j, hj, qj⟩ := lent_in hq
    have e := R.dj i j a qi qj
    subst e
    have w1 := where_of h3 hi
    have w2 := where_of h3 hj
    rw [w1] at w2
    exact Option.some.inj w2
  · obtain ⟨i, hi, qi⟩ := lent_in hp
    rw [frz_out fun z => ?_]
    · exact R.nf i a qi
    · obtain ⟨j, hj, qj⟩ := List.mem_flatMap.mp z
      have e := R.dj i j a qi qj
      subst e
      exact h4 i hj (List.mem_map.mpr ⟨(p, i), hi, rfl⟩)
/-- whose nodes stand where, behind the call -/
def backA (As As' : Nat → List Addr) (as : List Av) : Nat → List Addr := fun j => match whereL (lentAt 0 as) j with
  | some p => As' p
  | none => As j
theorem call_exi {S2 : List Sl} {As2 : Nat → List Addr} {G' H2 : Hp} {A : List Addr} (R : Real c G1 S1 As1 τ σ H1) (ok : AvOk c.E G1 (env σ τ) as vs) (hb : ∀ p ∈ lentAt 0 as, p.2 < (env σ τ).length) (hc : callOk n io as = true)
    (X : Exi c.E io (frz G1 H1 (shA As1 as)) H1 vs (lentA As1 as) S2 As2 G' H2 A) (cl : (shown as).isEmpty = true ∨ io.all (fun p => clS S2[p]?) = true) :
    ∃ G2, Real c G2 (backS S2 (lentAt 0 as) S1) (backA As1 As2 as) τ σ H2 ∧ Post ((lentAt 0 as).map (·.2)) S1 (backS S2 (lentAt 0 as) S1) As1 (backA As1 As2 as) G1 G2 H1 H2 ∧ New c G2 (backA As1 As2 as) A ∧ (∀ a ∈ A, H1 a = none) ∧
      (((shown as).isEmpty = true ∧ G2 = G') ∨ ((shown as).isEmpty ≠ true ∧ G2 = G1)) := by
  obtain ⟨h1, h2, h3, h4⟩ := callOk_io hc
  have iop : ∀ {p i : Nat}, (p, i) ∈ lentAt 0 as → p ∈ io := fun {p i} h => by rw [← h2]; exact List.mem_map.mpr ⟨(p, i), h, rfl⟩
  have iop2 : ∀ {p : Nat}, p ∈ io → ∃ i, (p, i) ∈ lentAt 0 as := fun {p} h => by
    rw [← h2] at h
    obtain ⟨⟨p', i⟩, hq, rfl⟩ := List.mem_map.mp h
    exact ⟨i, hq⟩
  have la : ∀ {p i : Nat}, (p, i) ∈ lentAt 0 as → lentA As1 as p = As1 i := fun {p i} h => by
    unfold lentA
    rw [lookup_of (lent_keys as 0).1 h]
  have wh : ∀ {p i : Nat}, (p, i) ∈ lentAt 0 as → backA As1 As2 as i = As2 p := fun {p i} h => by
    unfold backA
    rw [where_of h3 h]
  have wn : ∀ {j : Nat}, j ∉ (lentAt 0 as).map (·.2) → backA As1 As2 as j = As1 j := fun {j} h => by
    unfold backA
    cases e : whereL (lentAt 0 as) j with
    | none => rfl
    | some p => exact absurd (List.mem_map.mpr ⟨(p, j), where_in e, rfl⟩) h
  have cs : ∀ j, (∃ p, (p, j) ∈ lentAt 0 as) ∨ j ∉ (lentAt 0 as).map (·.2) := fun j => by
    by_cases h : j ∈ (lentAt 0 as).map (·.2)
    · obtain ⟨⟨p, j'⟩, hq, rfl⟩ := List.mem_map.mp h
      exact .inl ⟨p, hq⟩
    · exact .inr h
  -- a node of another slot is none of the lent ones
  have other : ∀ {j : Nat} {a : Addr}, j ∉ (lentAt 0 as).map (·.2) → a ∈ As1 j → ∀ p ∈ io, a ∉ lentA As1 as p := fun {j a} hj ha p hp z => by
    obtain ⟨i, hi⟩ := iop2 hp
    rw [la hi] at z
    have e := R.dj j i a ha z
    subst e
    exact hj (List.mem_map.mpr ⟨(p, j), hi, rfl⟩)
  have gfr : ∀ a o, H1 a = some o → (∀ j ∈ (lentAt 0 as).map (·.2), a ∉ As1 j) → H2 a = some o := fun a o e hn => X.frm a o e fun p hp z => by
    obtain ⟨i, hi⟩ := iop2 hp
    rw [la hi] at z
    exact hn i (List.mem_map.mpr ⟨(p, i), hi, rfl⟩) z
  have keepG : Ex G1 H2 := fun a o e => by
    have nl : ∀ j ∈ (lentAt 0 as).map (·.2), a ∉ As1 j := fun j _ z => by rw [R.nf j a z] at e; cases e
    rcases R.exG a o e with q | ⟨k, ob, q⟩
    · exact .inl (gfr a o q nl)
    · exact .inr ⟨k, ob, gfr a _ q nl⟩
  have ins : ∀ {j : Nat} {a : Addr}, a ∈ backA As1 As2 as j → a ∈ As1 j ∨ H1 a = none := fun {j a} h => by
    rcases cs j with ⟨p, hp⟩ | hj
    · rw [wh hp] at h
      rcases (X.nf p (iop hp) a h).2 with z | z
      · exact .inr z
      · rw [la hp] at z; exact .inl z
    · rw [wn hj] at h; exact .inl h
  have gen : ∀ G2 : Hp, Ex G1 G2 → Ex G2 H2 → (∀ a, H1 a ≠ none → G2 a = G1 a) → (∀ p ∈ io, ∀ o w, S2[p]? = some (.ow o) → Ro c.E G' H2 o w (As2 p) → Ro c.E G2 H2 o w (As2 p)) → (∀ p ∈ io, ∀ a ∈ As2 p, G2 a = none) →
      Real c G2 (backS S2 (lentAt 0 as) S1) (backA As1 As2 as) τ σ H2 ∧ Post ((lentAt 0 as).map (·.2)) S1 (backS S2 (lentAt 0 as) S1) As1 (backA As1 As2 as) G1 G2 H1 H2 := by
    intro G2 e12 e2 gn back nf2
    have fz : ∀ a, H1 a ≠ none → G2 a = G1 a := gn
    have sl2 : ∀ {p i : Nat}, (p, i) ∈ lentAt 0 as → ∃ o w, S2[p]? = some (.ow o) ∧ vs[p]? = some w ∧ (env σ τ)[i]? = some (some w) ∧ Ro c.E G2 H2 o w (As2 p) := fun {p i} h => by
      obtain ⟨o, w, q1, q2, q3⟩ := X.sl p (iop h)
      obtain ⟨v, q4, q5⟩ := AvOk.at ok (lent_of h)
      rw [q2] at q4
      cases q4
      exact ⟨o, w, q1, q2, q5, back p (iop h) o w q1 q3⟩
    refine ⟨⟨e2, fun j s e => ?_, by rw [backS_len]; exact R.len, fun j hj => ?_, fun j => ?_, fun i j a hi hj => ?_, fun j a hj => ?_, R.g0.trans e12, fun a h => ?_, fun a o e hn => ?_, fun a h => X.stay a (R.stay a h), fun j a hj => ?_, fun j hj => ?_⟩, ⟨e12, fun j hj => ⟨backS_out hj, wn hj⟩, gfr, fun j a h => ?_, X.stay, backS_len, fun a h _ => gn a h⟩⟩
    · rcases cs j with ⟨p, hp⟩ | hj
      · have hl : j < S1.length := by
          have := hb (p, j) hp
          rw [env_len] at this
          rw [R.len]
          exact this
        obtain ⟨o, w, q1, q2, q3, q4⟩ := sl2 hp
        rw [backS_in h3 hp hl, List.getD_eq_getElem?_getD, q1] at e
        cases e
        rw [wh hp]
        exact ⟨w, q3, q4⟩
      · rw [backS_out hj] at e
        rw [wn hj]
        exact (R.sl j s e).keep e12 fun a ha u q => gfr a u q fun i hi z => by
          have e := R.dj j i a ha z
          subst e
          exact hj hi
    · rw [backS_len] at hj
      rcases cs j with ⟨p, hp⟩ | hj2
      · have h9 := hb (p, j) hp
        rw [env_len, ← R.len] at h9
        exact absurd h9 (Nat.not_lt.mpr hj)
      · rw [wn hj2]; exact R.emp j hj
    · rcases cs j with ⟨p, hp⟩ | hj
      · rw [wh hp]; exact X.nd p (iop hp)
      · rw [wn hj]; exact R.nd j
    · rcases cs i with ⟨p, hp⟩ | h1'
      · rcases cs j with ⟨q, hq⟩ | h2'
        · rw [wh hp] at hi
          rw [wh hq] at hj
          have e := X.dj p (iop hp) q (iop hq) a hi hj
          subst e
          have z1 := lent_of hp
          have z2 := lent_of hq
          rw [z1] at z2
          cases z2
          rfl
        · rw [wn h2'] at hj
          have e := ins (j := i) hi
          rcases e with z | z
          · exact R.dj i j a z hj
          · exact absurd z (R.there hj)
      · rcases cs j with ⟨q, hq⟩ | h2'
        · rw [wn h1'] at hi
          rcases ins (j := j) hj with z | z
          · exact R.dj i j a hi z
          · exact absurd z (R.there hi)
        · rw [wn h1'] at hi
          rw [wn h2'] at hj
          exact R.dj i j a hi hj
    · rcases cs j with ⟨p, hp⟩ | hj2
      · rw [wh hp] at hj
        exact nf2 p (iop hp) a hj
      · rw [wn hj2] at hj
        rw [fz a (R.there hj)]
        exact R.nf j a hj
    · rw [fz a (R.stay a h)]
      exact R.gn a h
    · refine gfr a o (R.fr0 a o e hn) fun i hi z => ?_
      rcases R.fn i a z with q | q
      · rw [q] at e; cases e
      · exact hn i q.1 q.2
    · rcases ins hj with z | z
      · exact R.fn j a z
      · left
        cases q : c.H0 a with
        | none => rfl
        | some o => exact absurd z (R.stay a (by rw [q]; exact fun z => nomatch z))
    · obtain ⟨o, v, q1, q2, q3⟩ := R.io j hj
      rcases cs j with ⟨p, hp⟩ | hj2
      · obtain ⟨o', w, z1, z2, z3, z4⟩ := sl2 hp
        rw [env_lt (List.getElem?_eq_some_iff.mp q3).1, q3] at z3
        cases z3
        refine ⟨o', v, ?_, q2, q3⟩
        rw [backS_in h3 hp (List.getElem?_eq_some_iff.mp q1).1, List.getD_eq_getElem?_getD, z1]
        rfl
      · exact ⟨o, v, by rw [backS_out hj2]; exact q1, q2, q3⟩
    · rcases ins h with z | z
      · exact .inl z
      · exact .inr (.inr z)
  have outA : ∀ a ∈ A, ∀ i, a ∉ backA As1 As2 as i := fun a ha i z => by
    rcases cs i with ⟨p, hp⟩ | hj
    · rw [wh hp] at z
      exact (X.rnf a ha).2.2 p (iop hp) z
    · rw [wn hj] at z
      exact R.there z (X.rnf a ha).2.1
  by_cases hsh : (shown as).isEmpty = true
  · have e0 : shA As1 as = [] := by
      unfold shA
      rw [List.isEmpty_iff.mp hsh]
      rfl
    have X' := X
    rw [e0, frz_nil] at X'
    obtain ⟨q1, q2⟩ := gen G' X'.grow X'.exG X'.gn (fun _ _ _ _ _ h => h) fun p hp a ha => (X'.nf p hp a ha).1
    exact ⟨G', q1, q2, ⟨X.rnd, fun a ha => (R.fresh (X.rnf a ha).2.1).1, fun a ha => (X.rnf a ha).1, outA⟩, fun a ha => (X.rnf a ha).2.1, .inl ⟨hsh, rfl⟩⟩
  · have hcl := cl.resolve_left hsh
    rw [List.all_eq_true] at hcl
    obtain ⟨q1, q2⟩ := gen G1 (Ex.refl _) keepG (fun _ _ => rfl) (fun p hp o w e h => cl_any (by
      have := hcl p hp
      rw [e] at this
      exact this) h) fun p hp a ha => by
        rcases (X.nf p hp a ha).2 with z | z
        · exact (R.fresh z).2.1
        · obtain ⟨i, hi⟩ := iop2 hp
          rw [la hi] at z
          exact R.nf i a z
    exact ⟨G1, q1, q2, ⟨X.rnd, fun a ha => (R.fresh (X.rnf a ha).2.1).1, fun a ha => (R.fresh (X.rnf a ha).2.1).2.1, outA⟩, fun a ha => (X.rnf a ha).2.1, (.inr ⟨hsh, rfl⟩)⟩
end
end Z

/-! Z10: the calls' rules. -/
namespace Z
open PySem PySem.Spec PyProof.Rows L2
theorem AvOk.append {E : Ev} {G : Hp} {σ : L2.St} : ∀ {as zs : List Av} {vs ws : List V}, AvOk E G σ as vs → AvOk E G σ zs ws → AvOk E G σ (as ++ zs) (vs ++ ws)
  | [], zs, vs, ws, h, k => by
    have h' : vs = [] := h
    rw [h']
    exact k
  | .d d :: r, zs, vs, ws, h, k => by
    obtain ⟨v, us, rfl, h2, h3⟩ := h
    exact ⟨v, us ++ ws, rfl, h2, AvOk.append h3 k⟩
  | .s i :: r, zs, vs, ws, h, k => by
    obtain ⟨v, us, rfl, h2, h3⟩ := h
    exact ⟨v, us ++ ws, rfl, h2, AvOk.append h3 k⟩
  | .b i :: r, zs, vs, ws, h, k => by
    obtain ⟨v, us, rfl, h2, h3⟩ := h
    exact ⟨v, us ++ ws, rfl, h2, AvOk.append h3 k⟩
theorem AvOk.ds {E : Ev} {G : Hp} {σ : L2.St} : ∀ {ds : List D} {vs : List V}, RsL E G ds vs → AvOk E G σ (ds.map .d) vs
  | [], vs, h => by
    unfold RsL at h
    exact h
  | d :: ds, vs, h => by
    unfold RsL at h
    obtain ⟨v, r, h1, h2, h3⟩ := h
    exact ⟨v, r, h1, h2, AvOk.ds h3⟩
theorem AvIn.ds {bs : List Nat} {σ : L2.St} : ∀ {ds : List D}, AvIn bs σ (ds.map .d)
  | [] => AvIn.nil
  | d :: ds => AvIn.d AvIn.ds
section
variable {c : Ctx} {W : XK} {G1 H1 : Hp} {S1 : List Sl} {As1 : Nat → List Addr} {τ : List V} {σ : L2.St} {as : List Av} {vs : List V} {n : Nat} {io bs : List Nat} {Q : VK}
/-- the promise at a call -/
theorem call_core {f : Fn} (R : Real c G1 S1 As1 τ σ H1) (ok : AvOk c.E G1 (env σ τ) as vs) (hb : ∀ i, Av.b i ∈ as → i ∈ bs ∧ i < (env σ τ).length) (hs : ∀ i, Av.s i ∈ as → i < (env σ τ).length)
    (h : fin c W (callV n io f as S1) fun o S' => ∀ v A G' As' H', Real c G' S' As' τ σ H' → Post bs S1 S' As1 As' G1 G' H1 H' → Ro c.E G' H' o v A → New c G' As' A → (∀ a ∈ A, H1 a = none) → Q v H') : spM c.E n io f vs H1 Q W := by
  have hs' : ∀ i ∈ shown as, i < (env σ τ).length := fun i hi => hs i (shown_mem hi)
  have hb' : ∀ p ∈ lentAt 0 as, p.2 < (env σ τ).length := fun p hp => (hb p.2 (lent_mem hp)).2
  have hbs : ∀ j ∈ (lentAt 0 as).map (·.2), j ∈ bs := fun j hj => by
    obtain ⟨p, hp, rfl⟩ := List.mem_map.mp hj
    exact (hb p.2 (lent_mem hp)).1
  unfold callV at h
  cases hc : callOk n io as with
  | false => rw [hc] at h; exact h.elim
  | true =>
    cases ha : argsOf S1 as with
    | none => rw [hc, ha] at h; exact h.elim
    | some args =>
      rw [hc, ha] at h
      have e1 := callOk_io hc
      refine ⟨(AvOk.len ok).symm.trans e1.1, frz G1 H1 (shA As1 as), args, lentA As1 as, call_ent R ok hs' hb' hc ha, ?_⟩
      have h' : fin c W (match f args with
        | .ok o S2 => match (shown as).isEmpty || (clO o && io.all fun p => clS S2[p]?) with
          | true => Out.ok o (backS S2 (lentAt 0 as) S1)
          | false => .bad
        | .exc C fs ds S2 => match (shown as).isEmpty || (ds.all isScal && io.all fun p => clS S2[p]?) with
          | true => .exc C fs ds (backS S2 (lentAt 0 as) S1)
          | false => .bad
        | .bad => .bad) _ := h
      cases hf : f args with
      | bad => rw [hf] at h'; exact h'.elim
      | ok o S2 =>
        rw [hf] at h'
        intro v A G' As' H' X r
        cases hq : (shown as).isEmpty || (clO o && io.all fun p => clS S2[p]?) with
        | false => simp only [hq] at h'; exact h'.elim
        | true =>
          simp only [hq] at h'
          rw [Bool.or_eq_true, Bool.and_eq_true] at hq
          obtain ⟨G2, R2, P2, N2, fA, eG⟩ := call_exi R ok hb' hc X (hq.imp id fun z => z.2)
          refine h' v A G2 (backA As1 As' as) H' R2 (P2.mono hbs) ?_ N2 fA
          rcases eG with ⟨_, e⟩ | ⟨z2, e⟩
          · rw [e]; exact r
          · rw [e]; exact cl_any (hq.resolve_left z2).1 r
      | exc C fs ds S2 =>
        rw [hf] at h'
        intro G' As' H' dd X x
        cases hq : (shown as).isEmpty || (ds.all isScal && io.all fun p => clS S2[p]?) with
        | false => simp only [hq] at h'; exact h'.elim
        | true =>
          simp only [hq] at h'
          rw [Bool.or_eq_true, Bool.and_eq_true] at hq
          obtain ⟨G2, R2, P2, N2, fA, eG⟩ := call_exi R ok hb' hc X (hq.imp id fun z => z.2)
          refine h' G2 (backA As1 As' as) τ σ H' dd R2 ?_
          rcases eG with ⟨_, e⟩ | ⟨z2, e⟩
          · rw [e]; exact x
          · rcases x with x | ⟨d, xs, q1, q2, q3, q4⟩
            · exact .inl x
            · exact .inr ⟨d, xs, q1, q2, q3, rsL_any (hq.resolve_left z2).1 q4⟩
theorem env_ge {σ : L2.St} {τ : List V} {i : Nat} (h : i < σ.length) : i < (env σ τ).length := by
  rw [env_len]
  omega
/-- from evaluated arguments -/
theorem call_from {f : Fn} {g : List Av → List Av} {H : Hp} {G : Hp} {S : List Sl} {As : Nat → List Addr} {mods : List Nat} (R : Real c G1 S1 As1 τ σ H1) (P1 : Post mods S S1 As As1 G G1 H H1) (ok : AvOk c.E G1 (env σ τ) as vs) (ain : AvIn bs σ as)
    (h : fin c W (callV n io f as S1) fun o S' => ∀ v A G' As' H', Real c G' S' As' τ σ H' → Post (mods ++ bs) S S' As As' G G' H H' → Ro c.E G' H' o v A → New c G' As' A → Frs (mods ++ bs) As H A → Q v H') : spM c.E n io f vs H1 Q W := by
  refine call_core (bs := bs) R ok (fun i hi => ⟨(ain.1 i hi).1, env_ge (ain.1 i hi).2⟩) (fun i hi => env_ge (ain.2 i hi)) (fin_mono h fun o S2 e k v A G' As' H' R' P' r N fA => ?_)
  refine k v A G' As' H' R' (P1.trans P') r N fun a ha => ?_
  left
  cases q : H a with
  | none => rfl
  | some o => exact absurd (fA a ha) (P1.stay a (by rw [q]; exact fun z => nomatch z))
end
section
variable {X : Cx} {c : Ctx} {W : XK} {mods bs m1 m2 : List Nat} {n k : Nat} {io : List Nat} {f : Fn} {fa C : Addr} {fd : FuncData} {ps ks : List Str} {x m : Str} {p pos apos : Pos} {e o : Expr} {es : List Expr} {kws : List Keyword} {ma mk : M (List Av)} {mo : M D} {dds : List D} {dvs : List V} {ds : List Value} {nd : Nat}
/-- no defaults -/
theorem zCall (F : FnG X.prog X.w X.K X.mg X.base (L2.CX X.prog X.w) k fa fd ps (spM c.E n io f)) (hr : Room k X.A) (hgd : X.A.guards = some []) (hg : Gl X x) (hm : X.mg x = some (.ref fa)) (hk : PySem.W.keepIn X.K (.ref fa) = true) (hb : Binds X.K fd ps [])
    (hx : Passes (L2.CX X.prog X.w) X W) (ha : PA X (e :: es) (tAg c W mods bs ma)) (hdb : (x == ("__debug__" : Str)) = false := by decide) (he : starEach (e :: es) X.env = (false, eval e X.env) :: starEach es X.env := by rfl) (hpl : (backTo pos (starEach es X.env)).any (·.1) = false := by rfl) :
    PE X (.Call (.Name x p) (e :: es) [] pos) (tO c W (mods ++ bs) (mCall n io f ma)) := PEw (pe_callG F hr hgd hg hm hk hb .nil hx ha hdb he hpl) fun σ H Q ⟨G, S, As, τ, R, q⟩ => by
  refine ⟨G, S, As, τ, R, fin_mono (fin_bd q) fun as S1 e1 k => ?_⟩
  intro vs G1 As1 H1 R1 P1 ok ain
  rw [List.append_nil]
  exact call_from (g := id) R1 P1 ok ain k
/-! methods -/
/-- o.m(..), o an instance of the class called C that is shared -/
def mMeth (C m : Str) (n : Nat) (io : List Nat) (f : Fn) (mo : M D) (ma : M (List Av)) : M O := fun S => (mo S).bd fun d S0 => match d with
  | .obj C' fs ds => match decide (C' = C) && !fs.contains m with
    | true => (ma S0).bd fun as S1 => callV n io f (.d (.obj C' fs ds) :: as) S1
    | false => .bad
  | _ => .bad
/-- attributes of shared instances -/
def dAt (x : Str) (d : D) : Option D := match d with
  | .obj _ fs ds => ((fs.zip ds).lookup x)
  | _ => none
def dAtC (cn x : Str) (d : D) : Option D := match d with
  | .obj C _ _ => match decide (C = cn) with
    | true => dAt x d
    | false => none
  | _ => none
end
end Z

/-! Z11: instances made; calls with keywords. -/
namespace Z
open PySem PySem.Spec PyProof.Rows L2
theorem AvOk.env {E : Ev} {G : Hp} {σ σ' : L2.St} (e : ∀ (i : Nat) (v : V), σ[i]? = some (some v) → σ'[i]? = some (some v)) : ∀ {as : List Av} {vs : List V}, AvOk E G σ as vs → AvOk E G σ' as vs
  | [], _, h => h
  | .d d :: r, vs, h => by
    obtain ⟨v, ws, h1, h2, h3⟩ := h
    exact ⟨v, ws, h1, h2, AvOk.env e h3⟩
  | .s i :: r, vs, h => by
    obtain ⟨v, ws, h1, h2, h3⟩ := h
    exact ⟨v, ws, h1, e i v h2, AvOk.env e h3⟩
  | .b i :: r, vs, h => by
    obtain ⟨v, ws, h1, h2, h3⟩ := h
    exact ⟨v, ws, h1, e i v h2, AvOk.env e h3⟩
def isNonO : O → Bool
  | .sh .non => true
  | _ => false
def makeV (cn : Str) (n : Nat) (io : List Nat) (f : Fn) (as : List Av) : M O := fun S1 => (callV n io f (.b S1.length :: as) (S1 ++ [.ow (.obj cn [] [])])).bd fun r S2 => match isNonO r, S2.getLast? with
  | true, some (.ow o) => .ok o S2.dropLast
  | _, _ => .bad
section
variable {c : Ctx} {W : XK} {G1 H1 : Hp} {S1 : List Sl} {As1 : Nat → List Addr} {τ : List V} {σ : L2.St} {as : List Av} {vs : List V} {n : Nat} {io bs : List Nat} {Q : VK}
end
section
variable {X : Cx} {c : Ctx} {W : XK} {mods bs m1 m2 : List Nat} {n k nn : Nat} {io : List Nat} {f : Fn} {fa C : Addr} {fd : FuncData} {ps ks : List Str} {x m : Str} {p pos apos : Pos} {e o : Expr} {es : List Expr} {kws : List Keyword} {ma mk : M (List Av)} {mo : M D} {sp : Sp} {g : List Value → List Value → List Value} {gV : List V → List V → List V} {t tk : TA}
/-- C(e, .., k = v, ..): gA puts arguments, keywords (and defaults) in the parameters' order -/
def mMake (cn : Str) (n : Nat) (io : List Nat) (f : Fn) (nn kn : Nat) (gA : List Av → List Av → List Av) (ma mk : M (List Av)) : M O := fun S => (ma S).bd fun as S1 => (mk S1).bd fun zs S2 => match decide (as.length = nn ∧ zs.length = kn) with
  | true => makeV cn n io f (gA as zs) S2
  | false => .bad
end
end Z

/-! Z12: things of one's own, changed in place. -/
namespace Z
open PySem PySem.Spec PyProof.Rows L2
/-- a way into a thing: the item at a place, an attribute -/
inductive Stp where
  | ix (j : Nat) | at (x : Str)
def fIdx (x : Str) (fs : List Str) : Nat := fs.findIdx (· == x)
def kids : O → Stp → Option (List O × Nat)
  | .lst os, .ix j => some (os, j)
  | .tup os, .ix j => some (os, j)
  | .obj _ fs os, .at x => some (os, fIdx x fs)
  | _, _ => none
def oget : O → List Stp → Option O
  | o, [] => some o
  | o, s :: p => match kids o s with
    | some (os, j) => match os[j]? with
      | some o' => oget o' p
      | none => none
    | none => none
def okids : O → List O → O
  | .lst _, os => .lst os
  | .tup _, os => .tup os
  | .obj C fs _, os => .obj C fs os
  | o, _ => o
def oput : O → List Stp → O → O
  | _, [], n => n
  | o, s :: p, n => match kids o s with
    | some (os, j) => match os[j]? with
      | some o' => okids o (os.set j (oput o' p n))
      | none => o
    | none => o
/-- w stands where the way p leads from v -/
def PathV (H : Hp) : V → List Stp → V → Prop
  | v, [], w => w = v
  | v, .ix j :: p, w => ∃ a xs x, v = .ref a ∧ (H a = some (.lst xs) ∨ H a = some (.tup xs)) ∧ xs[j]? = some x ∧ PathV H x p w
  | v, .at f :: p, w => ∃ a C dx fs x, v = .ref a ∧ H a = some (.ins C dx fs) ∧ (fs.map (·.2))[fIdx f (fs.map (·.1))]? = some x ∧ PathV H x p w
theorem PathV.det {H : Hp} : ∀ {p : List Stp} {v w w' : V}, PathV H v p w → PathV H v p w' → w = w'
  | [], v, w, w', h, k => by
    have h1 : w = v := h
    have h2 : w' = v := k
    rw [h1, h2]
  | .ix j :: p, v, w, w', h, k => by
    obtain ⟨a, xs, x, e1, h2, h3, h4⟩ := h
    obtain ⟨b, ys, y, e2, k2, k3, k4⟩ := k
    rw [e1] at e2
    cases e2
    have : xs = ys := by
      rcases h2 with h2 | h2 <;> rcases k2 with k2 | k2 <;> rw [h2] at k2 <;> first | (cases k2; rfl) | cases k2
    subst this
    rw [h3] at k3
    cases k3
    exact PathV.det h4 k4
  | .at f :: p, v, w, w', h, k => by
    obtain ⟨a, C, dx, fs, x, e1, h2, h3, h4⟩ := h
    obtain ⟨b, C', dx', fs', y, e2, k2, k3, k4⟩ := k
    rw [e1] at e2
    cases e2
    rw [h2] at k2
    cases k2
    rw [h3] at k3
    cases k3
    exact PathV.det h4 k4
section
variable {E : Ev} {G H : Hp}
/-- one of the items of a list of own things -/
theorem RoL.split : ∀ {os : List O} {vs : List V} {A : List Addr} {j : Nat} {o : O}, RoL E G H os vs A → os[j]? = some o → ∃ v L A1 R, vs[j]? = some v ∧ A = L ++ A1 ++ R ∧ Ro E G H o v A1 ∧
    ∀ (H' : Hp) (o' : O) (A1' : List Addr), (∀ a ∈ L ++ R, ∀ u, H a = some u → H' a = some u) → Ro E G H' o' v A1' → RoL E G H' (os.set j o') vs (L ++ A1' ++ R)
  | [], _, _, _, _, _, e => by
    rw [List.getElem?_nil] at e
    cases e
  | x :: os, vs, A, 0, o, h, e => by
    cases e
    unfold RoL at h
    obtain ⟨v, r, A1, A2, rfl, rfl, h3, h4⟩ := h
    refine ⟨v, [], A1, A2, rfl, rfl, h3, fun H' o' A1' k ro => ?_⟩
    show RoL E G H' (o' :: os) (v :: r) (A1' ++ A2)
    unfold RoL
    exact ⟨v, r, A1', A2, rfl, rfl, ro, RoL.keep (Ex.refl G) h4 fun a ha => k a ha⟩
  | x :: os, vs, A, j + 1, o, h, e => by
    rw [List.getElem?_cons_succ] at e
    unfold RoL at h
    obtain ⟨v, r, A1, A2, rfl, rfl, h3, h4⟩ := h
    obtain ⟨w, L, B1, R, e1, rfl, ro, up⟩ := RoL.split (j := j) h4 e
    refine ⟨w, A1 ++ L, B1, R, e1, by simp only [List.append_assoc], ro, fun H' o' A1' k ro' => ?_⟩
    show RoL E G H' (x :: os.set j o') (v :: r) _
    unfold RoL
    refine ⟨v, r, A1, L ++ A1' ++ R, rfl, by simp only [List.append_assoc], Ro.keep (Ex.refl G) h3 fun a ha => k a ?_, up H' o' A1' (fun a ha => k a ?_) ro'⟩
    · exact List.mem_append_left _ (List.mem_append_left _ ha)
    · rcases List.mem_append.mp ha with z | z
      · exact List.mem_append_left _ (List.mem_append_right _ z)
      · exact List.mem_append_right _ z
/-- what stands at the end of a way, and all else -/
theorem Ro.focus : ∀ {p : List Stp} {o o1 : O} {v : V} {A : List Addr}, Ro E G H o v A → oget o p = some o1 → ∃ w L A1 R, A = L ++ A1 ++ R ∧ Ro E G H o1 w A1 ∧ (∀ H' : Hp, (∀ a ∈ A, ∀ u, H a = some u → H' a = some u) → PathV H' v p w) ∧
    ∀ (H' : Hp) (o' : O) (A1' : List Addr), (∀ a ∈ L ++ R, ∀ u, H a = some u → H' a = some u) → Ro E G H' o' w A1' → Ro E G H' (oput o p o') v (L ++ A1' ++ R)
  | [], o, o1, v, A, h, e => by
    cases e
    refine ⟨v, [], A, [], by simp, h, fun _ _ => rfl, fun H' o' A1' _ ro => ?_⟩
    show Ro E G H' o' v ([] ++ A1' ++ [])
    rw [List.append_nil]
    exact ro
  | s :: p, o, o1, v, A, h, e => by
    have e0 : (match kids o s with
      | some (os, j) => match os[j]? with
        | some o' => oget o' p
        | none => none
      | none => none) = some o1 := e
    cases hk : kids o s with
    | none => rw [hk] at e0; cases e0
    | some q =>
      obtain ⟨os, j⟩ := q
      rw [hk] at e0
      cases hj : os[j]? with
      | none =>
        have e1 : (match os[j]? with | some o' => oget o' p | none => none) = some o1 := e0
        rw [hj] at e1
        cases e1
      | some oj =>
        have e1 : (match os[j]? with | some o' => oget o' p | none => none) = some o1 := e0
        rw [hj] at e1
        have eput : ∀ n, oput o (s :: p) n = okids o (os.set j (oput oj p n)) := fun n => by
          simp only [oput, hk, hj]
        cases o with
        | lst os' =>
          cases s with
          | ix j' =>
            cases hk
            unfold Ro at h
            obtain ⟨a, xs, B, rfl, rfl, h3, h4⟩ := h
            obtain ⟨x, L, A1, R, ex, rfl, ro, up⟩ := RoL.split h4 hj
            obtain ⟨w, L2, B1, R2, rfl, ro2, pv, up2⟩ := Ro.focus ro e1
            refine ⟨w, a :: (L ++ L2), B1, R2 ++ R, by simp, ro2, fun H' k => ⟨a, xs, x, rfl, .inl (k a List.mem_cons_self _ h3), ex, pv H' fun b hb => k b ?_⟩, fun H' o' A1' k ro' => ?_⟩
            · simp only [List.mem_cons, List.mem_append] at hb ⊢
              exact .inr (.inl (.inr hb))
            · rw [eput]
              unfold okids Ro
              refine ⟨a, xs, L ++ (L2 ++ A1' ++ R2) ++ R, rfl, by simp, k a (by simp) _ h3, up H' _ _ (fun b hb => k b ?_) (up2 H' o' A1' (fun b hb => k b ?_) ro')⟩
              · simp only [List.mem_cons, List.mem_append] at hb ⊢
                rcases hb with z | z
                · exact .inl (.inr (.inl z))
                · exact .inr (.inr z)
              · simp only [List.mem_cons, List.mem_append] at hb ⊢
                rcases hb with z | z
                · exact .inl (.inr (.inr z))
                · exact .inr (.inl z)
          | «at» f => cases hk
        | tup os' =>
          cases s with
          | ix j' =>
            cases hk
            unfold Ro at h
            obtain ⟨a, xs, B, rfl, rfl, h3, h4⟩ := h
            obtain ⟨x, L, A1, R, ex, rfl, ro, up⟩ := RoL.split h4 hj
            obtain ⟨w, L2, B1, R2, rfl, ro2, pv, up2⟩ := Ro.focus ro e1
            refine ⟨w, a :: (L ++ L2), B1, R2 ++ R, by simp, ro2, fun H' k => ⟨a, xs, x, rfl, .inr (k a List.mem_cons_self _ h3), ex, pv H' fun b hb => k b ?_⟩, fun H' o' A1' k ro' => ?_⟩
            · simp only [List.mem_cons, List.mem_append] at hb ⊢
              exact .inr (.inl (.inr hb))
            · rw [eput]
              unfold okids Ro
              refine ⟨a, xs, L ++ (L2 ++ A1' ++ R2) ++ R, rfl, by simp, k a (by simp) _ h3, up H' _ _ (fun b hb => k b ?_) (up2 H' o' A1' (fun b hb => k b ?_) ro')⟩
              · simp only [List.mem_cons, List.mem_append] at hb ⊢
                rcases hb with z | z
                · exact .inl (.inr (.inl z))
                · exact .inr (.inr z)
              · simp only [List.mem_cons, List.mem_append] at hb ⊢
                rcases hb with z | z
                · exact .inl (.inr (.inr z))
                · exact .inr (.inl z)
          | «at» f => cases hk
        | obj C fs os' =>
          cases s with
          | ix j' => cases hk
          | «at» f =>
            cases hk
            unfold Ro at h
            obtain ⟨a, dx, fv, B, rfl, rfl, h3, hfs, h4⟩ := h
            obtain ⟨x, L, A1, R, ex, rfl, ro, up⟩ := RoL.split h4 hj
            obtain ⟨w, L2, B1, R2, rfl, ro2, pv, up2⟩ := Ro.focus ro e1
            refine ⟨w, a :: (L ++ L2), B1, R2 ++ R, by simp, ro2, fun H' k => ⟨a, _, dx, fv, x, rfl, k a List.mem_cons_self _ h3, by rw [hfs]; exact ex, pv H' fun b hb => k b ?_⟩, fun H' o' A1' k ro' => ?_⟩
            · simp only [List.mem_cons, List.mem_append] at hb ⊢
              exact .inr (.inl (.inr hb))
            · rw [eput]
              unfold okids Ro
              refine ⟨a, dx, fv, L ++ (L2 ++ A1' ++ R2) ++ R, rfl, by simp, k a (by simp) _ h3, hfs, up H' _ _ (fun b hb => k b ?_) (up2 H' o' A1' (fun b hb => k b ?_) ro')⟩
              · simp only [List.mem_cons, List.mem_append] at hb ⊢
                rcases hb with z | z
                · exact .inl (.inr (.inl z))
                · exact .inr (.inr z)
              · simp only [List.mem_cons, List.mem_append] at hb ⊢
                rcases hb with z | z
                · exact .inl (.inr (.inr z))
                · exact .inr (.inl z)
        | _ => cases hk
end
section
variable {c : Ctx} {G : Hp} {S : List Sl} {As : Nat → List Addr} {τ : List V} {σ : L2.St} {H : Hp}
theorem nodup_mid {L B B' R : List Addr} (h : (L ++ B ++ R).Nodup) (n : B'.Nodup) (d : ∀ a ∈ B', a ∈ B ∨ (a ∉ L ∧ a ∉ R)) : (L ++ B' ++ R).Nodup := by
  rw [List.nodup_append, List.nodup_append] at h ⊢
  obtain ⟨⟨h1, h2, h3⟩, h4, h5⟩ := h
  refine ⟨⟨h1, n, fun a ha b hb e => ?_⟩, h4, fun a ha b hb e => ?_⟩
  · subst e
    rcases d a hb with z | z
    · exact h3 a ha a z rfl
    · exact z.1 ha
  · subst e
    rcases List.mem_append.mp ha with z | z
    · exact h5 a (List.mem_append_left _ z) a hb rfl
    · rcases d a z with q | q
      · exact h5 a (List.mem_append_right _ q) a hb rfl
      · exact q.2 hb
/-- the node at l of slot i's thing is written; its nodes are now A', of the old ones and of the new ones at N -/
theorem Real.mutAt {i : Nat} {l : Addr} {u : HO} {o' : O} {A' N : List Addr} {v : V} (R : Real c G S As τ σ H) (hi : i < σ.length) (hv : σ[i]? = some (some v)) (hS : ∃ o, S[i]? = some (.ow o)) (hl : l ∈ As i) (nw : New c G As N) (nd : A'.Nodup) (sub : ∀ a ∈ A', a ∈ As i ∨ a ∈ N)
    (ro : Ro c.E G (upd H l u) o' v A') : Real c G (S.set i (.ow o')) (upA As i A') τ σ (upd H l u) := by
  have hlt : i < S.length := by rw [R.len]; omega
  have lG : G l = none := R.nf i l hl
  refine ⟨R.exG.mut lG, fun j s e => ?_, by rw [List.length_set]; exact R.len, fun j hj => ?_, fun j => ?_, fun j k a hj hk => ?_, fun j a hj => ?_, R.g0, R.gn, fun a w e hn => ?_, fun a h => ?_, fun j a hj => ?_, fun j hj => ?_⟩
  · by_cases hj : j = i
    · subst hj
      rw [List.getElem?_set_self hlt] at e
      cases e
      rw [upA_same, env_lt hi]
      exact ⟨v, hv, ro⟩
    · rw [List.getElem?_set_ne (Ne.symm hj)] at e
      rw [upA_ne hj]
      exact (R.sl j s e).keep (Ex.refl G) fun a ha w q => by
        rw [upd_ne fun z => hj (R.dj j i a ha (by rw [z]; exact hl))]
        exact q
  · rw [List.length_set] at hj
    rw [upA_ne (by omega)]
    exact R.emp j hj
  · by_cases hj : j = i
    · rw [hj, upA_same]; exact nd
    · rw [upA_ne hj]; exact R.nd j
  · have key : ∀ {j : Nat} {a : Addr}, a ∈ A' → j ≠ i → a ∉ As j := fun {j a} ha hne z => by
      rcases sub a ha with q | q
      · exact hne (R.dj j i a z q)
      · exact nw.out a q j z
    by_cases h1 : j = i
    · by_cases h2 : k = i
      · rw [h1, h2]
      · rw [h1, upA_same] at hj
        rw [upA_ne h2] at hk
        exact absurd hk (key hj h2)
    · by_cases h2 : k = i
      · rw [h2, upA_same] at hk
        rw [upA_ne h1] at hj
        exact absurd hj (key hk h1)
      · rw [upA_ne h1] at hj
        rw [upA_ne h2] at hk
        exact R.dj j k a hj hk
  · by_cases h1 : j = i
    · rw [h1, upA_same] at hj
      rcases sub a hj with q | q
      · exact R.nf i a q
      · exact nw.g a q
    · rw [upA_ne h1] at hj; exact R.nf j a hj
  · have : a ≠ l := fun z => by
      subst z
      rcases R.fn i a hl with q | q
      · rw [q] at e; cases e
      · exact hn i q.1 q.2
    rw [upd_ne this]
    exact R.fr0 a w e hn
  · by_cases e : a = l
    · rw [e, upd_same]; exact fun z => nomatch z
    · rw [upd_ne e]; exact R.stay a h
  · by_cases h1 : j = i
    · rw [h1, upA_same] at hj
      rcases sub a hj with q | q
      · rw [h1]; exact R.fn i a q
      · exact .inl (nw.h0 a q)
    · rw [upA_ne h1] at hj; exact R.fn j a hj
  · obtain ⟨ob, w, h1, h2, h3⟩ := R.io j hj
    by_cases e : j = i
    · subst e
      exact ⟨o', w, List.getElem?_set_self hlt, h2, h3⟩
    · exact ⟨ob, w, by rw [List.getElem?_set_ne (Ne.symm e)]; exact h1, h2, h3⟩
theorem Post.mutAt {i : Nat} {l : Addr} {u : HO} {o' : O} {A' : List Addr} (hl : l ∈ As i) (sub : ∀ a ∈ A', a ∈ As i) : Post [i] S (S.set i (.ow o')) As (upA As i A') G G H (upd H l u) :=
  ⟨Ex.refl G, fun j hj => by
    have hne : j ≠ i := fun z => hj (by rw [z]; exact List.mem_cons_self)
    exact ⟨List.getElem?_set_ne (Ne.symm hne), upA_ne hne⟩, fun a w e hn => by
    rw [upd_ne fun z => hn i List.mem_cons_self (by rw [z]; exact hl)]
    exact e, fun j a h => by
    by_cases e : j = i
    · rw [e, upA_same] at h; rw [e]; exact .inl (sub a h)
    · rw [upA_ne e] at h; exact .inl h, fun a h => by
    by_cases e : a = l
    · rw [e, upd_same]; exact fun z => nomatch z
    · rw [upd_ne e]; exact h, List.length_set, fun _ _ _ => rfl⟩
end
/-! ### ways, evaluated -/
def sget (S : List Sl) (i : Nat) (p : List Stp) : Option O := match S[i]? with
  | some (.ow o) => oget o p
  | _ => none
def sput (S : List Sl) (i : Nat) (p : List Stp) (n : O) : List Sl := match S[i]? with
  | some (.ow o) => S.set i (.ow (oput o p n))
  | _ => S
def tP (c : Ctx) (X : XK) (mods : List Nat) (i : Nat) (m : M (List Stp)) : TE := fun σ H Q => ∃ G S As τ, Real c G S As τ σ H ∧ fin c X (m S) fun p S' =>
  ∀ v G' As' H', Real c G' S' As' τ σ H' → Post mods S S' As As' G G' H H' → i < σ.length → (∃ v0, σ[i]? = some (some v0) ∧ PathV H' v0 p v) → (∃ o, sget S' i p = some o) → Q v H'
def pVar (i : Nat) : M (List Stp) := fun S => match S[i]? with
  | some (.ow _) => .ok [] S
  | _ => .bad
def pIx (i : Nat) (mp : M (List Stp)) (mi : M D) : M (List Stp) := fun S => (mp S).bd fun p S1 => (mi S1).bd fun d S2 => match sget S2 i p, d with
  | some (.lst os), .int k => match ixN os.length k with
    | some j => .ok (p ++ [.ix j]) S2
    | none => .bad
  | some (.tup os), .int k => match ixN os.length k with
    | some j => .ok (p ++ [.ix j]) S2
    | none => .bad
  | _, _ => .bad
theorem PathV.snoc {H : Hp} {s : Stp} : ∀ {p : List Stp} {v w x : V}, PathV H v p w → PathV H w [s] x → PathV H v (p ++ [s]) x
  | [], v, w, x, h, k => by
    have h1 : w = v := h
    rw [← h1]
    exact k
  | .ix j :: p, v, w, x, h, k => by
    obtain ⟨a, xs, y, e1, h2, h3, h4⟩ := h
    exact ⟨a, xs, y, e1, h2, h3, PathV.snoc h4 k⟩
  | .at f :: p, v, w, x, h, k => by
    obtain ⟨a, C, dx, fs, y, e1, h2, h3, h4⟩ := h
    exact ⟨a, C, dx, fs, y, e1, h2, h3, PathV.snoc h4 k⟩
theorem oget_snoc {s : Stp} : ∀ {p : List Stp} {o : O}, oget o (p ++ [s]) = (oget o p).bind fun o' => oget o' [s]
  | [], o => rfl
  | t :: p, o => by
    simp only [List.cons_append, oget]
    cases kids o t with
    | none => rfl
    | some q =>
      obtain ⟨os, j⟩ := q
      simp only
      cases os[j]? with
      | none => rfl
      | some o' => exact oget_snoc
theorem sget_some {S : List Sl} {i : Nat} {p : List Stp} {o : O} (h : sget S i p = some o) : ∃ o0, S[i]? = some (.ow o0) ∧ oget o0 p = some o := by
  unfold sget at h
  split at h
  · rename_i o0 e
    exact ⟨o0, e, h⟩
  · cases h
section
variable {X : Cx} {c : Ctx} {W : XK} {mods m1 m2 m3 : List Nat} {e a b : Expr} {pos : Pos} {mi : M D} {mo : M O} {mp : M (List Stp)} {i : Nat}
theorem zPv {x : Str} {p : Pos} (hN : X.N[i]? = some x := by rfl) (hv : Vis X.env.scope x := by first | exact Or.inl rfl | exact Or.inr (Or.inl rfl) | exact Or.inr (Or.inr rfl))
    (hd : (x == ("__debug__" : Str)) = false := by decide) (hcd : (x == ("__classdict__" : Str)) = false := by decide) : PE X (.Name x p) (tP c W [] i (pVar i)) :=
  PEl (pe_var (i := i) hN hv hd hcd) fun σ H Q hl ⟨G, S, As, τ, R, h⟩ => by
    have hi : i < σ.length := by rw [hl]; exact (List.getElem?_eq_some_iff.mp hN).1
    unfold pVar at h
    split at h
    · rename_i o e
      obtain ⟨v, h1, h2⟩ := ow_at R hi e
      exact ⟨v, h1, h v G As H R Post.refl hi ⟨v, h1, rfl⟩ ⟨o, by unfold sget; rw [e]; rfl⟩⟩
    · exact h.elim
/-- the thing at a way, later -/
theorem path_later {G1 G2 H1 H2 : Hp} {S1 S2 : List Sl} {As1 As2 : Nat → List Addr} {τ : List V} {σ : L2.St} {p : List Stp} {v v0 : V} {o : O} (R1 : Real c G1 S1 As1 τ σ H1) (P : Post m2 S1 S2 As1 As2 G1 G2 H1 H2) (hm : i ∉ m2) (hi : i < σ.length) (hv : σ[i]? = some (some v0)) (pv : PathV H1 v0 p v) (ho : sget S1 i p = some o) :
    PathV H2 v0 p v ∧ sget S2 i p = some o ∧ As2 i = As1 i := by
  obtain ⟨o0, e0, e1⟩ := sget_some ho
  obtain ⟨w, h1, h2⟩ := ow_at R1 hi e0
  rw [hv] at h1
  cases h1
  obtain ⟨w, L, A1, Rr, eA, ro, pw, up⟩ := Ro.focus h2 e1
  have e2 := PathV.det pv (pw H1 fun _ _ _ q => q)
  obtain ⟨q1, q2⟩ := P.same i hm
  refine ⟨?_, ?_, q2⟩
  · rw [e2]
    refine pw H2 fun a ha u hu => P.frm a u hu fun j hj z => ?_
    have := R1.dj j i a z ha
    subst this
    exact hm hj
  · unfold sget
    rw [q1, e0]
    exact e1
theorem zPi (hK : c.E.K = X.K) (ha : PE X a (tP c W m1 i mp)) (hb : PE X b (tE c W true m2 mi)) (hm : i ∉ m2 := by decide) (hs : PlainIx b := by exact fun _ _ => rfl) : PE X (.Subscript a b pos) (tP c W (m1 ++ m2) i (pIx i mp mi)) :=
  PEw (pe_ix (ix_list.or ix_tup) ha hb hs) fun σ H Q ⟨G, S, As, τ, R, q⟩ => by
    refine ⟨G, S, As, τ, R, fin_mono (fin_bd q) fun p S1 e1 k => ?_⟩
    intro v G1 As1 H1 R1 P1 hi ⟨v0, hv0, pv⟩ ⟨o1, ho1⟩
    refine ⟨G1, S1, As1, τ, R1, fin_mono (fin_bd k) fun d S2 e2 k2 => ?_⟩
    intro u G2 As2 H2 R2 P2 r2
    obtain ⟨pv2, ho2, eA⟩ := path_later R1 P2 hm hi hv0 pv ho1
    rw [ho2] at k2
    obtain ⟨o0, e0, e3⟩ := sget_some ho2
    obtain ⟨w0, h1, h2⟩ := ow_at R2 hi e0
    rw [hv0] at h1
    cases h1
    obtain ⟨w, L, A1, Rr, eA2, ro, pw, up⟩ := Ro.focus h2 e3
    have e4 := PathV.det pv2 (pw H2 fun _ _ _ q => q)
    subst e4
    cases o1 with
    | lst os =>
      cases d with
      | int n =>
        have k3 : fin c W (match ixN os.length n with | some j => Out.ok (p ++ [.ix j]) S2 | none => .bad) _ := k2
        cases hx : ixN os.length n with
        | none => rw [hx] at k3; exact k3.elim
        | some j =>
          rw [hx] at k3
          unfold Ro at ro
          obtain ⟨l, xs, B, rfl, _, h3, h4⟩ := ro
          have hlen := RoL.length h4
          have hj : j < os.length := (ixN_seq hx).2.1
          unfold Rs at r2
          obtain ⟨x, ex⟩ : ∃ x, xs[j]? = some x := ⟨xs[j], List.getElem?_eq_getElem (by omega)⟩
          refine .inl ⟨l, xs, n, x, rfl, r2, SqL.of h3, ?_, k3 _ G2 As2 H2 R2 (P1.trans P2) hi ⟨v0, hv0, PathV.snoc pv2 ⟨l, xs, x, rfl, .inl h3, ex, rfl⟩⟩ ⟨os[j], ?_⟩⟩
          · unfold atI
            rw [← hlen, hx]
            exact ex
          · unfold sget
            rw [e0]
            show oget o0 (p ++ [.ix j]) = _
            rw [oget_snoc, e3]
            show (match os[j]? with | some o' => oget o' [] | none => none) = _
            rw [List.getElem?_eq_getElem hj]
            rfl
      | _ => exact k2.elim
    | tup os =>
      cases d with
      | int n =>
        have k3 : fin c W (match ixN os.length n with | some j => Out.ok (p ++ [.ix j]) S2 | none => .bad) _ := k2
        cases hx : ixN os.length n with
        | none => rw [hx] at k3; exact k3.elim
        | some j =>
          rw [hx] at k3
          unfold Ro at ro
          obtain ⟨l, xs, B, rfl, _, h3, h4⟩ := ro
          have hlen := RoL.length h4
          have hj : j < os.length := (ixN_seq hx).2.1
          unfold Rs at r2
          obtain ⟨x, ex⟩ : ∃ x, xs[j]? = some x := ⟨xs[j], List.getElem?_eq_getElem (by omega)⟩
          refine .inr ⟨l, xs, n, x, rfl, r2, SqT.of h3, ?_, k3 _ G2 As2 H2 R2 (P1.trans P2) hi ⟨v0, hv0, PathV.snoc pv2 ⟨l, xs, x, rfl, .inr h3, ex, rfl⟩⟩ ⟨os[j], ?_⟩⟩
          · unfold atI
            rw [← hlen, hx]
            exact ex
          · unfold sget
            rw [e0]
            show oget o0 (p ++ [.ix j]) = _
            rw [oget_snoc, e3]
            show (match os[j]? with | some o' => oget o' [] | none => none) = _
            rw [List.getElem?_eq_getElem hj]
            rfl
      | _ => exact k2.elim
    | _ => exact k2.elim
end
end Z

/-! Z13: what a way leads to, read, moved, changed. -/
namespace Z
open PySem PySem.Spec PyProof.Rows L2
section
variable {c : Ctx} {G G2 : Hp} {S S2 : List Sl} {As As2 : Nat → List Addr} {τ : List V} {σ : L2.St} {H H2 : Hp} {i : Nat} {p : List Stp} {v v0 : V} {o : O} {m : List Nat} {A : List Addr}
theorem at_way (R : Real c G S As τ σ H) (hi : i < σ.length) (hv : σ[i]? = some (some v0)) (pv : PathV H v0 p v) (ho : sget S i p = some o) :
    ∃ o0 L A1 Rr, S[i]? = some (.ow o0) ∧ oget o0 p = some o ∧ As i = L ++ A1 ++ Rr ∧ Ro c.E G H o v A1 ∧ ∀ (H' : Hp) (o' : O) (A1' : List Addr), (∀ a ∈ L ++ Rr, ∀ u, H a = some u → H' a = some u) → Ro c.E G H' o' v A1' → Ro c.E G H' (oput o0 p o') v0 (L ++ A1' ++ Rr) := by
  obtain ⟨o0, e0, e1⟩ := sget_some ho
  obtain ⟨w0, h1, h2⟩ := ow_at R hi e0
  rw [hv] at h1
  cases h1
  obtain ⟨w, L, A1, Rr, eA, ro, pw, up⟩ := Ro.focus h2 e1
  have e2 := PathV.det pv (pw H fun _ _ _ q => q)
  subst e2
  exact ⟨o0, L, A1, Rr, e0, e1, eA, ro, up⟩
/-- new nodes stay new behind an expression -/
theorem New.later {m : List Nat} {S S' : List Sl} {As As' : Nat → List Addr} {G G' H H' : Hp} (N : New c G As A) (ht : ∀ a ∈ A, H a ≠ none) (P : Post m S S' As As' G G' H H') : New c G' As' A ∧ ∀ a ∈ A, ∀ u, H a = some u → H' a = some u := by
  refine ⟨⟨N.nd, N.h0, fun a ha => ?_, fun a ha j z => ?_⟩, fun a ha u hu => P.frm a u hu fun j _ => N.out a ha j⟩
  · rw [P.gn a (ht a ha) fun j _ => N.out a ha j]
    exact N.g a ha
  · rcases P.new j a z with q | ⟨k, _, q⟩ | q
    · exact N.out a ha j q
    · exact N.out a ha k q
    · exact ht a ha q
theorem Frs.post {m1 m2 : List Nat} {As : Nat → List Addr} {H : Hp} (F : Frs m1 As H A) : Frs (m1 ++ m2) As H A := F.mono fun j hj => List.mem_append_left _ hj
/-- the thing at a way is changed at its node l -/
theorem mut_end (R2 : Real c G2 S2 As2 τ σ H2) (P : Post m S S2 As As2 G G2 H H2) (hi : i < σ.length) (hv : σ[i]? = some (some v0)) (pv : PathV H2 v0 p v) (ho : sget S2 i p = some o) (N : New c G2 As2 A) (F : Frs m As H A) :
    ∃ A1, Ro c.E G2 H2 o v A1 ∧ A1.Nodup ∧ (∀ a ∈ A1, a ∉ A) ∧ ∀ l u o' A1', l ∈ A1 → Ro c.E G2 (upd H2 l u) o' v A1' → A1'.Nodup → (∀ a ∈ A1', a ∈ A1 ∨ a ∈ A) →
      ∃ As3, Real c G2 (sput S2 i p o') As3 τ σ (upd H2 l u) ∧ Post (m ++ [i]) S (sput S2 i p o') As As3 G G2 H (upd H2 l u) := by
  obtain ⟨o0, L, A1, Rr, e0, e1, eA, ro, up⟩ := at_way R2 hi hv pv ho
  have nd := R2.nd i
  rw [eA] at nd
  have nd1 : A1.Nodup := (List.nodup_append.mp (List.nodup_append.mp nd).1).2.1
  refine ⟨A1, ro, nd1, fun a ha z => N.out a z i (by rw [eA]; exact List.mem_append_left _ (List.mem_append_right _ ha)), fun l u o' A1' hl ro' nd' sub => ?_⟩
  have hlA : l ∈ As2 i := by rw [eA]; exact List.mem_append_left _ (List.mem_append_right _ hl)
  have es : sput S2 i p o' = S2.set i (.ow (oput o0 p o')) := by
    unfold sput
    rw [e0]
  rw [es]
  have hsub : ∀ a ∈ L ++ A1' ++ Rr, a ∈ As2 i ∨ a ∈ A := fun a ha => by
    rw [eA]
    rcases List.mem_append.mp ha with z | z
    · rcases List.mem_append.mp z with z | z
      · exact .inl (List.mem_append_left _ (List.mem_append_left _ z))
      · rcases sub a z with q | q
        · exact .inl (List.mem_append_left _ (List.mem_append_right _ q))
        · exact .inr q
    · exact .inl (List.mem_append_right _ z)
  have hout : ∀ a ∈ A, a ∉ L ∧ a ∉ Rr := fun a ha => by
    have h1 := N.out a ha i
    rw [eA] at h1
    exact ⟨fun z => h1 (List.mem_append_left _ (List.mem_append_left _ z)), fun z => h1 (List.mem_append_right _ z)⟩
  have hll : ∀ a ∈ L ++ Rr, a ≠ l := fun a ha z => by
    subst z
    rcases List.mem_append.mp ha with q | q
    · exact (List.nodup_append.mp (List.nodup_append.mp nd).1).2.2 a q a hl rfl
    · exact (List.nodup_append.mp nd).2.2 a (List.mem_append_right _ hl) a q rfl
  have ro2 := up (upd H2 l u) o' A1' (fun a ha w hw => by rw [upd_ne (hll a ha)]; exact hw) ro'
  refine ⟨upA As2 i (L ++ A1' ++ Rr), R2.mutAt hi hv ⟨o0, e0⟩ hlA N (nodup_mid nd nd' fun a ha => (sub a ha).imp id fun z => hout a z) hsub ro2, ?_⟩
  refine ⟨P.exG, fun j hj => ?_, fun a w e hn => ?_, fun j a h => ?_, fun a h => ?_, List.length_set.trans P.len, fun a e hn => P.gn a e fun j hj => hn j (List.mem_append_left _ hj)⟩
  · have hne : j ≠ i := fun z => hj (by rw [z]; exact List.mem_append_right _ List.mem_cons_self)
    have h1 := P.same j fun z => hj (List.mem_append_left _ z)
    exact ⟨(List.getElem?_set_ne (Ne.symm hne)).trans h1.1, (upA_ne hne).trans h1.2⟩
  · rw [upd_ne fun z => ?_]
    · exact P.frm a w e fun j hj => hn j (List.mem_append_left _ hj)
    · subst z
      rcases P.new i a hlA with q | ⟨k, hk, q⟩ | q
      · exact hn i (List.mem_append_right _ List.mem_cons_self) q
      · exact hn k (List.mem_append_left _ hk) q
      · rw [e] at q; cases q
  · by_cases e : j = i
    · rw [e, upA_same] at h
      rcases hsub a h with q | q
      · rcases P.new i a q with q | ⟨k, hk, q⟩ | q
        · rw [e]; exact .inl q
        · exact .inr (.inl ⟨k, List.mem_append_left _ hk, q⟩)
        · exact .inr (.inr q)
      · rcases F a q with q | ⟨k, hk, q⟩
        · exact .inr (.inr q)
        · exact .inr (.inl ⟨k, List.mem_append_left _ hk, q⟩)
    · rw [upA_ne e] at h
      rcases P.new j a h with q | ⟨k, hk, q⟩ | q
      · exact .inl q
      · exact .inr (.inl ⟨k, List.mem_append_left _ hk, q⟩)
      · exact .inr (.inr q)
  · by_cases e : a = l
    · rw [e, upd_same]; exact fun z => nomatch z
    · rw [upd_ne e]; exact P.stay a h
theorem mut_lst {os : List O} (R2 : Real c G2 S2 As2 τ σ H2) (P : Post m S S2 As As2 G G2 H H2) (hi : i < σ.length) (hv : σ[i]? = some (some v0)) (pv : PathV H2 v0 p v) (ho : sget S2 i p = some (.lst os)) (N : New c G2 As2 A) (F : Frs m As H A) :
    ∃ l xs B, v = .ref l ∧ H2 l = some (.lst xs) ∧ RoL c.E G2 H2 os xs B ∧ B.Nodup ∧ (∀ a ∈ B, a ∉ A) ∧ ∀ os' xs' B', RoL c.E G2 H2 os' xs' B' → B'.Nodup → (∀ a ∈ B', a ∈ B ∨ a ∈ A) →
      ∃ As3, Real c G2 (sput S2 i p (.lst os')) As3 τ σ (upd H2 l (.lst xs')) ∧ Post (m ++ [i]) S (sput S2 i p (.lst os')) As As3 G G2 H (upd H2 l (.lst xs')) := by
  obtain ⟨A1, ro, nd, dj, go⟩ := mut_end R2 P hi hv pv ho N F
  unfold Ro at ro
  obtain ⟨l, xs, B, rfl, rfl, h3, h4⟩ := ro
  have nd2 := List.nodup_cons.mp nd
  refine ⟨l, xs, B, rfl, h3, h4, nd2.2, fun a ha => dj a (List.mem_cons_of_mem _ ha), fun os' xs' B' r nd' sub => ?_⟩
  have hl : l ∉ B' := fun z => by
    rcases sub l z with q | q
    · exact nd2.1 q
    · exact dj l List.mem_cons_self q
  refine go l (.lst xs') (.lst os') (l :: B') List.mem_cons_self ?_ (List.nodup_cons.mpr ⟨hl, nd'⟩) fun a ha => ?_
  · unfold Ro
    exact ⟨l, xs', B', rfl, rfl, upd_same, RoL.keep (Ex.refl _) r fun a ha u hu => by rw [upd_ne (show a ≠ l from fun z => hl (z ▸ ha))]; exact hu⟩
  · rcases List.mem_cons.mp ha with z | z
    · rw [z]; exact .inl List.mem_cons_self
    · exact (sub a z).imp (fun q => List.mem_cons_of_mem _ q) id
end
section
variable {E : Ev} {G H : Hp}
theorem RoL.consE {o : O} {os : List O} {vs : List V} {B : List Addr} (h : RoL E G H (o :: os) vs B) : ∃ v r A1 A2, vs = v :: r ∧ B = A1 ++ A2 ∧ Ro E G H o v A1 ∧ RoL E G H os r A2 := by
  unfold RoL at h
  exact h
theorem RoL.cons {o : O} {os : List O} {v : V} {vs : List V} {A B : List Addr} (h : Ro E G H o v A) (r : RoL E G H os vs B) : RoL E G H (o :: os) (v :: vs) (A ++ B) := by
  unfold RoL
  exact ⟨v, vs, A, B, rfl, rfl, h, r⟩
theorem RoL.nil : RoL E G H [] [] [] := by unfold RoL; exact ⟨rfl, rfl⟩
theorem RoL.rev : ∀ {os : List O} {vs : List V} {B : List Addr}, RoL E G H os vs B → ∃ B', RoL E G H os.reverse vs.reverse B' ∧ B'.Perm B
  | [], vs, B, h => by
    unfold RoL at h
    obtain ⟨rfl, rfl⟩ := h
    exact ⟨[], .nil, .refl _⟩
  | o :: os, vs, B, h => by
    obtain ⟨v, r, A1, A2, rfl, rfl, h3, h4⟩ := h.consE
    obtain ⟨B', h5, h6⟩ := RoL.rev h4
    refine ⟨B' ++ A1, ?_, ?_⟩
    · rw [List.reverse_cons, List.reverse_cons]
      exact RoL.append h5 (.one h3)
    · exact (List.perm_append_comm).trans (h6.append_left A1)
theorem RoL.setAt {A : List Addr} {o : O} {y : V} : ∀ {os : List O} {vs : List V} {B : List Addr} {j : Nat}, RoL E G H os vs B → B.Nodup → A.Nodup → (∀ a ∈ B, a ∉ A) → Ro E G H o y A → j < os.length → ∃ B', RoL E G H (os.set j o) (vs.set j y) B' ∧ B'.Nodup ∧ ∀ a ∈ B', a ∈ B ∨ a ∈ A
  | [], vs, B, j, h, _, _, _, _, hj => absurd hj (Nat.not_lt_zero j)
  | x :: os, vs, B, 0, h, nb, na, dj, ro, hj => by
    obtain ⟨v, r, A1, A2, rfl, rfl, h3, h4⟩ := h.consE
    refine ⟨A ++ A2, .cons ro h4, List.nodup_append.mpr ⟨na, (List.nodup_append.mp nb).2.1, fun a ha b hb e => dj b (List.mem_append_right _ hb) (e ▸ ha)⟩, fun a ha => ?_⟩
    rcases List.mem_append.mp ha with z | z
    · exact .inr z
    · exact .inl (List.mem_append_right _ z)
  | x :: os, vs, B, j + 1, h, nb, na, dj, ro, hj => by
    obtain ⟨v, r, A1, A2, rfl, rfl, h3, h4⟩ := h.consE
    have nb2 := List.nodup_append.mp nb
    obtain ⟨B', h5, h6, h7⟩ := RoL.setAt (j := j) h4 nb2.2.1 na (fun a ha => dj a (List.mem_append_right _ ha)) ro (Nat.lt_of_succ_lt_succ hj)
    refine ⟨A1 ++ B', .cons h3 h5, List.nodup_append.mpr ⟨nb2.1, h6, fun a ha b hb e => ?_⟩, fun a ha => ?_⟩
    · subst e
      rcases h7 a hb with z | z
      · exact nb2.2.2 a ha a z rfl
      · exact dj a (List.mem_append_left _ ha) z
    · rcases List.mem_append.mp ha with z | z
      · exact .inl (List.mem_append_left _ z)
      · exact (h7 a z).imp (fun q => List.mem_append_right _ q) id
end
/-! ### read -/
def mRd (i : Nat) (mp : M (List Stp)) : M D := fun S => (mp S).bd fun p S1 => match sget S1 i p with
  | some (.sh d) => .ok d S1
  | _ => .bad
def mRv (i : Nat) (mp : M (List Stp)) : M D := fun S => (mp S).bd fun p S1 => match sget S1 i p with
  | some o => .ok (fr o) S1
  | none => .bad
def mUse (i : Nat) : M D := fun S => match S[i]? with
  | some (.pl d) => .ok d S
  | some (.ow o) => .ok (fr o) (S.set i (.pl (fr o)))
  | _ => .bad
def mLook (i : Nat) : M D := fun S => match S[i]? with
  | some (.pl d) => .ok d S
  | some (.ow o) => .ok (fr o) S
  | _ => .bad
def mMov (i : Nat) : M O := fun S => match S[i]? with
  | some (.pl d) => .ok (.sh d) S
  | some (.ow o) => .ok o (S.set i .no)
  | _ => .bad
section
variable {X : Cx} {c : Ctx} {W : XK} {mods m1 m2 m3 : List Nat} {e a b o : Expr} {pos apos cpos : Pos} {mi : M D} {mo : M O} {mp : M (List Stp)} {i : Nat}
theorem zRd (h : PE X e (tP c W mods i mp)) : PE X e (tE c W true mods (mRd i mp)) := PEw h fun σ H Q ⟨G, S, As, τ, R, q⟩ => by
  refine ⟨G, S, As, τ, R, fin_mono (fin_bd q) fun p S1 e1 k => ?_⟩
  intro v G1 As1 H1 R1 P1 hi ⟨v0, hv0, pv⟩ ⟨o1, ho1⟩
  obtain ⟨o0, L, A1, Rr, _, _, _, ro, _⟩ := at_way R1 hi hv0 pv ho1
  rw [ho1] at k
  cases o1 with
  | sh d =>
    unfold Ro at ro
    exact k v G1 As1 H1 R1 P1 ro.2
  | _ => exact k.elim
end
end Z

/-! Z14: displays of own things; a list's methods that change it; items set. -/
namespace Z
open PySem PySem.Spec PyProof.Rows L2
def tAO (c : Ctx) (X : XK) (mods : List Nat) (m : M (List O)) : TA := fun σ H Q => ∃ G S As τ, Real c G S As τ σ H ∧ fin c X (m S) fun os S' =>
  ∀ vs A G' As' H', Real c G' S' As' τ σ H' → Post mods S S' As As' G G' H H' → RoL c.E G' H' os vs A → New c G' As' A → Frs mods As H A → Q vs H'
def dTupO (os : List O) : Option O := match decide (os.length ≤ sizeLine) with
  | true => some (.tup os)
  | false => none
theorem New.cat {c : Ctx} {G : Hp} {As : Nat → List Addr} {A B : List Addr} (a : New c G As A) (b : New c G As B) (d : ∀ x ∈ A, x ∉ B) : New c G As (A ++ B) :=
  ⟨List.nodup_append.mpr ⟨a.nd, b.nd, fun x hx y hy e => d x hx (e ▸ hy)⟩, fun x h => (List.mem_append.mp h).elim (a.h0 x) (b.h0 x), fun x h => (List.mem_append.mp h).elim (a.g x) (b.g x), fun x h => (List.mem_append.mp h).elim (a.out x) (b.out x)⟩
/-- a new node and its items -/
theorem New.top {c : Ctx} {G : Hp} {S : List Sl} {As : Nat → List Addr} {τ : List V} {σ : L2.St} {H : Hp} {A : List Addr} {p : Addr} (R : Real c G S As τ σ H) (N : New c G As A) (ht : ∀ a ∈ A, H a ≠ none) (hp : H p = none) : New c G As (p :: A) :=
  (R.new1 hp).cat N fun x hx z => by
    obtain rfl : x = p := by simpa using hx
    exact ht x z hp
section
variable {X : Cx} {c : Ctx} {W : XK} {mods m1 m2 m3 : List Nat} {e a b o : Expr} {es : List Expr} {pos apos cpos tpos : Pos} {mi me : M D} {mo : M O} {mp : M (List Stp)} {mr ma : M (List O)} {i : Nat}
theorem zAO0 : PA X [] (tAO c W [] (mC [])) := PAw pa_nil fun σ H Q ⟨G, S, As, τ, R, q⟩ => q [] [] G As H R Post.refl .nil New.nil fun _ z => nomatch z
theorem zAO1 (ha : PE X e (tO c W m1 mo)) (hr : PA X es (tAO c W m2 mr)) (hs : starEach (e :: es) X.env = (false, eval e X.env) :: starEach es X.env := by rfl) : PA X (e :: es) (tAO c W (m1 ++ m2) (mCons mo mr)) :=
  PAw (pa_cons ha hr hs) fun σ H Q ⟨G, S, As, τ, R, q⟩ => by
    refine ⟨G, S, As, τ, R, fin_mono (fin_bd q) fun d S1 e1 k => ?_⟩
    intro v A1 G1 As1 H1 R1 P1 r1 N1 F1
    refine ⟨G1, S1, As1, τ, R1, fin_mono (fin_bd k) fun ds S2 e2 k2 => ?_⟩
    intro vs A2 G2 As2 H2 R2 P2 r2 N2 F2
    obtain ⟨N1', k1⟩ := N1.later (Ro.there r1) P2
    refine k2 (v :: vs) (A1 ++ A2) G2 As2 H2 R2 (P1.trans P2) (.cons (Ro.keep P2.exG r1 k1) r2) (N1'.cat N2 fun x hx z => ?_) fun x hx => ?_
    · rcases F2 x z with q | ⟨j, _, q⟩
      · exact Ro.there r1 x hx q
      · exact N1.out x hx j q
    · rcases List.mem_append.mp hx with z | z
      · exact (F1.post (m2 := m2)) x z
      · exact (Frs.later P1 F2) x z
/-! ### methods that change a list -/
abbrev MutF := List O → List O → Option (D × List O)
def mutL (f : MutF) (i : Nat) (p : List Stp) (os : List O) (S : List Sl) : Out D := match sget S i p with
  | some (.lst xs) => match f xs os with
    | some (d, xs') => .ok d (sput S i p (.lst xs'))
    | none => .bad
  | _ => .bad
def isLstO : Option O → Bool
  | some (.lst _) => true
  | _ => false
def mMut (f : MutF) (i : Nat) (mp : M (List Stp)) (ma : M (List O)) : M D := fun S => (mp S).bd fun p S1 => match isLstO (sget S1 i p) with
  | true => (ma S1).bd fun os S2 => mutL f i p os S2
  | false => .bad
end
/-! the methods -/
def fApp : MutF := fun os args => match args with
  | [o] => match decide (os.length < sizeLine) with
    | true => some (.non, os ++ [o])
    | false => none
  | _ => none
section
variable {c : Ctx}
def fRev : MutF := fun os args => match args with
  | [] => some (.non, os.reverse)
  | _ => none
def fClr : MutF := fun os args => match args with
  | [] => some (.non, [])
  | _ => none
def intsO : List O → Option (List Int)
  | [] => some []
  | .sh (.int n) :: os => (intsO os).map (n :: ·)
  | _ :: _ => none
theorem RoL.ints {E : Ev} {G H : Hp} : ∀ {ns : List Int} {vs : List V} {B : List Addr}, RoL E G H (ns.map fun n => O.sh (.int n)) vs B → vs = ns.map V.int ∧ B = []
  | [], vs, B, h => by
    have h' : RoL E G H [] vs B := h
    unfold RoL at h'
    exact h'
  | n :: ns, vs, B, h => by
    obtain ⟨v, r, A1, A2, rfl, rfl, h3, h4⟩ := RoL.consE (o := .sh (.int n)) (os := ns.map fun n => O.sh (.int n)) h
    unfold Ro at h3
    obtain ⟨rfl, h3⟩ := h3
    unfold Rs at h3
    obtain ⟨rfl, rfl⟩ := RoL.ints h4
    subst h3
    exact ⟨rfl, rfl⟩
theorem RoL.of_ints {E : Ev} {G H : Hp} : ∀ {ns : List Int}, RoL E G H (ns.map fun n => O.sh (.int n)) (ns.map V.int) []
  | [] => .nil
  | n :: ns => .cons (A := []) (by unfold Ro; exact ⟨rfl, by unfold Rs; rfl⟩) RoL.of_ints
def idxI (k : Int) : List Int → Option Nat
  | [] => none
  | n :: ns => if n = k then some 0 else (idxI k ns).map (· + 1)
def fRem : MutF := fun os args => match args with
  | [.sh (.int k)] => match intsO os with
    | some ns => match idxI k ns with
      | some j => some (.non, (ns.eraseIdx j).map fun n => O.sh (.int n))
      | none => none
    | none => none
  | _ => none
end
end Z

/-! Z15: names, items, attributes set. -/
namespace Z
open PySem PySem.Spec PyProof.Rows L2
def slOf : O → Sl
  | .sh d => .pl d
  | o => .ow o
theorem slOk_of {E : Ev} {G H : Hp} {o : O} {v : V} {A : List Addr} (h : Ro E G H o v A) : SlOk E G H (slOf o) (some (some v)) A := by
  cases o with
  | sh d =>
    unfold Ro at h
    exact ⟨h.1, v, rfl, h.2⟩
  | _ => exact ⟨v, rfl, h⟩
def sSto (m : M O) (i : Nat) : MS := fun S => (m S).sd fun o S1 => .next (S1.set i (slOf o))
def sPar (i j : Nat) (m : M (List O)) : MS := fun S => (m S).sd fun os S1 => match os with
  | [o1, o2] => .next ((S1.set i (slOf o1)).set j (slOf o2))
  | _ => .bad
/-- x op= e -/
def sAug (i : Nat) (f : D → D → Option D) (m : M D) : MS := fun S => match S[i]? with
  | some (.pl x) => (m S).sd fun y S1 => match f x y with
    | some z => .next (S1.set i (.pl z))
    | none => .bad
  | _ => .bad
def setL (i : Nat) (p : List Stp) (d : D) (o : O) (S : List Sl) : OutS := match sget S i p, d with
  | some (.lst os), .int k => match ixN os.length k with
    | some j => .next (sput S i p (.lst (os.set j o)))
    | none => .bad
  | _, _ => .bad
def sSetI (i : Nat) (mo : M O) (mp : M (List Stp)) (mi : M D) : MS := fun S => (mo S).sd fun o S1 => (mp S1).sd fun p S2 => (mi S2).sd fun d S3 => setL i p d o S3
def getL (i : Nat) (p : List Stp) (d : D) (S : List Sl) : Option D := match sget S i p, d with
  | some (.lst os), .int k => match ixN os.length k with
    | some j => match os[j]? with
      | some (.sh x) => some x
      | _ => none
    | none => none
  | _, _ => none
def sAugI (i : Nat) (f : D → D → Option D) (mp : M (List Stp)) (mi : M D) (me : M D) : MS := fun S => (mp S).sd fun p S1 => (mi S1).sd fun d S2 => match getL i p d S2 with
  | some x => (me S2).sd fun y S3 => match f x y with
    | some z => setL i p d (.sh z) S3
    | none => .bad
  | none => .bad
section
variable {X : Cx} {c : Ctx} {W : XK} {mods m1 m2 m3 : List Nat} {e a b o : Expr} {es : List Expr} {pos apos cpos tpos : Pos} {mi me : M D} {mo : M O} {mp : M (List Stp)} {mr ma : M (List O)} {i : Nat}
theorem zSto {i : Nat} {x : Str} {p : Pos} (hN : X.N.Nodup) (hi : X.N[i]? = some x) (hx : Loc X.env.scope x) (hio : i ∉ c.io) (h : PE X e (tO c W mods mo)) (hs : swapsWithSole [.Name x p] e pos.line X.env = pure false := by rfl) (hw : swappedStores [.Name x p] e X.env = pure none := by rfl)
    (hf : X.fn x = true ∨ X.env.scope.names.lookup x = some .local := by first | exact .inl rfl | exact .inr rfl | assumption) : PS X (.Assign [.Name x p] e pos) (tS c W (sSto mo i)) :=
  PSl (ps_asg h (pg_name hN hi hx hf) hs hw) fun D σ H hl ⟨G, S, As, R, q⟩ => by
    refine ⟨G, S, As, [], R, fin_mono (ok_sd q) fun o S1 e1 k => ?_⟩
    intro v A G1 As1 H1 R1 P1 r1 N1 _
    exact k G1 _ _ H1 (R1.put (by rw [hl]; exact (List.getElem?_eq_some_iff.mp hi).1) hio N1 (slOk_of r1))
theorem New.apart {c : Ctx} {G : Hp} {As : Nat → List Addr} {A B : List Addr} {i : Nat} (b : New c G As B) (d : ∀ x ∈ B, x ∉ A) : New c G (upA As i A) B :=
  ⟨b.nd, b.h0, b.g, fun a ha j z => by
    by_cases h : j = i
    · rw [h, upA_same] at z
      exact d a ha z
    · rw [upA_ne h] at z
      exact b.out a ha j z⟩
theorem zPar {i j : Nat} {x y : Str} {px py pt : Pos} {kt k2 pt2} (hc : X.calm = true) (hN : X.N.Nodup) (hi : X.N[i]? = some x) (hj : X.N[j]? = some y) (hij : i ≠ j)
    (hx : X.env.scope.names.lookup x = some .local) (hy : X.env.scope.names.lookup y = some .local) (hio : i ∉ c.io) (hjo : j ∉ c.io) (ha : PA X [a, b] (tAO c W mods ma))
    (hw : swappedStores [.Tuple [.Name x px, .Name y py] kt pt] (.Tuple [a, b] k2 pt2) X.env = pure (some [x, y]) := by rfl)
    (hs : swapsWithSole [.Tuple [.Name x px, .Name y py] kt pt] (.Tuple [a, b] k2 pt2) pos.line X.env = pure false := by rfl) :
    PS X (.Assign [.Tuple [.Name x px, .Name y py] kt pt] (.Tuple [a, b] k2 pt2) pos) (tS c W (sPar i j ma)) :=
  PSl (ps_par hc hN hi hj hij hx hy ha hw hs) fun D σ H hl ⟨G, S, As, R, q⟩ => by
    refine ⟨G, S, As, [], R, fin_mono (ok_sd q) fun os S1 e1 k => ?_⟩
    intro vs A G1 As1 H1 R1 P1 r1 N1 _
    have li : i < σ.length := by rw [hl]; exact (List.getElem?_eq_some_iff.mp hi).1
    have lj : j < σ.length := by rw [hl]; exact (List.getElem?_eq_some_iff.mp hj).1
    match os, k, r1 with
    | [o1, o2], k, r1 =>
      obtain ⟨v, r, A1, A2, rfl, rfl, h3, h4⟩ := r1.consE
      obtain ⟨w, r', A3, A4, rfl, rfl, h5, h6⟩ := h4.consE
      unfold RoL at h6
      obtain ⟨rfl, rfl⟩ := h6
      rw [List.append_nil] at N1
      have nd := List.nodup_append.mp N1.nd
      have Na : New c G1 As1 A1 := ⟨nd.1, fun a h => N1.h0 a (List.mem_append_left _ h), fun a h => N1.g a (List.mem_append_left _ h), fun a h => N1.out a (List.mem_append_left _ h)⟩
      have Nb : New c G1 As1 A3 := ⟨nd.2.1, fun a h => N1.h0 a (List.mem_append_right _ h), fun a h => N1.g a (List.mem_append_right _ h), fun a h => N1.out a (List.mem_append_right _ h)⟩
      have R2 := R1.put (τ := []) li hio Na (slOk_of h3)
      have R3 := R2.put (τ := []) (i := j) (by rw [List.length_set]; exact lj) hjo (Nb.apart fun x hx z => nd.2.2 x z x hx rfl) (slOk_of h5)
      exact ⟨v, w, rfl, k G1 _ _ H1 R3⟩
    | [], k, _ => exact k.elim
    | [_], k, _ => exact k.elim
    | _ :: _ :: _ :: _, k, _ => exact k.elim
theorem lt_of_ix {n : Nat} {k : Int} {j : Nat} (h : ixN n k = some j) : j < n := (ixN_seq h).2.1
/-- x[k] = e -/
theorem zSetI (hp : PE X o (tP c W m2 i mp)) (hi : PE X a (tE c W true m3 mi)) (he : PE X e (tO c W m1 mo)) (hm : i ∉ m3 := by decide)
    (hs : swapsWithSole [.Subscript o a tpos] e pos.line X.env = pure false := by rfl) (hw : swappedStores [.Subscript o a tpos] e X.env = pure none := by rfl) (h1 : (assignEach [.Subscript o a tpos] X.env).map (·.2) = [assign (.Subscript o a tpos) X.env] := by rfl)
    (hg : ∀ v, assign (.Subscript o a tpos) X.env v = (do
      let ov ← holding [v] (eval o X.env)
      let iv ← holding [v, ov] (eval a X.env)
      standAt tpos
      holding [v, ov, iv] (setItem ov iv v)
      release [v, ov, iv] []) := by intro _; rfl) : PS X (.Assign [.Subscript o a tpos] e pos) (tS c W (sSetI i mo mp mi)) :=
  PSw (ps_asg he (pg_sub hp hi set_list hg) hs hw h1) fun D σ H ⟨G, S, As, R, q⟩ => by
    refine ⟨G, S, As, [], R, fin_mono (ok_sd q) fun oo S1 e1 k1 => ?_⟩
    intro v A G1 As1 H1 R1 P1 r1 N1 F1
    refine ⟨G1, S1, As1, [], R1, fin_mono (ok_sd k1) fun p S2 e2 k2 => ?_⟩
    intro w G2 As2 H2 R2 P2 hl ⟨v0, hv0, pv⟩ ⟨o1, ho1⟩
    refine ⟨G2, S2, As2, [], R2, fin_mono (ok_sd k2) fun d S3 e3 k3 => ?_⟩
    intro u G3 As3 H3 R3 P3 r3
    obtain ⟨pv3, ho3, eA⟩ := path_later R2 P3 hm hl hv0 pv ho1
    obtain ⟨N2, kp2⟩ := N1.later (Ro.there r1) P2
    have r1b := Ro.keep P2.exG r1 kp2
    obtain ⟨N3, kp3⟩ := N2.later (Ro.there r1b) P3
    have r1c := Ro.keep P3.exG r1b kp3
    have k4 : okS c W D (setL i p d oo S3) := k3
    unfold setL at k4
    rw [ho3] at k4
    cases o1 with
    | lst os =>
      cases d with
      | int n =>
        simp only at k4
        cases hx : ixN os.length n with
        | none => rw [hx] at k4; exact k4.elim
        | some j =>
          rw [hx] at k4
          obtain ⟨l, xs, B, rfl, hH, rB, nB, dB, go⟩ := mut_lst R3 ((P1.trans P2).trans P3) hl hv0 pv3 ho3 N3 ((F1.post).post)
          obtain ⟨B', rB', nB', sub⟩ := RoL.setAt (j := j) rB nB N3.nd dB r1c (lt_of_ix hx)
          obtain ⟨As4, R4, _⟩ := go _ _ B' rB' nB' sub
          unfold Rs at r3
          exact ⟨l, xs, n, j, rfl, r3, hH, by rw [← RoL.length rB]; exact hx, k4 G3 As4 σ _ R4⟩
      | _ => exact k4.elim
    | _ => exact k4.elim
theorem get_list : PGet X (rIxL X.K) := by
  intro pins s σ H x y v u Q I rx ry h
  obtain ⟨p, xs, i, z, rfl, rfl, hq, he, q⟩ := h
  cases rx
  obtain ⟨t, rfl⟩ := ry
  obtain ⟨its, r, pl, hz⟩ := I.list hq
  obtain ⟨j, h1, h2, h3, h4, h5⟩ := atI_get he
  obtain ⟨w, ew, rw'⟩ := r.get h2
  have hl := r.length
  have hn := line63
  have fin : EP X pins σ Q w s := ⟨z, H, I, rw', q⟩
  by_cases h0 : 0 ≤ i
  · have hj : i.toNat = j := by
      rw [seqIndex_of h0 h5] at h1
      exact Option.some.inj h1
    exact wpAny_getItem_list pl.isList h0 (by omega) (by rw [hj]; simpa using ew) fin
  · have hj : (i + (its.toArray.size : Int)).toNat = j := by
      rw [seqIndex_neg (by omega) h4] at h1
      rw [List.size_toArray, ← hl]
      exact Option.some.inj h1
    exact wpAny_getItem_list_neg pl.isList (by omega) (by rw [List.size_toArray] <;> omega) (by omega) (by rw [hj]; simpa using ew) fin
/-- x[k] op= e -/
theorem zAugI {op : Operator} {r : R2} {f : D → D → Option D} (hp : PE X o (tP c W m1 i mp)) (hi : PE X a (tE c W true m2 mi)) (he : PE X e (tE c W true m3 me)) (ho : OpR X (inplaceOp op) r) (hr : Ans2 c r f) (hm : i ∉ m2 := by decide) (hm3 : i ∉ m3 := by decide)
    (ha : ∀ ov iv new, augStore a ov iv new = (do holding [new, ov, iv] (setItem ov iv new); release [new, ov, iv] []; pure .next) := by intros; rfl) : PS X (.AugAssign (.Subscript o a tpos) op e pos) (tS c W (sAugI i f mp mi me)) :=
  PSw (ps_augS hp hi get_list he (show PIp X op r from ho) set_list ha) fun D σ H ⟨G, S, As, R, q⟩ => by
    refine ⟨G, S, As, [], R, fin_mono (ok_sd q) fun p S1 e1 k1 => ?_⟩
    intro w G1 As1 H1 R1 P1 hl ⟨v0, hv0, pv⟩ ⟨o1, ho1⟩
    refine ⟨G1, S1, As1, [], R1, fin_mono (ok_sd k1) fun d S2 e2 k2 => ?_⟩
    intro u G2 As2 H2 R2 P2 r2
    obtain ⟨pv2, ho2, eA⟩ := path_later R1 P2 hm hl hv0 pv ho1
    unfold getL at k2
    rw [ho2] at k2
    cases o1 with
    | lst os =>
      cases d with
      | int n =>
        simp only at k2
        cases hx : ixN os.length n with
        | none => rw [hx] at k2; exact k2.elim
        | some j =>
          rw [hx] at k2
          simp only at k2
          cases hj : os[j]? with
          | none => rw [hj] at k2; exact k2.elim
          | some oj =>
            rw [hj] at k2
            cases oj with
            | sh x =>
              obtain ⟨l, xs, B, rfl, hH, rB, nB, dB, _⟩ := mut_lst (A := []) R2 (P1.trans P2) hl hv0 pv2 ho2 New.nil (fun _ z => nomatch z)
              obtain ⟨xv, L, A1, Rr, hxv, _, rx, _⟩ := RoL.split rB hj
              unfold Ro at rx
              unfold Rs at r2
              have hat : atI xs n = some xv := by
                unfold atI
                rw [← RoL.length rB, hx]
                exact hxv
              refine ⟨l, xs, n, xv, rfl, r2, SqL.of hH, hat, G2, S2, As2, [], R2, fin_mono (ok_sd k2) fun y S3 e3 k3 => ?_⟩
              intro yv G3 As3 H3 R3 P3 r3
              obtain ⟨pv3, ho3, eA3⟩ := path_later R2 P3 hm3 hl hv0 pv2 ho2
              cases hf : f x y with
              | none =>
                rw [hf] at k3
                exact k3.elim
              | some z =>
                rw [hf] at k3
                refine hr G3 H3 x y z xv yv _ R3.exG (Rs.mono P3.exG rx.2) (Rs.mono R3.exG r3) hf fun zv hz => ?_
                have k4 : okS c W D (setL i p (.int n) (.sh z) S3) := k3
                unfold setL at k4
                rw [ho3] at k4
                simp only at k4
                rw [hx] at k4
                obtain ⟨l', xs', B', el, hH', rB', nB', dB', go'⟩ := mut_lst (A := []) R3 ((P1.trans P2).trans P3) hl hv0 pv3 ho3 New.nil (fun _ z => nomatch z)
                cases el
                obtain ⟨B2, rB2, nB2, sub2⟩ := RoL.setAt (A := []) (j := j) (o := .sh z) (y := zv) rB' nB' List.nodup_nil (fun _ _ h => nomatch h) (by unfold Ro; exact ⟨rfl, hz⟩) (lt_of_ix hx)
                obtain ⟨As4, R4, _⟩ := go' _ _ B2 rB2 nB2 sub2
                exact ⟨l, xs', n, j, rfl, r2, hH', by rw [← RoL.length rB']; exact hx, k4 G3 As4 σ _ R4⟩
            | _ => exact k2.elim
      | _ => exact k2.elim
    | _ => exact k2.elim
end
end Z

/-! Z16: is, chains, isinstance, built-in calls, slices, lists joined. -/
namespace Z
open PySem PySem.Spec PyProof.Rows L2
/-! ### is -/
def isBlD (b : Bool) : D → Bool
  | .bl k => k == b
  | _ => false
def isNonD : D → Bool
  | .non => true
  | _ => false
def isB (x y : D) : Option Bool := match y with
  | .non => some (isNonD x)
  | .bl b => some (isBlD b x)
  | _ => none
def dIs (x y : D) : Option D := (isB x y).map D.bl
def dIsn (x y : D) : Option D := (isB x y).map fun b => D.bl (!b)
section
variable {X : Cx}
def okV : V → Bool
  | .non => true
  | .bl _ => true
  | .int _ => true
  | .str _ => true
  | .ref _ => true
  | _ => false
theorem beq_bl {x : V} {v : Value} {b : Bool} (hx : okV x = true) (rx : RelV x v) : plainIs v (.bool b) = true ∧ decide (x = .bl b) = (v == Value.bool b) := by
  have key : ∀ u : Value, (u == Value.bool b) = decide (u = Value.bool b) := fun u => by
    by_cases h : u = Value.bool b
    · rw [h, decide_eq_true rfl]; exact beq_self_eq_true _
    · rw [decide_eq_false h]; exact beq_eq_false_iff_ne.mpr h
  rw [key]
  cases x with
  | bl k =>
    cases rx
    refine ⟨rfl, ?_⟩
    by_cases h : k = b
    · rw [h, decide_eq_true rfl, decide_eq_true rfl]
    · rw [decide_eq_false (fun z => h (Value.bool.inj z)), decide_eq_false (fun z => h (V.bl.inj z))]
  | int i => obtain ⟨t, rfl⟩ := rx; exact ⟨rfl, rfl⟩
  | str z => obtain ⟨t, rfl⟩ := rx; exact ⟨rfl, rfl⟩
  | non => cases rx; exact ⟨rfl, rfl⟩
  | ref a => cases rx; exact ⟨rfl, rfl⟩
  | _ => cases hx
theorem op_isBl : OpR X (compareOp .Is) (fun x y H Q => ∃ b, y = .bl b ∧ okV x = true ∧ Q (.bl (decide (x = .bl b))) H) := by
  intro pins s σ H x y v u Q I rx ry h
  obtain ⟨b, rfl, hx, q⟩ := h
  cases ry
  obtain ⟨h1, h2⟩ := beq_bl (b := b) hx rx
  exact wpAny_is_plain h1 (fin_bl I q h2)
theorem op_notBl : OpR X (compareOp .IsNot) (fun x y H Q => ∃ b, y = .bl b ∧ okV x = true ∧ Q (.bl (!decide (x = .bl b))) H) := by
  intro pins s σ H x y v u Q I rx ry h
  obtain ⟨b, rfl, hx, q⟩ := h
  cases ry
  obtain ⟨h1, h2⟩ := beq_bl (b := b) hx rx
  exact wpAny_isNot_plain h1 (fin_bl I q (congrArg not h2))
theorem OpR.or {f : Value → Value → Sem Value} {r r' : R2} (h : OpR X f r) (h' : OpR X f r') : OpR X f (fun x y H Q => r x y H Q ∨ r' x y H Q) := by
  intro pins s σ H x y v u Q I rx ry q
  rcases q with q | q
  · exact h pins s σ H x y v u Q I rx ry q
  · exact h' pins s σ H x y v u Q I rx ry q
end
section
variable {c : Ctx}
theorem rs_okV {E : Ev} {H : Hp} {d : D} {x : V} (h : Rs E H d x) : okV x = true := by
  cases d with
  | obj C fs ds =>
    unfold Rs at h
    obtain ⟨a, dx, fv, rfl, _⟩ := h
    rfl
  | _ =>
    unfold Rs at h
    first
      | (subst h; rfl)
      | (obtain ⟨a, _, rfl, _⟩ := h; rfl)
theorem is_non {E : Ev} {H : Hp} {d : D} {x : V} (h : Rs E H d x) : decide (x = .non) = isNonD d := by
  cases d with
  | obj C fs ds =>
    unfold Rs at h
    obtain ⟨a, dx, fv, rfl, _⟩ := h
    rfl
  | _ =>
    unfold Rs at h
    first
      | (subst h; rfl)
      | (obtain ⟨a, _, rfl, _⟩ := h; rfl)
theorem is_bl {E : Ev} {H : Hp} {d : D} {x : V} {b : Bool} (h : Rs E H d x) : decide (x = .bl b) = isBlD b d := by
  cases d with
  | bl k =>
    unfold Rs at h
    subst h
    show decide (V.bl k = V.bl b) = (k == b)
    by_cases e : k = b
    · rw [e]; simp
    · rw [decide_eq_false (fun z => e (V.bl.inj z)), beq_eq_false_iff_ne.mpr e]
  | obj C fs ds =>
    unfold Rs at h
    obtain ⟨a, dx, fv, rfl, _⟩ := h
    rfl
  | _ =>
    unfold Rs at h
    first
      | (subst h; rfl)
      | (obtain ⟨a, _, rfl, _⟩ := h; rfl)
theorem ans_is : Ans2 c (fun x y H Q => (y = .non ∧ Q (.bl (decide (x = .non))) H) ∨ ∃ b, y = .bl b ∧ okV x = true ∧ Q (.bl (decide (x = .bl b))) H) dIs := fun h H dx dy d x y Q e rx ry hf k => by
  unfold dIs isB at hf
  cases dy with
  | non =>
    cases hf
    unfold Rs at ry
    exact .inl ⟨ry, by rw [is_non rx]; exact k _ (by unfold Rs; rfl)⟩
  | bl b =>
    cases hf
    unfold Rs at ry
    exact .inr ⟨b, ry, rs_okV rx, by rw [is_bl rx]; exact k _ (by unfold Rs; rfl)⟩
  | _ => cases hf
theorem ans_isn : Ans2 c (fun x y H Q => (y = .non ∧ Q (.bl (!decide (x = .non))) H) ∨ ∃ b, y = .bl b ∧ okV x = true ∧ Q (.bl (!decide (x = .bl b))) H) dIsn := fun h H dx dy d x y Q e rx ry hf k => by
  unfold dIsn isB at hf
  cases dy with
  | non =>
    cases hf
    unfold Rs at ry
    exact .inl ⟨ry, by rw [is_non rx]; exact k _ (by unfold Rs; rfl)⟩
  | bl b =>
    cases hf
    unfold Rs at ry
    exact .inr ⟨b, ry, rs_okV rx, by rw [is_bl rx]; exact k _ (by unfold Rs; rfl)⟩
  | _ => cases hf
theorem scal_is : Scal2 dIs := fun x y d hf => by
  unfold dIs at hf
  cases h : isB x y with
  | none => rw [h] at hf; cases hf
  | some b => rw [h] at hf; cases hf; rfl
theorem scal_isn : Scal2 dIsn := fun x y d hf => by
  unfold dIsn at hf
  cases h : isB x y with
  | none => rw [h] at hf; cases hf
  | some b => rw [h] at hf; cases hf; rfl
end
section
variable {X : Cx} {c : Ctx} {W : XK} {mods m1 m2 m3 : List Nat} {md md1 md2 md3 : Bool} {e a b d o : Expr} {es : List Expr} {pos apos cpos tpos p : Pos} {ma mb mc mi me : M D} {m : M (List D)}
theorem zIs (ha : PE X a (tE c W md1 m1 ma)) (hb : PE X b (tE c W md2 m2 mb)) (hm : (md1 || m2.isEmpty) = true := by rfl) : PE X (.Compare a [.Is] [b] pos) (tE c W true (m1 ++ m2) (m2x dIs ma mb)) :=
  PEw (pe_cmpR (op_isN.or op_isBl) ha hb (nomark _)) (w_opS ans_is scal_is hm)
theorem yIsn (ha : PE X a (tE c W md1 m1 ma)) (hb : PE X b (tE c W md2 m2 mb)) (hm : (md1 || m2.isEmpty) = true := by rfl) : PT X (.Compare a [.IsNot] [b] pos) (tT c W (m1 ++ m2) (mTst (m2x dIsn ma mb))) :=
  PTw (pt_cmpR (op_notN.or op_notBl) ha hb (nomark _)) (w_tst (w_opS ans_isn scal_isn hm))
/-! ### chains: all parts shared -/
def mCh (f g : D → D → Option D) (ma mb mc : M D) : M D := fun S => (ma S).bd fun x S1 => (mb S1).bd fun y S2 => match f x y with
  | some (.bl true) => (mc S2).bd fun z S3 => oo (g y z) S3
  | some (.bl false) => .ok (.bl false) S2
  | _ => .bad
theorem w_ch {r r' : R2} {f g : D → D → Option D} (hr : Ans2 c r f) (hr' : Ans2 c r' g) (hs : Scal2 g) (σ : L2.St) (H : Hp) (Q : VK) (h : tE c W true (m1 ++ (m2 ++ m3)) (mCh f g ma mb mc) σ H Q) : tChain r r' (tE c W true m1 ma) (tE c W true m2 mb) (tE c W true m3 mc) σ H Q := by
  obtain ⟨G, S, As, τ, R, q⟩ := h
  refine ⟨G, S, As, τ, R, fin_mono (fin_bd q) fun dx S1 e1 k => ?_⟩
  intro v G1 As1 H1 R1 P1 r1
  refine ⟨G1, S1, As1, τ, R1, fin_mono (fin_bd k) fun dy S2 e2 k2 => ?_⟩
  intro u G2 As2 H2 R2 P2 r2
  have P12 : Post (m1 ++ (m2 ++ m3)) S S2 As As2 G G2 H H2 := (P1.trans P2).mono fun j hj => by
    rcases List.mem_append.mp hj with z | z
    · exact List.mem_append_left _ z
    · exact List.mem_append_right _ (List.mem_append_left _ z)
  cases hf : f dx dy with
  | none => rw [hf] at k2; exact k2.elim
  | some d =>
    rw [hf] at k2
    refine hr G2 H2 dx dy d v u _ R2.exG (Rs.mono P2.exG r1) (Rs.mono R2.exG r2) hf fun w hw => ?_
    cases d with
    | bl b =>
      unfold Rs at hw
      refine ⟨b, hw, ?_⟩
      cases b with
      | true =>
        rw [if_pos rfl]
        refine ⟨G2, S2, As2, τ, R2, fin_mono (fin_bd k2) fun dz S3 e3 k3 => ?_⟩
        intro z G3 As3 H3 R3 P3 r3
        cases hg : g dy dz with
        | none => rw [hg] at k3; exact k3.elim
        | some d2 =>
          rw [hg] at k3
          refine hr' G3 H3 dy dz d2 u z _ R3.exG (Rs.mono P3.exG r2) (Rs.mono R3.exG r3) hg fun w2 hw2 => ?_
          exact k3 w2 G3 As3 H3 R3 ((P1.trans (P2.trans P3))) hw2
      | false =>
        rw [if_neg Bool.false_ne_true]
        exact k2 _ G2 As2 H2 R2 P12 (by unfold Rs; rfl)
    | _ => exact k2.elim
theorem zCh {op op' : CmpOp} {r r' : R2} {f g : D → D → Option D} (ho : OpR X (compareOp op) r) (ho' : OpR X (compareOp op') r') (hr : Ans2 c r f) (hr' : Ans2 c r' g) (hs : Scal2 g) (ha : PE X a (tE c W true m1 ma)) (hb : PE X b (tE c W true m2 mb)) (hc : PE X d (tE c W true m3 mc))
    (hm : lastMarks [op, op'] [b, d] = false := by with_unfolding_all rfl) : PE X (.Compare a [op, op'] [b, d] pos) (tE c W true (m1 ++ (m2 ++ m3)) (mCh f g ma mb mc)) := PEw (pe_chain ho ho' ha hb hc hm) (w_ch hr hr' hs)
theorem yCh {op op' : CmpOp} {r r' : R2} {f g : D → D → Option D} (ho : OpR X (compareOp op) r) (ho' : OpR X (compareOp op') r') (hr : Ans2 c r f) (hr' : Ans2 c r' g) (hs : Scal2 g) (ha : PE X a (tE c W true m1 ma)) (hb : PE X b (tE c W true m2 mb)) (hc : PE X d (tE c W true m3 mc))
    (hm : lastMarks [op, op'] [b, d] = false := by with_unfolding_all rfl) : PT X (.Compare a [op, op'] [b, d] pos) (tT c W (m1 ++ (m2 ++ m3)) (mTst (mCh f g ma mb mc))) := PTw (pt_chain ho ho' ha hb hc hm) (w_tst (w_ch hr hr' hs))
theorem ans_lt : Ans2 c (rI0 fun i j => .bl (decide (i < j))) dLt := ans_I0 fun _ _ _ => by unfold Rs; rfl
theorem ans_le : Ans2 c (rI0 fun i j => .bl (decide (i ≤ j))) dLe := ans_I0 fun _ _ _ => by unfold Rs; rfl
theorem scal_lt : Scal2 dLt := scal_I0 fun _ _ => rfl
theorem zCh12 (ha : PE X a (tE c W true m1 ma)) (hb : PE X b (tE c W true m2 mb)) (hc : PE X d (tE c W true m3 mc)) (hm : lastMarks [.LtE, .Lt] [b, d] = false := by with_unfolding_all rfl) : PE X (.Compare a [.LtE, .Lt] [b, d] pos) (tE c W true (m1 ++ (m2 ++ m3)) (mCh dLe dLt ma mb mc)) := zCh op_le op_lt ans_le ans_lt scal_lt ha hb hc hm
theorem yCh12 (ha : PE X a (tE c W true m1 ma)) (hb : PE X b (tE c W true m2 mb)) (hc : PE X d (tE c W true m3 mc)) (hm : lastMarks [.LtE, .Lt] [b, d] = false := by with_unfolding_all rfl) : PT X (.Compare a [.LtE, .Lt] [b, d] pos) (tT c W (m1 ++ (m2 ++ m3)) (mTst (mCh dLe dLt ma mb mc))) := yCh op_le op_lt ans_le ans_lt scal_lt ha hb hc hm
/-- -a -/
def dNeg : D → Option D
  | .int i => some (.int (-i))
  | _ => none
theorem zNeg (ha : PE X a (tE c W md m1 ma)) : PE X (.UnaryOp .USub a pos) (tE c W true m1 (m1x dNeg ma)) := PEw (pe_un un_neg ha) fun σ H Q ⟨G, S, As, τ, R, q⟩ => by
  refine ⟨G, S, As, τ, R, fin_mono (fin_bd q) fun dx S1 e1 k => ?_⟩
  intro v G1 As1 H1 R1 P1 r1
  cases dx with
  | int i =>
    unfold Rs at r1
    exact ⟨i, r1, k _ G1 As1 H1 R1 P1 (by unfold Rs; rfl)⟩
  | _ => exact k.elim
end
end Z

/-! Z17: isinstance, built-in calls. -/
namespace Z
open PySem PySem.Spec PyProof.Rows L2
/-! ### isinstance -/
inductive Kd where
  | non | bl | int | str | lst | tup | dic
def Kd.nm : Kd → String
  | .non => "NoneType"
  | .bl => "bool"
  | .int => "int"
  | .str => "str"
  | .lst => "list"
  | .tup => "tuple"
  | .dic => "dict"
def Kd.is : Kd → Kd → Bool
  | .non, .non => true
  | .bl, .bl => true
  | .bl, .int => true
  | .int, .int => true
  | .str, .str => true
  | .lst, .lst => true
  | .tup, .tup => true
  | .dic, .dic => true
  | _, _ => false
theorem kit7 (a b : Kd) : kitB a.nm b.nm = some (a.is b) := by
  cases a <;> cases b <;> decide +kernel
def dkd : D → Kd ⊕ Str
  | .non => .inl .non
  | .bl _ => .inl .bl
  | .int _ => .inl .int
  | .str _ => .inl .str
  | .lst _ => .inl .lst
  | .tup _ => .inl .tup
  | .dic _ _ => .inl .dic
  | .obj C _ _ => .inr C
  | .fls _ => .inl .lst
/-- what isinstance finds of an own object of class C: fo -/
def dIsi (fb : Kd → Option Bool) (fo : Str → Option Bool) (d : D) : Option D := match dkd d with
  | .inl k => (fb k).map D.bl
  | .inr C => (fo C).map D.bl
/-- an own class's objects have a class -/
structure InsK (K : PySem.W.Frag) (C : Addr) : Prop where
  cl : Cls K C
  ha : PySem.W.findIn K (.ref C) "__class__" = some (some (.builtin "object.__class__"))
  hn : PySem.W.specialIn K (.builtin "object.__class__") "__get__" = some (some (.builtin "getset_descriptor.__get__"))
  tk : PySem.W.takesIn K (.builtin "object.__class__") = some true
  hm : PySem.W.mroIn K C (.type "object") = some true
theorem tyx_kd {E : Ev} {H : Hp} {d : D} {x : V} {k : Kd} (h : Rs E H d x) (e : dkd d = .inl k) : TyX E.K H x (.type k.nm) := by
  cases d with
  | non => cases e; unfold Rs at h; subst h; exact .base .non
  | bl b => cases e; unfold Rs at h; subst h; exact .base (.bl b)
  | int i => cases e; unfold Rs at h; subst h; exact .base (.int i)
  | str s => cases e; unfold Rs at h; subst h; exact .base (.str s)
  | lst ds =>
    cases e
    unfold Rs at h
    obtain ⟨a, xs, rfl, h2, _⟩ := h
    exact .base (.lst h2)
  | tup ds =>
    cases e
    unfold Rs at h
    obtain ⟨a, xs, rfl, h2, _⟩ := h
    rcases h2.sq with (q | ⟨o, q⟩) | ⟨o, its, n, q, qc, _⟩
    · exact .base (.tup q)
    · exact .fTuple q
    · exact .kTuple q qc
  | dic ks ds =>
    cases e
    unfold Rs at h
    obtain ⟨a, kvs, rfl, (q | ⟨o, q⟩), _⟩ := h
    · exact .base (.dK q)
    · exact .fDict q
  | obj C fs ds => cases e
  | fls ds =>
    cases e
    unfold Rs at h
    obtain ⟨a, xs, rfl, h2, _⟩ := h
    rcases h2 with (q | ⟨o, q⟩) | ⟨o, its, n, q, qc, _⟩
    · exact .base (.lst q)
    · exact .base (.frz q)
    · exact .kList q qc
theorem tyx_ob {E : Ev} {H : Hp} {d : D} {x : V} {C : Str} (h : Rs E H d x) (e : dkd d = .inr C) (k : InsK E.K (E.ca C)) : TyX E.K H x (.ref (E.ca C)) := by
  cases d with
  | obj C' fs ds =>
    cases e
    unfold Rs at h
    obtain ⟨a, dx, fv, rfl, h2, _⟩ := h
    exact .base (.ins h2 k.cl k.ha k.hn k.tk k.hm)
  | _ => cases e
section
variable {X : Cx} {c : Ctx} {W : XK} {mods m1 m2 m3 : List Nat} {md md1 md2 md3 : Bool} {e a b d o : Expr} {es : List Expr} {pos apos cpos tpos p p2 : Pos} {ma mb mc mi me : D} {m : M D} {fb : Kd → Option Bool} {fo : Str → Option Bool}
theorem w_isi {cv : V} {u : Value} (hK : c.E.K = X.K) (hu : ClsV cv u) (hb : ∀ k r, fb k = some r → PySem.W.kitOne X.K (.type k.nm) u = some r) (ho : ∀ C r, fo C = some r → InsK X.K (c.E.ca C) ∧ PySem.W.kitOne X.K (.ref (c.E.ca C)) u = some r) (σ : L2.St) (H : Hp) (Q : VK)
    (h : tE c W true mods (m1x (dIsi fb fo) m) σ H Q) : tCB (rIsi X.K) (tCons (tE c W md mods m) (tCons (tC cv) tNil)) σ H Q := by
  obtain ⟨G, S, As, τ, R, q⟩ := h
  refine ⟨G, S, As, τ, R, fin_mono (fin_bd q) fun dx S1 e1 k => ?_⟩
  intro v G1 As1 H1 R1 P1 r1
  have r2 := Rs.mono (hp_ex R1.exG) r1
  have k' : fin c W (oo (dIsi fb fo dx) S1) _ := k
  unfold dIsi at k'
  cases hk : dkd dx with
  | inl kd =>
    rw [hk] at k'
    simp only at k'
    cases hf : fb kd with
    | none => rw [hf] at k'; exact k'.elim
    | some r =>
      rw [hf] at k'
      exact ⟨v, cv, _, u, r, rfl, hu, hK ▸ tyx_kd r2 hk, hb kd r hf, k' _ G1 As1 H1 R1 P1 (by unfold Rs; rfl)⟩
  | inr C =>
    rw [hk] at k'
    simp only at k'
    cases hf : fo C with
    | none => rw [hf] at k'; exact k'.elim
    | some r =>
      rw [hf] at k'
      obtain ⟨k1, k2⟩ := ho C r hf
      exact ⟨v, cv, _, u, r, rfl, hu, hK ▸ tyx_ob r2 hk (hK ▸ k1), k2, k' _ G1 As1 H1 R1 P1 (by unfold Rs; rfl)⟩
/-- isinstance(e, T), T built-in -/
def isT (T : Kd) : Kd → Option Bool := fun k => some (k.is T)
def noO : Str → Option Bool := fun _ => none
theorem zIsi {T : Kd} {x : Str} (hK : c.E.K = X.K) (hg : Gl X "isinstance") (hmg : X.mg "isinstance" = none) (hgT : Gl X x) (hmT : X.mg x = none) (hv : bootBuiltins x = some (.type T.nm)) (he : PE X e (tE c W md mods m))
    (hn : x ≠ "__name__" := by decide) (hd : (x == ("__debug__" : Str)) = false := by decide) (hs1 : starEach [e, .Name x p2] X.env = (false, eval e X.env) :: starEach [.Name x p2] X.env := by rfl) (hpl : (backTo pos (starEach [.Name x p2] X.env)).any (·.1) = false := by rfl) :
    PE X (.Call (.Name "isinstance" p) [e, .Name x p2] [] pos) (tE c W true mods (m1x (dIsi (isT T) noO) m)) :=
  PEw (pe_callB call_isi hg hmg PyProof.Rows.boot_isinstance (pa_cons he (pa_cons (pe_bltn (v := .ty T.nm) hgT hmT hv rfl hn hd) pa_nil) hs1) (by decide) (by decide) hs1 hpl)
    (w_isi hK (.ty _) (fun k r h => kit_ty (by rw [kit7]; exact h)) fun C r h => nomatch h)
/-- isinstance(e, (T, U)) -/
def isT2 (T U : Kd) : Kd → Option Bool := fun k => some (k.is T || k.is U)
theorem kit_any {K : PySem.W.Frag} {T U k : Kd} : PySem.W.kitAny K (.type k.nm) [.type T.nm, .type U.nm] = some (k.is T || k.is U) := by
  have h1 : PySem.W.kitOne K (.type k.nm) (.type T.nm) = some (k.is T) := kit_ty (kit7 k T)
  have h2 : PySem.W.kitOne K (.type k.nm) (.type U.nm) = some (k.is U) := kit_ty (kit7 k U)
  refine kitAny_cons h1 (fun e => ?_) fun e => by rw [e]; rfl
  refine kitAny_cons h2 (fun e2 => ?_) fun e2 => by rw [e2]; exact Bool.or_true _
  rw [e, e2]
  rfl
theorem zIsi2 {T U : Kd} {x y : Str} {q1 q2 : Pos} {kk : Nat} (hK : c.E.K = X.K) (hg : Gl X "isinstance") (hmg : X.mg "isinstance" = none) (hgT : Gl X x) (hmT : X.mg x = none) (hv : bootBuiltins x = some (.type T.nm)) (hgU : Gl X y) (hmU : X.mg y = none) (hvU : bootBuiltins y = some (.type U.nm)) (he : PE X e (tE c W md mods m))
    (hn : x ≠ "__name__" := by decide) (hd : (x == ("__debug__" : Str)) = false := by decide) (hnU : y ≠ "__name__" := by decide) (hdU : (y == ("__debug__" : Str)) = false := by decide)
    (hs1 : starEach [e, .Tuple [.Name x q1, .Name y q2] kk p2] X.env = (false, eval e X.env) :: starEach [.Tuple [.Name x q1, .Name y q2] kk p2] X.env := by rfl) (hpl : (backTo pos (starEach [.Tuple [.Name x q1, .Name y q2] kk p2] X.env)).any (·.1) = false := by rfl) :
    PE X (.Call (.Name "isinstance" p) [e, .Tuple [.Name x q1, .Name y q2] kk p2] [] pos) (tE c W true mods (m1x (dIsi (isT2 T U) noO) m)) :=
  PEw (pe_callB call_isiT hg hmg PyProof.Rows.boot_isinstance (pa_cons he (pa_cons (pe_tup (pa_cons (pe_bltn (v := .ty T.nm) hgT hmT hv rfl hn hd) (pa_cons (pe_bltn (v := .ty U.nm) hgU hmU hvU rfl hnU hdU) pa_nil))) pa_nil) hs1) (by decide) (by decide) hs1 hpl) fun σ H Q ⟨G, S, As, τ, R, q⟩ => by
    refine ⟨G, S, As, τ, R, fin_mono (fin_bd q) fun dx S1 e1 k => ?_⟩
    intro v G1 As1 H1 R1 P1 r1
    have r2 := Rs.mono (hp_ex R1.exG) r1
    have k' : fin c W (oo (dIsi (isT2 T U) noO dx) S1) _ := k
    unfold dIsi at k'
    cases hk : dkd dx with
    | inl kd =>
      rw [hk] at k'
      refine ⟨by show 2 ≤ sizeLine; rw [sizeLine_eq]; decide, fun tp htp => ?_⟩
      have R2 := R1.keep (Keep.new (o := .tup [.ty T.nm, .ty U.nm]) htp)
      have P2 : Post mods S1 S1 As1 As1 G1 G1 H1 (upd H1 tp (.tup [.ty T.nm, .ty U.nm])) := Post.of_keep (Ex.refl _) (Keep.new htp) fun _ _ => rfl
      refine ⟨v, tp, [.ty T.nm, .ty U.nm], _, [.type T.nm, .type U.nm], kd.is T || kd.is U, rfl, upd_same, .cons (.ty _) (.cons (.ty _) .nil), hK ▸ tyx_kd (Rs.mono (Ex.new htp) r2) hk, kit_any, ?_⟩
      exact k' _ G1 As1 _ R2 ((P1.trans P2).mono fun j hj => (List.mem_append.mp hj).elim id id) (by unfold Rs; rfl)
    | inr C =>
      rw [hk] at k'
      exact k'.elim
end
end Z

/-! Z18: built-in functions. -/
namespace SrtT
open PySem PyProof.Rows Srt SrtO
section
variable {prog : Program} {w : World} {A : Around} {E : Value → Shared → Prop} {s : Shared}
theorem collect_tup {l : Addr} {vs : List Value} {o : Obj} {n : Nat} {Q : List Value → Shared → Prop} (ho : s.heap.get? l = some o) (hc : o.cls = .type "tuple") (hd : o.data = .seq vs.toArray n)
    (h : Q vs { s with heap := (s.heap.push (seqObj "list" #[] 0)).update s.heap.objs.size (Obj.mapSeq (· ++ vs.toArray)) }) (hsz : vs.length ≤ sizeLine) :
    wpAny (model prog w) A (collect (.ref l)) Q E s := by
  unfold collect
  refine wpAny_bind (wpAny_runValue (codeAny_builtin entry_proto_collect' ?_))
  show wpAny _ _ (do again (.builtin "list.__iadd__" ⟨[← newList [], .ref l], []⟩)) _ _ s
  refine wpAny_bind (wpAny_newList (wpAny_pure ⟨Code.quiet_builtin _ (by decide +kernel), codeAny_builtin entry_list_iadd' ?_⟩))
  show wpAny _ _ (Builtin.List.listExtendWith (.ref s.heap.objs.size) (.ref l) (.ref s.heap.objs.size)) _ _ { s with heap := s.heap.push (seqObj "list" #[] 0) }
  unfold Builtin.List.listExtendWith
  have ho' : (s.heap.push (seqObj "list" #[] 0)).get? l = some o := Heap.get?_push_of_some _ ho
  refine wpAny_bind (wpAny_typeOf (T := "tuple") ⟨o, ho', hc⟩ ?_)
  have ht : (Value.type "tuple" == Value.type "tuple") = true := by rfl
  rw [if_pos (by rw [ht]; simp)]
  refine wpAny_bind (listItems_at ho' hd ?_)
  refine wpAny_bind (listItems_at (xs := #[]) (n := 0) (Heap.get?_push_size _ rfl) rfl ?_)
  rw [if_neg (by simp)]
  refine wpAny_bind (listUpdate_at (xs := #[]) (n := 0) (Heap.get?_push_size _ rfl) rfl ?_ (Nat.zero_le _) (by show (#[] ++ vs.toArray).size ≤ sizeLine + 1; simp only [Array.size_append, List.size_toArray, List.length_nil]; omega))
  refine wpAny_pure ?_
  show wpAny (model prog w) A (do
      let o ← load s.heap.objs.size
      match o.data with
      | .seq xs _ => pure xs.toList
      | _ => unsupported "internal:collect") Q E { s with heap := (s.heap.push (seqObj "list" #[] 0)).update s.heap.objs.size (Obj.mapSeq (· ++ vs.toArray)) }
  refine wpAny_bind (wpAny_load (get?_update_seq (Heap.get?_push_size _ rfl) _) ?_)
  show wpAny _ _ (pure ((#[] : Array Value) ++ vs.toArray).toList) Q E _
  rw [show ((#[] : Array Value) ++ vs.toArray).toList = vs by simp]
  exact wpAny_pure h
theorem sorted_ordT {l : Addr} {vs : List Value} {o : Obj} {n : Nat} {ltv : Value → Value → Bool} {Q : Value → Shared → Prop} (O : Swo ltv) (ho : s.heap.get? l = some o) (hc : o.cls = .type "tuple") (hd : o.data = .seq vs.toArray n) (hz : vs.length ≤ sizeLine)
    (hS : 2 ≤ vs.length → ∀ (h₁ : Heap) (a : Addr), h₁.get? a = some (seqObj "list" vs.toArray 0) → (∀ b o, s.heap.get? b = some o → b ≠ a ∧ h₁.get? b = some o) → SortableO prog w A.in1.in1 { s with heap := h₁ } a vs ltv)
    (h : ∀ out : List Value, Srtd ltv out → Stb ltv out vs → Q (.ref (s.heap.objs.size + 1)) { s with heap := sortedAll s.heap vs out.toArray }) :
    wpAny (model prog w) A (call (.builtin "sorted") [.ref l]) Q E s := by
  refine Calls.call_function_entry kind_sorted plain_sorted entry_sorted (args_sorted1 _) ?_
  unfold Builtin.«sorted»
  refine wpAny_bind (m := checkCount "sorted" 1 1 _) (wpAny_pure ?_)
  refine wpAny_bind (collect_tup ho hc hd ?_ hz)
  refine wpAny_bind (wpAny_newList ?_ hz)
  have hsz : ((s.heap.push (seqObj "list" #[] 0)).update s.heap.objs.size (Obj.mapSeq (· ++ vs.toArray))).objs.size = s.heap.objs.size + 1 := by
    rw [Heap.size_update, size_push']
  have hoL : (((s.heap.push (seqObj "list" #[] 0)).update s.heap.objs.size (Obj.mapSeq (· ++ vs.toArray))).push (seqObj "list" vs.toArray 0)).get? (s.heap.objs.size + 1) = some (seqObj "list" vs.toArray 0) := by
    rw [← hsz]; exact Heap.get?_push_size _ rfl
  have keep : ∀ b o, s.heap.get? b = some o → b ≠ s.heap.objs.size + 1 ∧ (((s.heap.push (seqObj "list" #[] 0)).update s.heap.objs.size (Obj.mapSeq (· ++ vs.toArray))).push (seqObj "list" vs.toArray 0)).get? b = some o := fun b o q => by
    have hlt : b < s.heap.objs.size := Heap.lt_size q
    refine ⟨Nat.ne_of_lt (Nat.lt_succ_of_lt hlt), Heap.get?_push_of_some _ ?_⟩
    rw [Heap.get?_update_ne _ _ _ _ (Nat.ne_of_lt hlt)]
    exact Heap.get?_push_of_some _ q
  show wpAny _ _ _ _ _ { s with heap := ((s.heap.push (seqObj "list" #[] 0)).update s.heap.objs.size (Obj.mapSeq (· ++ vs.toArray))).push (seqObj "list" vs.toArray 0) }
  rw [hsz]
  refine wpAny_bind (wpAny_holding (wpAny_call_entry slot_list_sort ⟨_, hoL, rfl⟩ entry_list_sort (list_sort_ord O hoL hz (fun h2 => hS h2 _ _ hoL keep) fun out hs hb => ⟨_, rfl, ?_⟩) (args_list_sort _)))
  exact wpAny_pure ⟨_, rfl, h out hs hb⟩
end
end SrtT
namespace L2
open PySem PySem.Spec PyProof.Rows
/-- sorted(xs), a tuple of ints -/
def rSortedTI (K : PySem.W.Frag) : List V → Hp → VK → Prop := fun vs H Q => ∃ (a : Addr) (ns : List Int), vs = [V.ref a] ∧ SqT K H a (ns.map V.int) ∧
  ∀ (ns' : List Int) (p : Addr), ns'.Perm ns → ns'.Pairwise (· ≤ ·) → H p = none → Q (.ref p) (upd H p (.lst (ns'.map V.int)))
section
variable {X : Cx}
theorem cr_sortedTI : CallR X (.builtin "sorted") (rSortedTI X.K) := by
  intro pins s σ H vs us Q I r h
  obtain ⟨a, ns, rfl, hs, q⟩ := h
  obtain ⟨its, rv, ⟨o, ho, hc, n, hd⟩, hz⟩ := I.tuple hs
  rw [Vals.ref1 r]
  have hi := rv.ints
  refine SrtT.sorted_ordT SrtO.swo_int ho hc hd (by rw [← rv.length]; exact hz) (fun h2 h₁ a' _ _ => SrtO.ints_sortable hi h2) fun out h1 h2 => ?_
  obtain ⟨k1, k2, k3⟩ := SrtO.ints_out hi h1 h2
  obtain ⟨ep, he'⟩ := PyProof.Rows.sortedAll_at s.heap its out.toArray
  have hlen : ((out.map SrtO.iv).map V.int).length ≤ sizeLine := by
    rw [List.length_map, k2.length_eq]
    rw [List.length_map] at hz
    exact hz
  exact ⟨.ref _, upd H (s.heap.objs.size + 1) (.lst ((out.map SrtO.iv).map V.int)), I.laid (t' := s.toks) (fun _ _ => PyProof.Rows.sortedAll_old) (Nat.le_succ _) ⟨hlen, out, ep, vals_of_ints k1, he'⟩, rfl, q _ _ k2 k3 (I.hok.fresh (Nat.le_succ _))⟩
end
end L2
namespace Z
open PySem PySem.Spec PyProof.Rows L2
theorem CallR.or {X : Cx} {f : Value} {r r' : List V → Hp → VK → Prop} (h : CallR X f r) (h' : CallR X f r') : CallR X f (fun xs H Q => r xs H Q ∨ r' xs H Q) := by
  intro pins s σ H xs us Q I rx q
  rcases q with q | q
  · exact h pins s σ H xs us Q I rx q
  · exact h' pins s σ H xs us Q I rx q
section
variable {X : Cx} {c : Ctx} {W : XK} {mods m1 m2 m3 : List Nat} {md md1 md2 md3 : Bool} {e a b o : Expr} {es : List Expr} {pos apos cpos tpos p p2 : Pos} {m : M (List D)} {x : Str} {r : List V → Hp → VK → Prop}
/-- f(e, ..), f built-in: a scalar answer -/
theorem zB {id : String} {f : List D → Option D} (hc : CallR X (.builtin id) r) (hr : AnsL c r f) (hv : bootBuiltins x = some (.builtin id)) (hg : Gl X x) (hm : X.mg x = none) (ha : PA X (e :: es) (tA c W md mods m)) (hn : x ≠ "__name__" := by decide) (hdb : (x == ("__debug__" : Str)) = false := by decide)
    (he : starEach (e :: es) X.env = (false, eval e X.env) :: starEach es X.env := by rfl) (hpl : (backTo pos (starEach es X.env)).any (·.1) = false := by rfl) : PE X (.Call (.Name x p) (e :: es) [] pos) (tE c W true mods (m1x f m)) :=
  PEw (pe_callB hc hg hm hv ha hn hdb he hpl) (w_cb hr)
/-- .. a new list -/
def mNew (md : Bool) (f : List D → Option (List D)) (ds : List D) : Option O := (f ds).bind (mkL md)
theorem zBN {id : String} {f : List D → Option (List D)} (hc : CallR X (.builtin id) r) (hr : AnsN c r f) (hv : bootBuiltins x = some (.builtin id)) (hg : Gl X x) (hm : X.mg x = none) (ha : PA X (e :: es) (tA c W md mods m)) (hn : x ≠ "__name__" := by decide) (hdb : (x == ("__debug__" : Str)) = false := by decide)
    (he : starEach (e :: es) X.env = (false, eval e X.env) :: starEach es X.env := by rfl) (hpl : (backTo pos (starEach es X.env)).any (·.1) = false := by rfl) : PE X (.Call (.Name x p) (e :: es) [] pos) (tO c W mods (m1x (mNew md f) m)) :=
  PEw (pe_callB hc hg hm hv ha hn hdb he hpl) (w_cbN hr)
end
/-! ### what they answer -/
def seqD : D → Option (List D)
  | .lst ds => some ds
  | .tup ds => some ds
  | .fls ds => some ds
  | _ => none
def lstD : D → Option (List D)
  | .lst ds => some ds
  | .fls ds => some ds
  | _ => none
def intsD : List D → Option (List Int)
  | [] => some []
  | .int n :: ds => (intsD ds).map (n :: ·)
  | _ :: _ => none
def bsD : List D → Option (List Bool)
  | [] => some []
  | .bl n :: ds => (bsD ds).map (n :: ·)
  | _ :: _ => none
theorem intsD_eq : ∀ {ds : List D} {ns : List Int}, intsD ds = some ns → ds = ns.map D.int
  | [], ns, h => by cases h; rfl
  | .int n :: ds, ns, h => by
    have h' : (intsD ds).map (n :: ·) = some ns := h
    cases hr : intsD ds with
    | none => rw [hr] at h'; cases h'
    | some ms =>
      rw [hr] at h'
      cases h'
      rw [intsD_eq hr]
      rfl
  | .non :: _, _, h => by cases h
  | .bl _ :: _, _, h => by cases h
  | .str _ :: _, _, h => by cases h
  | .lst _ :: _, _, h => by cases h
  | .tup _ :: _, _, h => by cases h
  | .dic _ _ :: _, _, h => by cases h
  | .obj _ _ _ :: _, _, h => by cases h
  | .fls _ :: _, _, h => by cases h
theorem bsD_eq : ∀ {ds : List D} {ns : List Bool}, bsD ds = some ns → ds = ns.map D.bl
  | [], ns, h => by cases h; rfl
  | .bl n :: ds, ns, h => by
    have h' : (bsD ds).map (n :: ·) = some ns := h
    cases hr : bsD ds with
    | none => rw [hr] at h'; cases h'
    | some ms =>
      rw [hr] at h'
      cases h'
      rw [bsD_eq hr]
      rfl
  | .non :: _, _, h => by cases h
  | .int _ :: _, _, h => by cases h
  | .str _ :: _, _, h => by cases h
  | .lst _ :: _, _, h => by cases h
  | .tup _ :: _, _, h => by cases h
  | .dic _ _ :: _, _, h => by cases h
  | .obj _ _ _ :: _, _, h => by cases h
  | .fls _ :: _, _, h => by cases h
theorem RsL.bls {E : Ev} {H : Hp} : ∀ {ns : List Bool} {vs : List V}, RsL E H (ns.map D.bl) vs → vs = ns.map V.bl
  | [], vs, h => by
    unfold RsL at h
    exact h
  | n :: ns, vs, h => by
    have h1 : RsL E H (D.bl n :: ns.map D.bl) vs := h
    unfold RsL at h1
    obtain ⟨v, r, rfl, h2, h3⟩ := h1
    unfold Rs at h2
    rw [h2, RsL.bls h3]
    rfl
theorem lst_at {E : Ev} {H : Hp} {d : D} {v : V} {ds : List D} (h : Rs E H d v) (e : lstD d = some ds) : ∃ a xs, v = .ref a ∧ SqL E.K H a xs ∧ RsL E H ds xs := by
  cases d with
  | lst ds' =>
    cases e
    unfold Rs at h
    obtain ⟨a, xs, h1, h2, h3⟩ := h
    exact ⟨a, xs, h1, SqL.of h2, h3⟩
  | fls ds' =>
    cases e
    unfold Rs at h
    obtain ⟨a, xs, h1, h2, h3⟩ := h
    exact ⟨a, xs, h1, h2, h3⟩
  | _ => cases e
theorem seq_at {E : Ev} {H : Hp} {d : D} {v : V} {ds : List D} (h : Rs E H d v) (e : seqD d = some ds) : ∃ a xs, v = .ref a ∧ (SqL E.K H a xs ∨ SqT E.K H a xs) ∧ RsL E H ds xs := by
  cases d with
  | lst ds' =>
    cases e
    unfold Rs at h
    obtain ⟨a, xs, h1, h2, h3⟩ := h
    exact ⟨a, xs, h1, .inl (SqL.of h2), h3⟩
  | fls ds' =>
    cases e
    unfold Rs at h
    obtain ⟨a, xs, h1, h2, h3⟩ := h
    exact ⟨a, xs, h1, .inl h2, h3⟩
  | tup ds' =>
    cases e
    unfold Rs at h
    obtain ⟨a, xs, h1, h2, h3⟩ := h
    exact ⟨a, xs, h1, .inr h2.sq, h3⟩
  | _ => cases e
/-- one list of ints, a scalar answer -/
def f1L (g : List Int → Option D) : List D → Option D
  | [d] => (lstD d).bind fun ds => (intsD ds).bind g
  | _ => none
def f1B (g : List Bool → Option D) : List D → Option D
  | [d] => (lstD d).bind fun ds => (bsD ds).bind g
  | _ => none
theorem f1B_some {g : List Bool → Option D} {ds : List D} {d : D} (h : f1B g ds = some d) : ∃ d0 es ns, ds = [d0] ∧ lstD d0 = some es ∧ es = ns.map D.bl ∧ g ns = some d := by
  unfold f1B at h
  split at h
  · rename_i d0
    cases h1 : lstD d0 with
    | none => rw [h1] at h; cases h
    | some es =>
      rw [h1, Option.bind_some] at h
      cases h2 : bsD es with
      | none => rw [h2] at h; cases h
      | some ns =>
        rw [h2, Option.bind_some] at h
        exact ⟨d0, es, ns, rfl, h1, bsD_eq h2, h⟩
  · cases h
theorem rs1 {E : Ev} {H : Hp} {d : D} {vs : List V} (h : RsL E H [d] vs) : ∃ v, vs = [v] ∧ Rs E H d v := by
  unfold RsL at h
  obtain ⟨v, r, rfl, h1, h2⟩ := h
  unfold RsL at h2
  subst h2
  exact ⟨v, rfl, h1⟩
theorem rs2 {E : Ev} {H : Hp} {d d' : D} {vs : List V} (h : RsL E H [d, d'] vs) : ∃ v w, vs = [v, w] ∧ Rs E H d v ∧ Rs E H d' w := by
  unfold RsL at h
  obtain ⟨v, r, rfl, h1, h2⟩ := h
  obtain ⟨w, rfl, h3⟩ := rs1 h2
  exact ⟨v, w, rfl, h1, h3⟩
def fLen : List D → Option D
  | [.str z] => match decide (z.length ≤ sizeLine) with
    | true => some (.int z.length)
    | false => none
  | [d] => (seqD d).map fun ds => D.int ds.length
  | _ => none
def fAbs : List D → Option D
  | [.int i] => some (.int (if i < 0 then -i else i))
  | _ => none
def fMax2 : List D → Option D
  | [.int i, .int j] => some (.int (if j > i then j else i))
  | _ => none
def fMin2 : List D → Option D
  | [.int i, .int j] => some (.int (if j < i then j else i))
  | _ => none
def fInt : List D → Option D
  | [.int i] => some (.int i)
  | [.bl k] => some (.int (if k then 1 else 0))
  | _ => none
def maxL : List Int → Option Int
  | [] => none
  | n :: ns => some (ns.foldl (fun a b => if b > a then b else a) n)
def minL : List Int → Option Int
  | [] => none
  | n :: ns => some (ns.foldl (fun a b => if b < a then b else a) n)
def fMaxL : List D → Option D := f1L fun ns => (maxL ns).map D.int
def fMinL : List D → Option D := f1L fun ns => (minL ns).map D.int
def fSum : List D → Option D := f1L fun ns => some (.int ns.sum)
def fAll : List D → Option D := f1B fun bs => some (.bl (bs.all id))
def fAny : List D → Option D := f1B fun bs => some (.bl (bs.any id))
section
variable {c : Ctx}
theorem ans_len {K : PySem.W.Frag} (hK : c.E.K = K) : AnsL c (fun xs H Q => ∃ x n, xs = [x] ∧ LenV K x H n ∧ Q (.int n) H) fLen := fun H ds d vs Q h hf => by
  unfold fLen at hf
  split at hf
  · rename_i z
    obtain ⟨v, rfl, h1⟩ := rs1 h
    unfold Rs at h1
    subst h1
    cases hz : decide (z.length ≤ sizeLine) with
    | false => rw [hz] at hf; cases hf
    | true =>
      rw [hz] at hf
      cases hf
      exact ⟨rfl, fun k => ⟨_, z.length, rfl, ⟨of_decide_eq_true hz, rfl⟩, k _ (by unfold Rs; rfl)⟩⟩
  · rename_i d0 _
    obtain ⟨v, rfl, h1⟩ := rs1 h
    cases hs : seqD d0 with
    | none => rw [hs] at hf; cases hf
    | some es =>
      rw [hs] at hf
      cases hf
      obtain ⟨a, xs, rfl, h2, h3⟩ := seq_at h1 hs
      rw [hK] at h2
      exact ⟨rfl, fun k => ⟨_, es.length, rfl, h2.imp (fun q => ⟨xs, q, RsL.length h3⟩) fun q => ⟨xs, q, RsL.length h3⟩, k _ (by unfold Rs; rfl)⟩⟩
  · cases hf
theorem ans_abs : AnsL c (fun xs H Q => ∃ i, xs = [.int i] ∧ Q (.int (if i < 0 then -i else i)) H) fAbs := fun H ds d vs Q h hf => by
  unfold fAbs at hf
  split at hf
  · cases hf
    obtain ⟨v, rfl, h1⟩ := rs1 h
    unfold Rs at h1
    subst h1
    exact ⟨rfl, fun k => ⟨_, rfl, k _ (by unfold Rs; rfl)⟩⟩
  · cases hf
theorem ans_all {K : PySem.W.Frag} (hK : c.E.K = K) : AnsL c (rAll K) fAll := fun H ds d vs Q h hf => by
  obtain ⟨d0, es, ns, rfl, h1, rfl, h2⟩ := f1B_some hf
  cases h2
  obtain ⟨v, rfl, h3⟩ := rs1 h
  obtain ⟨a, xs, rfl, h4, h5⟩ := lst_at h3 h1
  rw [RsL.bls h5] at h4
  exact ⟨rfl, fun k => ⟨a, ns, rfl, hK ▸ h4, k _ (by unfold Rs; rfl)⟩⟩
end
/-! ### list(x), sorted(x) -/
def gList : List D → Option (List D)
  | [d] => seqD d
  | _ => none
/-- ints in order -/
def srtI (ns : List Int) : List Int := ns.mergeSort fun a b => decide (a ≤ b)
theorem srtI_perm (ns : List Int) : (srtI ns).Perm ns := List.mergeSort_perm _ _
theorem srtI_sorted (ns : List Int) : (srtI ns).Pairwise (· ≤ ·) := by
  have h := List.pairwise_mergeSort (le := fun a b : Int => decide (a ≤ b)) (fun a b c h1 h2 => decide_eq_true (Int.le_trans (of_decide_eq_true h1) (of_decide_eq_true h2))) (fun a b => by
    rcases Int.le_total a b with q | q
    · simp [q]
    · simp [q]) ns
  exact h.imp fun q => of_decide_eq_true q
theorem srtI_uniq {ns ms : List Int} (p : ms.Perm ns) (s : ms.Pairwise (· ≤ ·)) : ms = srtI ns :=
  List.Perm.eq_of_pairwise (le := (· ≤ ·)) (fun a b _ _ h1 h2 => Int.le_antisymm h1 h2) s (srtI_sorted ns) (p.trans (srtI_perm ns).symm)
def lexLe (a b : Int × Int) : Bool := decide (a.1 < b.1 ∨ (a.1 = b.1 ∧ a.2 ≤ b.2))
def srtP (ps : List (Int × Int)) : List (Int × Int) := ps.mergeSort lexLe
theorem lex_trans (a b c : Int × Int) (h1 : lexLe a b = true) (h2 : lexLe b c = true) : lexLe a c = true := by
  unfold lexLe at *
  have := of_decide_eq_true h1
  have := of_decide_eq_true h2
  exact decide_eq_true (by omega)
theorem lex_total (a b : Int × Int) : (lexLe a b || lexLe b a) = true := by
  unfold lexLe
  by_cases h : a.1 < b.1 ∨ (a.1 = b.1 ∧ a.2 ≤ b.2)
  · rw [decide_eq_true h]; rfl
  · rw [decide_eq_false h, decide_eq_true (by omega)]; rfl
theorem srtP_perm (ns : List (Int × Int)) : (srtP ns).Perm ns := List.mergeSort_perm _ _
theorem srtP_sorted (ns : List (Int × Int)) : (srtP ns).Pairwise fun a b => lexLe a b = true := List.pairwise_mergeSort lex_trans lex_total ns
theorem srtP_uniq {ns ms : List (Int × Int)} (p : ms.Perm ns) (s : ms.Pairwise fun a b => lexLe a b = true) : ms = srtP ns :=
  List.Perm.eq_of_pairwise (le := fun a b => lexLe a b = true) (fun a b _ _ h1 h2 => by
    unfold lexLe at h1 h2
    have h3 := of_decide_eq_true h1
    have h4 := of_decide_eq_true h2
    exact Prod.ext (by omega) (by omega)) s (srtP_sorted ns) (p.trans (srtP_perm ns).symm)
def pairsD : List D → Option (List (Int × Int))
  | [] => some []
  | .tup [.int a, .int b] :: ds => (pairsD ds).map ((a, b) :: ·)
  | _ :: _ => none
def pairD (q : Int × Int) : D := .tup [.int q.1, .int q.2]
theorem pairsD_eq : ∀ {ds : List D} {ns : List (Int × Int)}, pairsD ds = some ns → ds = ns.map pairD
  | [], ns, h => by cases h; rfl
  | d :: ds, ns, h => by
    unfold pairsD at h
    split at h
    · rename_i e; cases e
    · rename_i a b ds' e
      cases e
      cases hr : pairsD ds with
      | none => rw [hr] at h; cases h
      | some ms =>
        rw [hr] at h
        cases h
        rw [pairsD_eq hr]
        rfl
    · cases h
def gSort : List D → Option (List D)
  | [.tup ds] => (intsD ds).map fun ns => (srtI ns).map D.int
  | [d] => (lstD d).bind fun ds => match intsD ds with
    | some ns => some ((srtI ns).map D.int)
    | none => match pairsD ds with
      | some ps => some ((srtP ps).map pairD)
      | none => none
  | _ => none
theorem RsL.mem {E : Ev} {H : Hp} : ∀ {ds : List D} {vs : List V} {v : V}, RsL E H ds vs → v ∈ vs → ∃ d ∈ ds, Rs E H d v
  | [], vs, v, h, hv => by
    unfold RsL at h
    subst h
    cases hv
  | d :: ds, vs, v, h, hv => by
    unfold RsL at h
    obtain ⟨w, r, rfl, h2, h3⟩ := h
    rcases List.mem_cons.mp hv with q | q
    · exact ⟨d, List.mem_cons_self, q ▸ h2⟩
    · obtain ⟨d', h4, h5⟩ := RsL.mem h3 q
      exact ⟨d', List.mem_cons_of_mem _ h4, h5⟩
theorem pair_at {E : Ev} {H : Hp} {q : Int × Int} {v : V} (h : Rs E H (pairD q) v) : ∃ t, v = .ref t ∧ H t = some (.tup [.int q.1, .int q.2]) := by
  unfold pairD Rs at h
  obtain ⟨a, xs, rfl, h2, h3⟩ := h
  obtain ⟨v, w, rfl, h4, h5⟩ := rs2 h3
  unfold Rs at h4 h5
  subst h4 h5
  rcases h2 with h2 | ⟨h2, _⟩
  · exact ⟨a, rfl, h2⟩
  · cases h2
/-- a way to tell a pair's ints from its place -/
noncomputable def pk (H : Hp) (v : V) : Int × Int := match v with
  | .ref t => match H t with
    | some (.tup [.int a, .int b]) => (a, b)
    | _ => (0, 0)
  | _ => (0, 0)
theorem pk_at {E : Ev} {H : Hp} {q : Int × Int} {v : V} (h : Rs E H (pairD q) v) : pk H v = q := by
  obtain ⟨t, rfl, h2⟩ := pair_at h
  simp only [pk, h2]
theorem pk_map {E : Ev} {H : Hp} : ∀ {ps : List (Int × Int)} {vs : List V}, RsL E H (ps.map pairD) vs → vs.map (pk H) = ps
  | [], vs, h => by
    have h' : RsL E H [] vs := h
    unfold RsL at h'
    subst h'
    rfl
  | p :: ps, vs, h => by
    have h' : RsL E H (pairD p :: ps.map pairD) vs := h
    unfold RsL at h'
    obtain ⟨v, r, rfl, h2, h3⟩ := h'
    rw [List.map_cons, pk_at h2, pk_map h3]
theorem of_pk {E : Ev} {H : Hp} {qs : List (Int × Int)} : ∀ {ps : List (Int × Int)} {vs : List V}, (∀ v ∈ vs, Rs E H (pairD (pk H v)) v) → vs.map (pk H) = ps → RsL E H (ps.map pairD) vs
  | [], vs, h, e => by
    have : vs = [] := List.map_eq_nil_iff.mp e
    subst this
    exact .nil
  | p :: ps, vs, h, e => by
    cases vs with
    | nil => cases e
    | cons v vs =>
      rw [List.map_cons] at e
      obtain ⟨e1, e2⟩ := List.cons.inj e
      have h1 := h v List.mem_cons_self
      rw [e1] at h1
      exact .cons h1 (of_pk (qs := qs) (fun w hw => h w (List.mem_cons_of_mem _ hw)) e2)
theorem lex_of {a b : Int × Int} (h : SrtO.lexB b a = false) : lexLe a b = true := by
  have := SrtO.lexB_no.mp h
  unfold lexLe
  exact decide_eq_true (by omega)
theorem ans_sort {c : Ctx} {K : PySem.W.Frag} (hK : c.E.K = K) : AnsN c (fun xs H Q => (rSortedI K xs H Q ∨ rSortedPO K xs H Q) ∨ rSortedTI K xs H Q) gSort := fun h H ds es vs Q e hs hf k => by
  unfold gSort at hf
  split at hf
  · rename_i ds
    obtain ⟨v, rfl, h3⟩ := rs1 hs
    unfold Rs at h3
    obtain ⟨a, xs, rfl, h4, h5⟩ := h3
    obtain ⟨ns, hi, rfl⟩ := Option.map_eq_some_iff.mp hf
    have := intsD_eq hi
    subst this
    rw [RsL.ints h5] at h4
    refine .inr ⟨a, ns, rfl, hK ▸ e.seqt h4.sq, fun ns' p hp hw hH => ?_⟩
    rw [srtI_uniq hp hw]
    exact k p _ hH .of_ints
  · rename_i d0 _
    obtain ⟨v, rfl, h3⟩ := rs1 hs
    cases hl : lstD d0 with
    | none => rw [hl] at hf; cases hf
    | some ds =>
      rw [hl, Option.bind_some] at hf
      obtain ⟨a, xs, rfl, h4, h5⟩ := lst_at h3 hl
      cases hi : intsD ds with
      | some ns =>
        rw [hi] at hf
        cases hf
        have := intsD_eq hi
        subst this
        rw [RsL.ints h5] at h4
        refine .inl (.inl ⟨a, ns, rfl, hK ▸ e.seql h4, fun ns' p hp hw hH => ?_⟩)
        rw [srtI_uniq hp hw]
        exact k p _ hH .of_ints
      | none =>
        rw [hi] at hf
        cases hq : pairsD ds with
        | none => rw [hq] at hf; cases hf
        | some ps =>
          rw [hq] at hf
          cases hf
          have := pairsD_eq hq
          subst this
          have hx : ∀ x ∈ xs, Rs c.E h (pairD (pk h x)) x := fun x hx => by
            obtain ⟨d, hd, r⟩ := RsL.mem h5 hx
            obtain ⟨q, _, rfl⟩ := List.mem_map.mp hd
            rw [pk_at r]
            exact r
          refine .inl (.inr ⟨a, xs, pk h, rfl, hK ▸ e.seql h4, fun x hx' => ?_, fun ys p hsrt hstb hH => k p ys hH ?_⟩)
          · obtain ⟨t, rfl, ht⟩ := pair_at (Rs.mono e (hx x hx'))
            exact ⟨t, rfl, ht⟩
          · refine of_pk (qs := []) (fun y hy => hx y (hstb.perm.mem_iff.mp hy)) ?_
            have e1 : xs.map (pk h) = ps := pk_map h5
            have pm : (ys.map (pk h)).Perm ps := by rw [← e1]; exact hstb.perm.map _
            exact srtP_uniq pm (List.pairwise_map.mpr (hsrt.imp fun q => lex_of q))
  · cases hf
end Z

/-! Z19: slices, lists joined, repeated; tuple(x); list(range(..)). -/
namespace Z
open PySem PySem.Spec PyProof.Rows L2
def tQ (c : Ctx) (X : XK) (mods : List Nat) (m : M (Option Int)) : TO := fun σ H Q => ∃ G S As τ, Real c G S As τ σ H ∧ fin c X (m S) fun o S' =>
  ∀ G' As' H', Real c G' S' As' τ σ H' → Post mods S S' As As' G G' H H' → Q o H'
def mPart (m : M D) : M (Option Int) := fun S => (m S).bd fun d S => match d with
  | .int i => .ok (some i) S
  | _ => .bad
def cutD (ds : List D) (lo hi : Option Int) : List D := (ds.drop (HT.sIx ds.length 0 lo)).take (HT.sIx ds.length ds.length hi - HT.sIx ds.length 0 lo)
def mSl (md : Bool) (m : M D) (ml mh : M (Option Int)) : M O := fun S => (m S).bd fun d S1 => (ml S1).bd fun lo S2 => (mh S2).bd fun hi S3 => match lstD d with
  | some ds => oo (mkL md (cutD ds lo hi)) S3
  | none => .bad
theorem RsL.drop {E : Ev} {H : Hp} : ∀ {ds : List D} {vs : List V} (n : Nat), RsL E H ds vs → RsL E H (ds.drop n) (vs.drop n)
  | ds, vs, 0, h => h
  | [], vs, n + 1, h => by
    unfold RsL at h
    subst h
    exact .nil
  | d :: ds, vs, n + 1, h => by
    unfold RsL at h
    obtain ⟨v, r, rfl, h2, h3⟩ := h
    exact RsL.drop n h3
theorem RsL.take {E : Ev} {H : Hp} : ∀ {ds : List D} {vs : List V} (n : Nat), RsL E H ds vs → RsL E H (ds.take n) (vs.take n)
  | ds, vs, 0, h => by
    show RsL E H [] []
    exact .nil
  | [], vs, n + 1, h => by
    unfold RsL at h
    subst h
    exact .nil
  | d :: ds, vs, n + 1, h => by
    unfold RsL at h
    obtain ⟨v, r, rfl, h2, h3⟩ := h
    exact .cons h2 (RsL.take n h3)
theorem RsL.cut {E : Ev} {H : Hp} {ds : List D} {vs : List V} (lo hi : Option Int) (h : RsL E H ds vs) : RsL E H (cutD ds lo hi) (cutV vs lo hi) := by
  unfold cutD cutV
  rw [RsL.length h]
  exact RsL.take _ (RsL.drop _ h)
theorem RsL.rev {E : Ev} {H : Hp} : ∀ {ds : List D} {vs : List V}, RsL E H ds vs → RsL E H ds.reverse vs.reverse
  | [], vs, h => by
    unfold RsL at h
    subst h
    exact .nil
  | d :: ds, vs, h => by
    unfold RsL at h
    obtain ⟨v, r, rfl, h2, h3⟩ := h
    rw [List.reverse_cons, List.reverse_cons]
    exact RsL.append (RsL.rev h3) (.cons h2 .nil)
theorem RsL.rep {E : Ev} {H : Hp} {ds : List D} {vs : List V} (h : RsL E H ds vs) : ∀ n : Nat, RsL E H (List.replicate n ds).flatten (List.replicate n vs).flatten
  | 0 => .nil
  | n + 1 => by
    rw [List.replicate_succ, List.replicate_succ]
    exact RsL.append h (RsL.rep h n)
section
variable {X : Cx} {c : Ctx} {W : XK} {mods m1 m2 m3 : List Nat} {md md1 md2 md3 : Bool} {e a b o : Expr} {es : List Expr} {pos apos cpos tpos p p2 p3 : Pos} {m ma mb : M D} {ml mh : M (Option Int)} {x : Str} {lo hi : Option Expr}
theorem POw {e : Option Expr} {t t' : TO} (h : PO X e t) (w : ∀ σ H Q, t' σ H Q → t σ H Q) : PO X e t' := ⟨fun pins s σ H Q I q => h.run pins s σ H Q I (w σ H Q q)⟩
theorem zP0 : PO X none (tQ c W [] (mC none)) := POw po_none fun σ H Q ⟨G, S, As, τ, R, q⟩ => q G As H R Post.refl
theorem zP1 (h : PE X e (tE c W md mods m)) : PO X (some e) (tQ c W mods (mPart m)) := POw (po_some h) fun σ H Q ⟨G, S, As, τ, R, q⟩ => by
  refine ⟨G, S, As, τ, R, fin_mono (fin_bd q) fun d S1 e1 k => ?_⟩
  intro v G1 As1 H1 R1 P1 r1
  cases d with
  | int i =>
    unfold Rs at r1
    exact ⟨i, r1, k G1 As1 H1 R1 P1⟩
  | _ => exact k.elim
theorem rs_later2 {G1 G2 H1 H2 : Hp} {S1 S2 : List Sl} {As1 As2 : Nat → List Addr} {d : D} {v : V} {n1 n2 : List Nat} (hm : (md1 || (n1.isEmpty && n2.isEmpty)) = true) (P : Post (n1 ++ n2) S1 S2 As1 As2 G1 G2 H1 H2) (h : Rs c.E (hp md1 G1 H1) d v) : Rs c.E (hp md1 G2 H2) d v := by
  refine rs_later (m2 := n1 ++ n2) ?_ P h
  cases md1 with
  | true => rfl
  | false =>
    cases n1 <;> cases n2 <;> first | rfl | cases hm
theorem zSl (h : PE X e (tE c W md m1 m)) (hl : PO X lo (tQ c W m2 ml)) (hh : PO X hi (tQ c W m3 mh)) (hm : (md || (m2.isEmpty && m3.isEmpty)) = true := by rfl) (hK : c.E.K = X.K) : PE X (.Subscript e (.Slice lo hi none p2) pos) (tO c W (m1 ++ (m2 ++ m3)) (mSl md m ml mh)) :=
  PEw (pe_slice sl_list h hl hh) fun σ H Q ⟨G, S, As, τ, R, q⟩ => by
    refine ⟨G, S, As, τ, R, fin_mono (fin_bd q) fun d S1 e1 k => ?_⟩
    intro v G1 As1 H1 R1 P1 r1
    refine ⟨G1, S1, As1, τ, R1, fin_mono (fin_bd k) fun l S2 e2 k2 => ?_⟩
    intro G2 As2 H2 R2 P2
    refine ⟨G2, S2, As2, τ, R2, fin_mono (fin_bd k2) fun u S3 e3 k3 => ?_⟩
    intro G3 As3 H3 R3 P3
    have P23 := P2.trans P3
    have r3 := rs_later2 hm P23 r1
    cases hd : lstD d with
    | none => rw [hd] at k3; exact k3.elim
    | some ds =>
      rw [hd] at k3
      simp only at k3
      obtain ⟨a, xs, rfl, h4, h5⟩ := lst_at r3 hd
      cases ho : mkL md (cutD ds l u) with
      | none => rw [ho] at k3; exact k3.elim
      | some o =>
        rw [ho] at k3
        refine ⟨a, xs, rfl, hK ▸ (hp_ex (md := md) R3.exG).seql h4, fun p hp0 => ?_⟩
        exact new_list (md := md) R3 (P1.trans P23) hp0 (h5.cut l u) ho k3
def m1N (md : Bool) (f : D → Option (List D)) (m : M D) : M O := m1x (fun d => (f d).bind (mkL md)) m
def dRevL (d : D) : Option (List D) := (lstD d).map List.reverse
theorem zRev {k : Nat} {q1 q2 q3 : Pos} (hK : c.E.K = X.K) (h : PE X e (tE c W md mods m)) : PE X (.Subscript e (.Slice none none (some (.UnaryOp .USub (.Constant (.int 1) k q1) q2)) q3) pos) (tO c W mods (m1N md dRevL m)) := PEw (pe_revL h) fun σ H Q ⟨G, S, As, τ, R, q⟩ => by
  refine ⟨G, S, As, τ, R, fin_mono (fin_bd q) fun d S1 e1 k => ?_⟩
  intro v G1 As1 H1 R1 P1 r1
  have k' : fin c W (oo ((dRevL d).bind (mkL md)) S1) _ := k
  unfold dRevL at k'
  cases hd : lstD d with
  | none => rw [hd] at k'; exact k'.elim
  | some ds =>
    rw [hd] at k'
    have k2 : fin c W (oo (mkL md ds.reverse) S1) _ := k'
    obtain ⟨a, xs, rfl, h4, h5⟩ := lst_at r1 hd
    cases ho : mkL md ds.reverse with
    | none => rw [ho] at k2; exact k2.elim
    | some o =>
      rw [ho] at k2
      exact ⟨a, xs, rfl, hK ▸ (hp_ex (md := md) R1.exG).seql h4, fun p hp0 => new_list (md := md) R1 P1 hp0 h5.rev ho k2⟩
/-- two lists: a new one; an own kind of binary operation -/
def AnsN2 (c : Ctx) (r : R2) (f : D → D → Option (List D)) : Prop := ∀ (h H : Hp) (dx dy : D) (es : List D) (x y : V) (Q : VK), Ex h H → Rs c.E h dx x → Rs c.E h dy y → f dx dy = some es →
  (∀ p xs, H p = none → RsL c.E h es xs → Q (.ref p) (upd H p (.lst xs))) → r x y H Q
def m2N (md : Bool) (f : D → D → Option (List D)) (ma mb : M D) : M O := m2x (fun x y => (f x y).bind (mkL md)) ma mb
theorem w_opN {r : R2} {f : D → D → Option (List D)} (hr : AnsN2 c r f) (hm : (md || m2.isEmpty) = true) (σ : L2.St) (H : Hp) (Q : VK) (h : tO c W (m1 ++ m2) (m2N md f ma mb) σ H Q) : tOp r (tE c W md m1 ma) (tE c W md m2 mb) σ H Q := by
  obtain ⟨G, S, As, τ, R, q⟩ := h
  refine ⟨G, S, As, τ, R, fin_mono (fin_bd q) fun dx S1 e1 k => ?_⟩
  intro v G1 As1 H1 R1 P1 r1
  refine ⟨G1, S1, As1, τ, R1, fin_mono (fin_bd k) fun dy S2 e2 k2 => ?_⟩
  intro u G2 As2 H2 R2 P2 r2
  have k' : fin c W (oo ((f dx dy).bind (mkL md)) S2) _ := k2
  cases hf : f dx dy with
  | none => rw [hf] at k'; exact k'.elim
  | some es =>
    rw [hf, Option.bind_some] at k'
    cases ho : mkL md es with
    | none => rw [ho] at k'; exact k'.elim
    | some o =>
      rw [ho] at k'
      exact hr (hp md G2 H2) H2 dx dy es v u Q (hp_ex R2.exG) (rs_later hm P2 r1) r2 hf fun p xs hp0 rx => new_list R2 (P1.trans P2) hp0 rx ho k'
def dCat : D → D → Option (List D)
  | .lst xs, .lst ys => match decide (xs.length + ys.length ≤ sizeLine) with
    | true => some (xs ++ ys)
    | false => none
  | _, _ => none
def dRep : D → D → Option (List D)
  | .lst xs, .int k => match decide (-(2 ^ 63) ≤ k ∧ k < 2 ^ 63 ∧ xs.length * k.toNat ≤ sizeLine) with
    | true => some (List.replicate k.toNat xs).flatten
    | false => none
  | _, _ => none
theorem ans_cat : AnsN2 c rCat dCat := fun h H dx dy es x y Q e rx ry hf k => by
  unfold dCat at hf
  split at hf
  · rename_i xs ys
    cases hd : decide (xs.length + ys.length ≤ sizeLine) with
    | false => rw [hd] at hf; cases hf
    | true =>
      rw [hd] at hf
      cases hf
      unfold Rs at rx ry
      obtain ⟨a, us, rfl, h2, h3⟩ := rx
      obtain ⟨b, ws, rfl, h4, h5⟩ := ry
      refine ⟨a, b, us, ws, rfl, rfl, e.hard h2 rfl, e.hard h4 rfl, by rw [← RsL.length h3, ← RsL.length h5]; exact of_decide_eq_true hd, fun p hp0 => k p _ hp0 (RsL.append h3 h5)⟩
  · cases hf
theorem ans_rep : AnsN2 c rRep dRep := fun h H dx dy es x y Q e rx ry hf k => by
  unfold dRep at hf
  split at hf
  · rename_i xs n
    cases hd : decide (-(2 ^ 63) ≤ n ∧ n < 2 ^ 63 ∧ xs.length * n.toNat ≤ sizeLine) with
    | false => rw [hd] at hf; cases hf
    | true =>
      rw [hd] at hf
      cases hf
      unfold Rs at rx ry
      obtain ⟨a, us, rfl, h2, h3⟩ := rx
      have hd' := of_decide_eq_true hd
      exact ⟨a, n, us, rfl, ry, e.hard h2 rfl, hd'.1, hd'.2.1, by rw [← RsL.length h3]; exact hd'.2.2, fun p hp0 => k p _ hp0 (h3.rep _)⟩
  · cases hf
theorem zCat (ha : PE X a (tE c W md m1 ma)) (hb : PE X b (tE c W md m2 mb)) (hm : (md || m2.isEmpty) = true := by rfl) : PE X (.BinOp a .Add b pos) (tO c W (m1 ++ m2) (m2N md dCat ma mb)) := PEw (pe_op op_cat ha hb) (w_opN ans_cat hm)
theorem zRep (ha : PE X a (tE c W md m1 ma)) (hb : PE X b (tE c W md m2 mb)) (hm : (md || m2.isEmpty) = true := by rfl) : PE X (.BinOp a .Mult b pos) (tO c W (m1 ++ m2) (m2N md dRep ma mb)) := PEw (pe_op op_rep ha hb) (w_opN ans_rep hm)
/-- tuple(x) -/
def dTupOf : D → Option O
  | .lst ds => some (.tup (ds.map .sh))
  | .fls ds => some (.tup (ds.map .sh))
  | .tup ds => some (.sh (.tup ds))
  | _ => none
theorem new_tup {G G1 H1 H0 : Hp} {S S1 : List Sl} {As As1 : Nat → List Addr} {τ : List V} {σ : L2.St} {es : List D} {xs : List V} {p : Addr} {Q : VK} (R1 : Real c G1 S1 As1 τ σ H1) (P1 : Post mods S S1 As As1 G G1 H0 H1) (hp0 : H1 p = none)
    (r : RsL c.E G1 es xs)
    (k : ∀ v A G' As' H', Real c G' S1 As' τ σ H' → Post mods S S1 As As' G G' H0 H' → Ro c.E G' H' (.tup (es.map .sh)) v A → New c G' As' A → Frs mods As H0 A → Q v H') : Q (.ref p) (upd H1 p (.tup xs)) := by
  have R2 := R1.keep (Keep.new (o := .tup xs) hp0)
  have P2 : Post mods S1 S1 As1 As1 G1 G1 H1 (upd H1 p (.tup xs)) := Post.of_keep (Ex.refl _) (Keep.new hp0) fun _ _ => rfl
  refine k (.ref p) [p] G1 As1 _ R2 ((P1.trans P2).mono fun j hj => (List.mem_append.mp hj).elim id id) ?_ (R1.new1 hp0) (Frs.one P1 hp0)
  unfold Ro
  exact ⟨p, xs, [], rfl, rfl, upd_same, RoL.sh r⟩
theorem zTupOf (hK : c.E.K = X.K) (hg : Gl X "tuple") (hmg : X.mg "tuple" = none) (h : PE X e (tE c W true mods m)) (na : starEach [e] X.env = (false, eval e X.env) :: starEach [] X.env := by rfl) : PE X (.Call (.Name "tuple" p) [e] [] pos) (tO c W mods (m1x dTupOf m)) :=
  PEw (pe_tupleOf hg hmg h na) fun σ H Q ⟨G, S, As, τ, R, q⟩ => by
    refine ⟨G, S, As, τ, R, fin_mono (fin_bd q) fun d S1 e1 k => ?_⟩
    intro v G1 As1 H1 R1 P1 r1
    cases d with
    | lst ds =>
      obtain ⟨a, xs, rfl, h4, h5⟩ := lst_at (d := .lst ds) r1 rfl
      exact .inl ⟨a, xs, rfl, hK ▸ R1.exG.seql h4, fun p hp0 => new_tup R1 P1 hp0 h5 k⟩
    | fls ds =>
      obtain ⟨a, xs, rfl, h4, h5⟩ := lst_at (d := .fls ds) r1 rfl
      exact .inl ⟨a, xs, rfl, hK ▸ R1.exG.seql h4, fun p hp0 => new_tup R1 P1 hp0 h5 k⟩
    | tup ds =>
      have r1' : Rs c.E G1 (.tup ds) v := r1
      unfold Rs at r1
      obtain ⟨a, xs, rfl, h4, h5⟩ := r1
      exact .inr ⟨a, xs, rfl, hK ▸ R1.exG.seqt h4.sq, k (.ref a) [] G1 As1 H1 R1 P1 (by unfold Ro; exact ⟨rfl, r1'⟩) New.nil (fun _ z => nomatch z)⟩
    | _ => exact k.elim
/-- range(..) as an argument -/
def rgD (a b : Int) : List D := (List.range (b - a).toNat).map fun i => D.int (a + (i : Nat))
def rgOk (a b : Int) : Bool := decide (-(2 ^ 62) ≤ a ∧ a < 2 ^ 62 ∧ -(2 ^ 62) ≤ b ∧ b < 2 ^ 62 ∧ (b - a).toNat ≤ 2 ^ 24)
def dRg (x y : D) : Option (List D) := match x, y with
  | .int a, .int b => match rgOk a b with
    | true => some (rgD a b)
    | false => none
  | _, _ => none
end
end Z

/-! Z20: comprehensions whose items are own; enumerate, zip; attributes set. -/
namespace Z
open PySem PySem.Spec PyProof.Rows L2
/-- nodes made on the way -/
structure Made (c : Ctx) (G : Hp) (As : Nat → List Addr) (mods : List Nat) (As1 : Nat → List Addr) (H1 : Hp) (D : Addr) (B : List Addr) : Prop where
  nd : B.Nodup
  h0 : ∀ b ∈ B, c.H0 b = none
  g : ∀ b ∈ B, G b = none
  out : ∀ b ∈ B, ∀ j, b ∉ As j
  fr : Frs mods As1 H1 B
  ne : D ∉ B
theorem Made.nil {c : Ctx} {G : Hp} {As : Nat → List Addr} {mods : List Nat} {As1 : Nat → List Addr} {H1 : Hp} {D : Addr} : Made c G As mods As1 H1 D [] :=
  ⟨List.nodup_nil, (fun _ z => nomatch z), (fun _ z => nomatch z), (fun _ z => nomatch z), (fun _ z => nomatch z), fun z => nomatch z⟩
theorem Made.new {c : Ctx} {G : Hp} {As : Nat → List Addr} {mods : List Nat} {As1 : Nat → List Addr} {H1 : Hp} {D : Addr} {B : List Addr} (m : Made c G As mods As1 H1 D B) : New c G As B := ⟨m.nd, m.h0, m.g, m.out⟩
section
variable {X : Cx} {c : Ctx} {W : XK} {mods m1 m2 m3 vs ts : List Nat} {elt tg iter : Expr} {mi : M (List D)} {g : Tg} {t : M Bool} {me : M O}
end
end Z

/-! Z21: enumerate, zip; attributes set; two names at once. -/
namespace Z
open PySem PySem.Spec PyProof.Rows L2
def enumFrom (n : Nat) : List D → List D
  | [] => []
  | d :: ds => .tup [.int n, d] :: enumFrom (n + 1) ds
def enumD (ds : List D) : List D := enumFrom 0 ds
section
variable {E : Ev} {G : Hp}
end
def itEn : List D → Option (List D)
  | [d] => (lstD d).map enumD
  | _ => none
def itZp : List D → Option (List D)
  | [d, e] => (lstD d).bind fun ds => (lstD e).map fun es => List.zipWith (fun x y => D.tup [x, y]) ds es
  | _ => none
section
variable {X : Cx} {c : Ctx} {W : XK} {mods m1 m2 m3 : List Nat} {md : Bool} {e a b o : Expr} {es elts : List Expr} {pos p tpos apos : Pos} {kk : Nat} {m : M (List D)} {mo : M O} {mp : M (List Stp)} {i : Nat}
end
/-! ### attributes set -/
section
variable {X : Cx} {c : Ctx} {W : XK} {mods m1 m2 m3 : List Nat} {md : Bool} {e a b o : Expr} {es elts : List Expr} {pos p tpos apos : Pos} {kk : Nat} {m : M (List D)} {mo : M O} {mp : M (List Stp)} {i : Nat}
end
end Z

set_option maxHeartbeats 4000000
/-! Z21b: set(xs) of a long list of ints with few unlike ones. -/
namespace ZF
open PySem PySem.Spec PyProof.Rows L2
theorem met_mono (val : Nat → Int) {i : Nat} : ∀ d, (firstMet val i).length ≤ (firstMet val (i + d)).length
  | 0 => Nat.le_refl _
  | d + 1 => by
    have ih := met_mono val (i := i) d
    have e : firstMet val (i + (d + 1)) = step_dedup (firstMet val (i + d)) (val (i + d)) := firstMet_succ val (i + d)
    rw [e, step_length]
    split <;> omega
section
variable {P : Program} {w : World} {A : Around} {E : Value → Shared → Prop} {s : Shared}
def Met (P : Program) (w : World) (S : Addr) (val : Nat → Int) (i : Nat) (h : Heap) : Prop := h.SetOf (intKind P w) S (fun j => (firstMet val i).any (· == j)) (firstMet val i).length
theorem Met.keep {S : Addr} {val : Nat → Int} {i : Nat} {h h' : Heap} (m : Met P w S val i h) (k : ∀ o, h.get? S = some o → h'.get? S = some o) : Met P w S val i h' := by
  obtain ⟨o, es, ep, tb, ho, r⟩ := m
  exact ⟨o, es, ep, tb, k o ho, r⟩
theorem loop_few {I : Addr} {fp wr : List Addr} {G : Array GenState → Array GenState → Prop} {n : Nat} {Pv : Nat → Value → Prop} {St : Nat → Shared → Prop} {R : Result → Shared → Prop}
    (W : WalksS P w A.in1 I fp wr G n Pv St) (S : Addr) (out : S ∉ fp) (val : Nat → Int) (hval : ∀ i v, Pv i v → ∃ t, v = .int (val i) t) (few : (firstMet val n).length + 1 < scanBound) (k : Nat) :
    ∀ (i : Nat) (s : Shared), i + k = n → St i s → Met P w S val i s.heap → (∀ s', Moved (S :: wr) G s s' → Met P w S val n s'.heap → R (.ok (.ret .none)) s') → codeAny (model P w) A (.builtin "set.update.loop" ⟨[.ref S, .ref I], []⟩) R s := by
  have notw : S ∉ wr := fun z => out (W.sub _ z)
  have more : ∀ a ∈ wr, a ∈ S :: wr := fun a h => List.mem_cons_of_mem _ h
  induction k with
  | zero =>
    intro i s e hst m fin
    obtain rfl : i = n := e
    refine codeAny_builtin PyProof.Rows.F.entry_set_update_loop ?_
    rw [Around.under_plainId PyProof.Rows.F.plain_set_update_loop _]
    refine wpAny_bind (m := pyNext (.ref I)) (W.done s _ _ hst fun s' mv => ?_)
    exact wpAny_pure (fin s' (mv.mono more) (m.keep fun o => mv.heap S o notw))
  | succ k ih =>
    intro i s e hst m fin
    refine codeAny_builtin PyProof.Rows.F.entry_set_update_loop ?_
    rw [Around.under_plainId PyProof.Rows.F.plain_set_update_loop _]
    refine wpAny_bind (m := pyNext (.ref I)) (W.item i s _ _ (by omega) hst fun v s' pv hst' mv => ?_)
    obtain ⟨t, rfl⟩ := hval i v pv
    have m' := m.keep fun o => mv.heap S o notw
    have up := met_mono val (i := i) (k + 1)
    rw [e] at up
    refine wpAny_bind (m := holding [Value.int (val i) t] (setAdd S (.int (val i) t))) (wpAny_holding (?_ : wpAny _ _ (setAdd S (.int (val i) t)) _ _ _))
    unfold setAdd
    refine wpAny_holding (wpAny_bind ((intKind P w).pyHash (k := val i) (intKind_is _ _ _ _) ?_))
    refine wpAny_setAddHashed_of (knd := intKind P w) (s := { s' with toks := s'.toks + 1 }) (intKind_is _ _ _ _) rfl m' (by omega) fun h' same m2 => ?_
    have m3 : Met P w S val (i + 1) h' := SetOf_congr m2 (fun j => by rw [firstMet_succ, step_any]) (by rw [firstMet_succ, step_length])
    have other : ∀ a, a ≠ S → h'.get? a = s'.heap.get? a := fun a h => same.2 a h
    have st2 : St (i + 1) { s' with heap := h', toks := s'.toks + 1 } := W.frame _ s' _ _ hst' (Nat.le_succ _) fun a ha o eo => by
      rw [other a fun z => out (z ▸ ha)]
      exact eo
    refine wpAny_pure ⟨plainId_quiet PyProof.Rows.F.plain_set_update_loop _, ih (i + 1) _ (by omega) st2 m3 fun s2 mv2 m4 => fin s2 (Moved.trans W.gtrans ((mv.mono more).then_heap (Nat.le_succ _) fun a o ha eo => ?_) mv2) m4⟩
    rw [other a fun z => ha (z ▸ List.mem_cons_self)]
    exact eo
/-- a new set's object -/
def fS (led : Bool) : Obj := { cls := .type "set", dict := none, data := .set #[] 0 (.fresh 0 0 led) }
def FewD (P : Program) (w : World) (s : Shared) (val : Nat → Int) (n : Nat) (s2 : Shared) : Prop :=
  ∃ h' tk, s2 = { s with heap := h', toks := tk } ∧ Met P w s.heap.objs.size val n h' ∧ ∀ b o, s.heap.get? b = some o → h'.get? b = some o
theorem init_few {l : Addr} {items : Array Value} (ns : List Int) (led : Bool) (hh : A.handled = none) (hl : s.heap.IsList l items) (hit : IntsAre items.toList ns) (few : (firstMet (fun i => ns.getD i 0) items.size).length + 1 < scanBound) {Q : Unit → Shared → Prop} (hQ : ∀ s2, FewD P w s (fun i => ns.getD i 0) items.size s2 → Q () s2) :
    wpAny (model P w) A (pyIter (.ref l)) (fun it s' => wpAny (model P w) A (do let _ ← runValue (.builtin "set.update.loop" ⟨[.ref s.heap.objs.size, it], []⟩); pure ()) Q E s') E { s with heap := s.heap.push (fS led) } := by
  obtain ⟨ol, hol, hcl, nl, hdl⟩ := hl
  have old : l < s.heap.objs.size := Heap.lt_size hol
  have seen : (s.heap.push (fS led)).IsList l items := ⟨ol, Heap.get?_push_of_some _ hol, hcl, nl, hdl⟩
  have hz : (s.heap.push (fS led)).objs.size = s.heap.objs.size + 1 := Heap.size_push ..
  refine wpAny_pyIter_list seen (wpAny_bind (wpAny_runValue ?_))
  have h1 : A.in1.handled = none := by simp [hh]
  refine loop_few ((Walks.list h1 _ l (by rw [hz]; exact Nat.ne_of_lt (Nat.lt_succ_of_lt old)) items).toS) s.heap.objs.size (by rw [hz]; simp only [List.mem_cons, List.not_mem_nil, or_false, not_or]; exact ⟨Nat.ne_of_lt (Nat.lt_succ_self _), Nat.ne_of_gt old⟩) (fun i => ns.getD i 0) (fun i v hv => PyProof.Rows.IntsAre.int_at hit i v (by rw [Array.getElem?_toList]; exact hv)) few items.size 0 _ (Nat.zero_add _)
    ⟨⟨_, Heap.get?_push_size _ rfl, rfl, rfl⟩, seen.push _⟩ (SetOf_congr ((setObjOf_fresh (knd := intKind P w) led).setOf (Heap.get?_push_of_some _ (Heap.get?_push_size _ rfl)) (by unfold scanBound; omega)) (fun _ => rfl) rfl) fun s' mv m => ?_
  obtain ⟨h', g2, d', tk', os'⟩ := s'
  obtain rfl : g2 = s.gens := mv.gens
  obtain rfl : d' = s.drawn := mv.drawn
  obtain rfl : os' = s.os := mv.os
  refine wpAny_pure (hQ _ ⟨h', tk', rfl, m, fun b o e => ?_⟩)
  have hb := Heap.lt_size e
  refine mv.heap b o ?_ (Heap.get?_push_of_some _ (Heap.get?_push_of_some _ e))
  rw [hz]
  simp only [List.mem_cons, List.not_mem_nil, or_false, not_or]
  exact ⟨Nat.ne_of_lt hb, Nat.ne_of_lt (Nat.lt_succ_of_lt hb)⟩
theorem set_few {l : Addr} {items : Array Value} (ns : List Int) {Q : Value → Shared → Prop} (hh : A.handled = none) (hl : s.heap.IsList l items) (hit : IntsAre items.toList ns) (few : (firstMet (fun i => ns.getD i 0) items.size).length + 1 < scanBound)
    (h : ∀ (h' : Heap) (tk : Nat), Met P w s.heap.objs.size (fun i => ns.getD i 0) items.size h' → (∀ b o, s.heap.get? b = some o → h'.get? b = some o) → Q (.ref s.heap.objs.size) { s with heap := h', toks := tk }) :
    wpAny (model P w) A (call (.type "set") [.ref l]) Q E s := by
  obtain ⟨c, tl, hmro⟩ := PySem.F.called_set.mro
  have made := PySem.F.called_set.made
  have sub := PySem.F.called_set.sub
  refine wpAny_call (codeAny_of_tree ?_)
  refine wpAny_pure ⟨Code.quiet_builtin _ (by decide +kernel), codeAny_builtin PySem.F.entry_type_call ?_⟩
  rw [Around.under_plain (weight_type_call_type "set" [.ref l] []) rfl]
  have nt := PySem.F.called_set.notType
  have can := PySem.F.called_set.canCreate
  have tc := PySem.F.typeCall_set_1 (.ref l)
  repeat (any_goals (first | assumption | wp_step))
  refine codeAny_mono (code_set_new_1 (.ref l) (E := E) (Q₁ := fun ob s1 => ∃ led, ob = .ref s.heap.objs.size ∧ s1 = { s with heap := s.heap.push (fS led) }) fun led => ⟨led, rfl, rfl⟩) fun r s1 hr => ?_
  match r, hr with
  | .error e, hr => exact hr
  | .ok (.ret ob), hr =>
    obtain ⟨led, rfl, rfl⟩ := hr
    have isT : Shared.TypeIs { s with heap := s.heap.push (fS led) } (.ref s.heap.objs.size) "set" := ⟨_, Heap.get?_push_size _ rfl, rfl⟩
    have look := PySem.F.called_set.init.lookup
    have bind := PySem.F.called_set.init.bind (.ref s.heap.objs.size)
    have hS : (s.heap.push (fS led)).get? s.heap.objs.size = some (fS led) := Heap.get?_push_size _ rfl
    repeat (any_goals (first | assumption | wp_step))
    refine codeAny_mono (codeAny_call_builtin (R := wants (fun r s2 => r = .none ∧ FewD P w s (fun i => ns.getD i 0) items.size s2) E) PySem.F.called_set.init.plain PySem.F.entry_set_init (check_set_init_1 isT ?_)) fun r2 s2 hr2 => ?_
    · have l1 := PySem.F.sub_list_set
      have l2 := PySem.F.sub_list_frozenset
      have l3 : (Value.type "list" == Value.type "dict") = false := by decide
      have hl0 := hl
      obtain ⟨ol, hol, hcl, nl, hdl⟩ := hl0
      obtain ⟨oc, od, oa, os⟩ := ol
      simp only at hcl hdl
      subst hcl hdl
      have l4 : (s.heap.push (fS led)).get? l = some { cls := .type "list", dict := od, data := .seq items nl, slots := os } := Heap.get?_push_of_some _ hol
      unfold Builtin.«set.__init__» noKeywords Builtin.Frozenset.updateFrom
      generalize hPI : pyIter = PI
      generalize hRV : @runValue = RV
      wp_walk
      subst hPI hRV
      exact init_few (A := A.in1.in1) ns led (by simp [hh]) hl hit few fun s2 hd => wpAny_pure ⟨rfl, hd⟩
    · match r2, hr2 with
      | .error e, hr2 => exact hr2
      | .ok (.ret r), hr2 =>
        obtain ⟨rfl, h', tk, rfl, m, keep⟩ := hr2
        repeat (any_goals (first | assumption | wp_step))
        exact h _ _ m keep
end
end ZF

set_option maxHeartbeats 2000000
/-! Z22: repr; how many unlike ints; a step of 1 or -1; two names at once. -/
namespace Z
open PySem PySem.Spec PyProof.Rows L2
/-! ### repr -/
/-! ### len(set(xs)) -/
def unl : List Int → List Int
  | [] => []
  | n :: ns => if n ∈ ns then unl ns else n :: unl ns
theorem unl_mem {k : Int} : ∀ {ns : List Int}, k ∈ unl ns ↔ k ∈ ns
  | [] => Iff.rfl
  | n :: ns => by
    unfold unl
    split
    · rw [unl_mem, List.mem_cons]
      exact ⟨.inr, fun h => h.elim (fun e => e ▸ (by assumption)) id⟩
    · rw [List.mem_cons, List.mem_cons, unl_mem]
theorem unl_nodup : ∀ {ns : List Int}, (unl ns).Nodup
  | [] => List.nodup_nil
  | n :: ns => by
    unfold unl
    split
    · exact unl_nodup
    · rename_i h
      exact List.nodup_cons.mpr ⟨fun z => h (unl_mem.mp z), unl_nodup⟩
theorem unl_len {ns ms : List Int} (nd : ms.Nodup) (h : ∀ k, k ∈ ms ↔ k ∈ ns) : ms.length = (unl ns).length :=
  ((List.perm_ext_iff_of_nodup nd unl_nodup).mpr fun k => (h k).trans unl_mem.symm).length_eq
theorem unl_of_nodup : ∀ {ns : List Int}, ns.Nodup → unl ns = ns
  | [], _ => rfl
  | n :: ns, h => by
    unfold unl
    rw [if_neg (List.nodup_cons.mp h).1, unl_of_nodup (List.nodup_cons.mp h).2]
theorem unl_le : ∀ {ns : List Int}, (unl ns).length ≤ ns.length
  | [] => Nat.le_refl _
  | n :: ns => by
    unfold unl
    split
    · exact Nat.le_trans unl_le (Nat.le_succ _)
    · exact Nat.succ_le_succ unl_le
theorem unl_eq : ∀ {ns : List Int}, (unl ns).length = ns.length → ns.Nodup
  | [], _ => List.nodup_nil
  | n :: ns, h => by
    unfold unl at h
    split at h
    · have := unl_le (ns := ns)
      rw [List.length_cons] at h
      omega
    · rename_i hn
      exact List.nodup_cons.mpr ⟨hn, unl_eq (Nat.succ.inj h)⟩
theorem met_ok (val : Nat → Int) : ∀ n, (firstMet val n).Nodup ∧ ∀ k, k ∈ firstMet val n ↔ ∃ i, i < n ∧ val i = k
  | 0 => ⟨List.nodup_nil, fun k => ⟨fun h => (nomatch h), fun ⟨i, h, _⟩ => absurd h (Nat.not_lt_zero i)⟩⟩
  | n + 1 => by
    obtain ⟨h1, h2⟩ := met_ok val n
    rw [firstMet_succ]
    unfold step_dedup
    have e : (firstMet val n).any (· == val n) = decide (val n ∈ firstMet val n) := by
      rw [List.any_beq', List.contains_eq_mem]
    by_cases h : val n ∈ firstMet val n
    · rw [e, decide_eq_true h, if_pos rfl]
      refine ⟨h1, fun k => (h2 k).trans ⟨fun ⟨i, hi, hk⟩ => ⟨i, by omega, hk⟩, fun ⟨i, hi, hk⟩ => ?_⟩⟩
      by_cases hin : i = n
      · subst hin
        rw [← hk]
        exact (h2 _).mp h
      · exact ⟨i, by omega, hk⟩
    · rw [e, decide_eq_false h, if_neg Bool.false_ne_true]
      refine ⟨List.nodup_append.mpr ⟨h1, List.nodup_cons.mpr ⟨fun z => (nomatch z), List.nodup_nil⟩, fun a ha b hb z => ?_⟩, fun k => ?_⟩
      · obtain rfl : b = val n := by simpa using hb
        exact h (z ▸ ha)
      · rw [List.mem_append, h2 k, List.mem_singleton]
        refine ⟨fun z => z.elim (fun ⟨i, hi, hk⟩ => ⟨i, by omega, hk⟩) fun z => ⟨n, by omega, z.symm⟩, fun ⟨i, hi, hk⟩ => ?_⟩
        by_cases hin : i = n
        · exact .inr (by rw [← hk, hin])
        · exact .inl ⟨i, by omega, hk⟩
theorem met_len (ns : List Int) : (firstMet (fun i => ns.getD i 0) ns.length).length = (unl ns).length := by
  obtain ⟨h1, h2⟩ := met_ok (fun i => ns.getD i 0) ns.length
  refine unl_len h1 fun k => (h2 k).trans ⟨fun ⟨i, hi, hk⟩ => ?_, fun h => ?_⟩
  · have hk' : ns.getD i 0 = k := hk
    rw [List.getD_eq_getElem?_getD, List.getElem?_eq_getElem hi] at hk'
    rw [← hk']
    exact List.getElem_mem hi
  · obtain ⟨i, hi, hk⟩ := List.mem_iff_getElem.mp h
    refine ⟨i, hi, ?_⟩
    show ns.getD i 0 = k
    rw [List.getD_eq_getElem?_getD, List.getElem?_eq_getElem hi]
    exact hk
def rLenSet (K : PySem.W.Frag) (ta : TE) : TE := fun σ H Q => ta σ H fun x H1 => ∃ (l : Addr) (ns : List Int), x = V.ref l ∧ ((SqL K H1 l (ns.map V.int) ∨ SqT K H1 l (ns.map V.int)) ∧ ns.length < 4000 ∨ SqL K H1 l (ns.map V.int) ∧ (unl ns).length < 4000) ∧ Q (.int (unl ns).length) H1
theorem pe_lenUn {X : Cx} {a : Expr} {ta : TE} {p p2 q pos : Pos} (hc : X.calm = true) (hg : Gl X "len") (hm : X.mg "len" = none) (hg2 : Gl X "set") (hm2 : X.mg "set" = none) (ha : PE X a ta) (na : starEach [a] X.env = (false, eval a X.env) :: starEach [] X.env := by rfl) :
    PE X (.Call (.Name "len" p) [.Call (.Name "set" p2) [a] [] q] [] pos) (rLenSet X.K ta) := ⟨fun pins s σ H Q I h => by
  refine Call_ (ld_blt I hg hm PySem.boot_len (PyProof.Rows.callWith_builtin1 (PyProof.Rows.args_cons (Call_ (ld_blt I hg2 hm2 PyProof.Rows.boot_set (PyProof.Rows.callWith_type1 (PyProof.Rows.args_cons (thn (ha.run pins s σ H _ I h) fun v s1 ⟨x, H1, I1, r1, q1⟩ => PyProof.Rows.args_nil ?_) na) na rfl))) rfl) rfl rfl))
  obtain ⟨l, ns, rfl, hqq, q1⟩ := q1
  cases r1
  have fin : ∀ (h' : Heap) (tk : Nat) (o : Obj) (es : Array (Int × Value)) (ep : Nat) (t : SetTable), h'.get? s1.heap.objs.size = some o → o.ExactSet → o.data = .set es ep t → t.fits es.size = true → es.size = (unl ns).length → (unl ns).length < 4000 → (∀ b u, s1.heap.get? b = some u → h'.get? b = some u) →
      wpAny (model X.prog X.w) X.A (spliced (backTo pos (starEach [] X.env))) (fun vs s₂ => wpAny (model X.prog X.w) X.A (call (.builtin "len") (Value.ref s1.heap.objs.size :: vs)) (EP X pins σ Q) X.xe s₂) X.xe { s1 with heap := h', toks := tk } := fun h' tk o es ep t ho hex hd hf hn h1 hk => by
    have I2 : Inv X pins σ H1 { s1 with heap := h', toks := tk } := I1.kept hk
    have hl := unl_le (ns := ns)
    exact PyProof.Rows.args_nil (call_len_set ho hex hd hf (by rw [hn]; omega) ⟨.int (unl ns).length, H1, I2.tok _, ⟨_, by rw [hn]⟩, q1⟩)
  rcases hqq with ⟨hq, h1⟩ | ⟨hq, h1⟩
  rotate_left
  · obtain ⟨its, r, pl, hz⟩ := I1.list hq
    have hl : its.toArray.size = ns.length := by rw [List.size_toArray, ← r.length, List.length_map]
    refine ZF.set_few ns (I1.ok.hd hc) pl.isList (by simpa using r.ints) (by rw [hl, met_len]; unfold scanBound; omega) fun h' tk hS hk => ?_
    unfold ZF.Met at hS
    rw [hl, met_len] at hS
    obtain ⟨o, es, ep, t, ho, hex, hd, _, _, _, hf, hn⟩ := hS
    exact fin h' tk o es ep t ho hex hd hf hn h1 hk
  have h2 : (unl ns).length < 4000 := Nat.lt_of_le_of_lt unl_le h1
  rcases hq with hq | hq
  · obtain ⟨its, r, pl, hz⟩ := I1.list hq
    have hl : its.toArray.size = ns.length := by rw [List.size_toArray, ← r.length, List.length_map]
    refine call_set_list (ns := ns) (I1.ok.hd hc) pl.isList (by simpa using r.ints) (by unfold scanBound; omega) fun h' tk hS hk => ?_
    rw [hl, met_len] at hS
    obtain ⟨o, es, ep, t, ho, hex, hd, _, _, _, hf, hn⟩ := hS
    exact fin h' tk o es ep t ho hex hd hf hn h2 fun b u e => hk b u (Heap.lt_size e) e
  · obtain ⟨its, r, pt, hz⟩ := I1.tuple hq
    have hi : IntsAre its.toArray.toList ns := ints_of_vals r
    refine call_set_tupI (P := X.prog) (w := X.w) ns (I1.ok.hd hc) (show s1.heap.IsTuple l its.toArray from pt) hi (by unfold scanBound; omega) fun h' tk cc R1 hcn hk => ?_
    obtain ⟨o, es, ep, t, ho, hex, hd, g, nd, hm3, hb, hf, hn, hr, hl2⟩ := R1
    refine fin h' tk o es ep t ho hex hd hf ?_ h2 hk
    have e : (es.toList.map keyOf).length = (unl ns).length := unl_len nd fun k => by
      rw [← hm3 k, decide_eq_true_eq]
    rw [List.length_map, Array.length_toList] at e
    exact e⟩
def isLst : D → Bool
  | .lst _ => true
  | _ => false
def dCnt (d : D) : Option D := (seqD d).bind fun ds => (intsD ds).bind fun ns => match decide (ns.length < 4000 ∨ (isLst d = true ∧ (unl ns).length < 4000)) with
  | true => some (.int (unl ns).length)
  | false => none
section
variable {X : Cx} {c : Ctx} {W : XK} {mods m1 m2 m3 : List Nat} {md : Bool} {e a b o : Expr} {es elts : List Expr} {pos p p2 q tpos apos : Pos} {kk : Nat} {m ms : M D}
theorem zCntU (hK : c.E.K = X.K) (hc : X.calm = true) (hg : Gl X "len") (hm : X.mg "len" = none) (hg2 : Gl X "set") (hm2 : X.mg "set" = none) (ha : PE X a (tE c W md mods m)) (na : starEach [a] X.env = (false, eval a X.env) :: starEach [] X.env := by rfl) :
    PE X (.Call (.Name "len" p) [.Call (.Name "set" p2) [a] [] q] [] pos) (tE c W true mods (m1x dCnt m)) := PEw (pe_lenUn hc hg hm hg2 hm2 ha na) fun σ H Q ⟨G, S, As, τ, R, q⟩ => by
  refine ⟨G, S, As, τ, R, fin_mono (fin_bd q) fun d S1 e1 k => ?_⟩
  intro v G1 As1 H1 R1 P1 r1
  have k' : fin c W (oo (dCnt d) S1) _ := k
  unfold dCnt at k'
  cases hs : seqD d with
  | none => rw [hs] at k'; exact k'.elim
  | some ds =>
    rw [hs, Option.bind_some] at k'
    cases hi : intsD ds with
    | none => rw [hi] at k'; exact k'.elim
    | some ns =>
      rw [hi, Option.bind_some] at k'
      cases hl : decide (ns.length < 4000 ∨ (isLst d = true ∧ (unl ns).length < 4000)) with
      | false => rw [hl] at k'; exact k'.elim
      | true =>
        rw [hl] at k'
        have k2 := k' _ G1 As1 H1 R1 P1 (by unfold Rs; rfl)
        have r2 := Rs.mono (hp_ex R1.exG) r1
        rcases of_decide_eq_true hl with hl2 | ⟨hd, hl2⟩
        · obtain ⟨l, xs, rfl, h2, h3⟩ := seq_at r2 hs
          rw [intsD_eq hi] at h3
          rw [RsL.ints h3, hK] at h2
          exact ⟨l, ns, rfl, .inl ⟨h2, hl2⟩, k2⟩
        · cases d with
          | lst es =>
            cases hs
            unfold Rs at r2
            obtain ⟨l, xs, rfl, h2, h3⟩ := r2
            rw [intsD_eq hi] at h3
            rw [RsL.ints h3] at h2
            exact ⟨l, ns, rfl, .inr ⟨SqL.of h2, hl2⟩, k2⟩
          | _ => cases hd
/-! ### e[::s], s 1 or -1 -/
end
end Z

/-! Z23: two names at once, also such as a comprehension reads. -/
namespace Z
open PySem PySem.Spec PyProof.Rows L2
section
variable {X : Cx} {c : Ctx} {W : XK} {mods : List Nat} {a b : Expr} {pos : Pos} {ma : M (List O)}
end
end Z

/-! Z24: starred items; all keywords given. -/
namespace Z
open PySem PySem.Spec PyProof.Rows L2
def mStar (a : M D) (r : M (List D)) : M (List D) := fun S => (a S).bd fun d S1 => (r S1).bd fun ys S2 => match seqD d with
  | some xs => .ok (xs ++ ys) S2
  | none => .bad
def isSeqD (d : D) : Bool := match seqD d with
  | some _ => true
  | none => false
def mSeq (a : M D) : M D := fun S => (a S).bd fun d S1 => match isSeqD d with
  | true => .ok d S1
  | false => .bad
def dLstM (md : Bool) (ds : List D) : Option O := match decide (ds.length ≤ sizeLine) with
  | true => mkL md ds
  | false => none
section
variable {X : Cx} {c : Ctx} {W : XK} {mods m1 m2 m3 : List Nat} {md : Bool} {e a b o : Expr} {es elts : List Expr} {pos p tpos apos : Pos} {kk : Nat} {m mr : M (List D)} {ma : M D}
end
section
variable {P : Program} {w : World} {K : PySem.W.Frag} {mg : Str → Option Value} {base : Heap} {x qual : Str} {params : Arguments} {body : List Stmt} {scope : Scope} {f : Addr} {fd : FuncData}
end
section
variable {X : Cx} {c : Ctx} {W : XK} {k nn n : Nat} {fa C : Addr} {fd : FuncData} {ps ks : List Str} {x : Str} {p pos : Pos} {e : Expr} {es : List Expr} {kws : List Keyword} {ma mk : M (List Av)} {m1 m2 bs io : List Nat} {f : Fn}
end
end Z

/-! Z25: comprehensions over a list of one's own. -/
namespace Z
open PySem PySem.Spec PyProof.Rows L2
/-- J walks ds, as long as what G has and the node a stand -/
structure WalksV (E : Ev) (J : It) (G : Hp) (ds : List D) (a : Addr) (o : HO) : Prop where
  go : ∀ i H, Ex G H → H a = some o → i < ds.length → J.go i H
  stop : ∀ i H, Ex G H → H a = some o → ds.length ≤ i → J.stop i H
  yld : ∀ i H x H', Ex G H → H a = some o → i < ds.length → J.yld i H x H' → Keep H H' ∧ ∃ B d, ds[i]? = some d ∧ (∀ b ∈ B, H b = none) ∧ B.Nodup ∧ ∀ G2, Ex G G2 → Ex G2 H → Rs E (frz G2 H' B) d x
def shO : List O → Option (List D)
  | [] => some []
  | .sh d :: os => (shO os).map (d :: ·)
  | _ :: _ => none
def mItV (i0 : Nat) : M (List D) := fun S => match S[i0]? with
  | some (.ow (.lst os)) => match shO os with
    | some ds => .ok ds S
    | none => .bad
  | _ => .bad
section
variable {X : Cx} {c : Ctx} {W : XK} {i0 : Nat}
end
section
variable {X : Cx} {c : Ctx} {W : XK} {mods m1 m2 m3 vs ts : List Nat} {elt tg iter : Expr} {mi : M (List D)} {g : Tg} {t : M Bool} {me : M D}
end
end Z

/-! Z26: the law's end, where no repr is under way. -/
namespace Z
open PySem PySem.Spec PyProof.Rows L2
section
variable {P : Program} {w : World} {K : PySem.W.Frag} {mg mb : Str → Option Value} {k : Nat} {fa a : Addr} {fd : FuncData} {x : Str} {sp : Sp} {s1 : Shared} {us : List Value} {ns : List Int}
/-- from a heap in which the script alone may be tracked -/
theorem lawAt {H : Hp} (KX : K.In s1.heap) (hns : s1.heap.Ns mainGlobals mg) (hb : s1.heap.Ns builtinsNs mb) (hbb : ∀ z : Str, z ≠ "__name__" → mb z = bootBuiltins z) (hlim : s1.heap.NoLimit) (hg : s1.gens = #[]) (ha : s1.heap.get? a = some { cls := .type "list", data := .seq us.toArray })
    (hr : Room k callerA) (F : ∀ base : Heap, K.In base → base.Ns mainGlobals mg → FnG P w K mg base (L2.CX P w) k fa fd [x] sp) (hbind : ∀ (s : Shared) (u : Value), BindsTo s fd ⟨[u], []⟩ [(x, u)])
    (hsp : sp [.ref a] H (fun v _ => v = .bl true) fun _ _ _ => False) (hO : Only H) (hok : HOk P w H s1.heap) (hA : ∀ b, H b ≠ none → b = a) (hK : H a ≠ none → K.lookup a = none) :
    codeAny (model P w) callerA (.call (.ref fa) ⟨[.ref a], []⟩) (fun r s' => r = .ok (.ret (.bool true)) ∧ OldK s1.heap s'.heap ∧ s'.os = s1.os ∧ AllBare s'.gens) s1 := by
  have dictNo : ∀ {b : Addr} {o : Obj} {es : Array DictEntry} {ep : Nat}, s1.heap.get? b = some o → o.data = .dict es ep → H b = none := by
    intro b o es ep e d
    apply Classical.byContradiction
    intro q
    have q2 := hA b q
    rw [q2, ha] at e
    cases e
    exact nomatch (show Data.seq us.toArray _ = Data.dict es ep from d)
  have nsB : ∀ {b : Addr} {m : Str → Option Value}, s1.heap.Ns b m → (hidT s1.heap H).Ns b m := by
    rintro b m ⟨o, es, ep, e, d, r⟩
    exact ⟨o, es, ep, hidT_get e (dictNo e d), d, r⟩
  have kinB : K.In (hidT s1.heap H) := by
    intro b o e
    refine hidT_get (KX b o e) (Classical.byContradiction fun q => ?_)
    have q2 := hA b q
    rw [q2] at q e
    rw [hK q] at e
    cases e
  obtain ⟨mc, hm1, hm2⟩ := hlim
  have modB : Mod K mg (hidT s1.heap H) := ⟨kinB, nsB hns, ⟨mb, nsB hb, hbb⟩, mc, nsB hm1, hm2⟩
  have env0 : Env0 P w K mg (hidT s1.heap H) callerA [] s1 H := ⟨rfl, modB, fun _ _ e => of_hidT e, Nat.le_of_eq (hidT_size _ _), trivial, fun _ z => (nomatch z), hok, .of_eq hg⟩
  have run := (F _ kinB (nsB hns)).run callerA [] s1 H ⟨[.ref a], []⟩ [.ref a] [.ref a] _ _ hr rfl env0 (hbind s1 (.ref a)) (.cons rfl .nil) hsp
  refine codeAny_mono run fun r s' h => ?_
  match r, h with
  | .error e, h =>
    obtain ⟨_, _, _, _, _, _, _, _, _, _, _, _, z⟩ := h
    exact z.elim
  | .ok (.ret u), h =>
    obtain ⟨v, H2, os, bare, un, hok2, rv, q⟩ := h
    have q2 : v = .bl true := q
    subst q2
    obtain rfl : u = Value.bool true := rv
    refine ⟨rfl, OldK.of_keep fun b o e => ?_, os, bare⟩
    cases q : H b with
    | none => exact un.keep b o e q (fun z => (nomatch z)) (by simp)
    | some u2 =>
      rcases hO b with z | ⟨ob, xs, z⟩
      · rw [q] at z
        cases z
      · obtain ⟨e1, _⟩ := hok b _ z
        obtain ⟨e2, _⟩ := hok2 b _ (un.frzs b ob _ z)
        rw [e] at e1
        cases e1
        exact e2
theorem lawG (KX : K.In s1.heap) (hns : s1.heap.Ns mainGlobals mg) (hb : s1.heap.Ns builtinsNs mb) (hbb : ∀ z : Str, z ≠ "__name__" → mb z = bootBuiltins z) (hlim : s1.heap.NoLimit) (hg : s1.gens = #[]) (ha : s1.heap.get? a = some { cls := .type "list", data := .seq us.toArray }) (hi : IntsAre us ns) (hl : ns.length ≤ sizeLine)
    (hr : Room k callerA) (F : ∀ base : Heap, K.In base → base.Ns mainGlobals mg → FnG P w K mg base (L2.CX P w) k fa fd [x] sp) (hbind : ∀ (s : Shared) (u : Value), BindsTo s fd ⟨[u], []⟩ [(x, u)])
    (hsp : ∀ H : Hp, Only H → SqL K H a (ns.map V.int) → sp [.ref a] H (fun v _ => v = .bl true) fun _ _ _ => False) :
    codeAny (model P w) callerA (.call (.ref fa) ⟨[.ref a], []⟩) (fun r s' => r = .ok (.ret (.bool true)) ∧ OldK s1.heap s'.heap ∧ s'.os = s1.os ∧ AllBare s'.gens) s1 := by
  have rv := L2.vals_ints hi
  cases hk : K.lookup a with
  | some o =>
    have e := KX a o hk
    rw [ha] at e
    cases e
    have none0 : Only fun _ => none := fun _ => .inl rfl
    have sq : SqL K (fun _ => none) a (ns.map V.int) := .inr ⟨_, us.toArray, _, hk, rfl, rfl, rfl, (by rw [List.size_toArray, hi.length]; exact hl), (by simpa using rv)⟩
    exact lawAt KX hns hb hbb hlim hg ha hr F hbind (hsp _ none0 sq) none0 (fun b u z => nomatch (show (none : Option HO) = some u from z)) (fun b z => absurd rfl z) fun z => absurd rfl z
  | none =>
    let H1 : Hp := fun b => if b = a then some (.frz { cls := .type "list", data := .seq us.toArray } (.lst (ns.map V.int))) else none
    have at_a : H1 a = some (.frz { cls := .type "list", data := .seq us.toArray } (.lst (ns.map V.int))) := if_pos rfl
    have off : ∀ b, b ≠ a → H1 b = none := fun b h => if_neg h
    have only1 : Only H1 := fun b => by
      by_cases h : b = a
      · subst h
        exact .inr ⟨_, _, at_a⟩
      · exact .inl (off b h)
    refine lawAt KX hns hb hbb hlim hg ha hr F hbind (hsp H1 only1 (.inl (.inr ⟨_, at_a⟩))) only1 (fun b u z => ?_) (fun b z => ?_) fun _ => hk
    · by_cases h : b = a
      · subst h
        rw [at_a] at z
        cases z
        exact ⟨ha, by rw [List.length_map]; exact hl, us, _, rv, ha⟩
      · rw [off b h] at z
        cases z
    · apply Classical.byContradiction
      intro h
      exact z (off b h)
end
theorem walkG {l : PySem.W.OpenLaw} {n k : Nat} {q : Program} {loose : List Str} {XP : (Str → Option Value) → Heap → Prop} {YP : World → Heap → Prop} {d : DefRec} {x : Str} (hn : l.most = some n) (hn2 : n ≤ sizeLine) (hdf : d.params.defaults = []) (hr : Room k callerA)
    (F : ∀ (w : World) (mg : Str → Option Value) (fa : Addr) (h : Heap), YP w h → h.Ns mainGlobals mg → mg d.name = some (.ref fa) → ∃ (K : PySem.W.Frag) (fd : FuncData) (sp : Sp), K.In h ∧ (∀ (s : Shared) (u : Value), BindsTo s fd ⟨[u], []⟩ [(x, u)]) ∧
      (∀ (H : Hp) (a : Addr) (ns : List Int), ns.length ≤ n → Only H → SqL K H a (ns.map V.int) → sp [.ref a] H (fun v _ => v = .bl true) fun _ _ _ => False) ∧ ∀ base : Heap, K.In base → base.Ns mainGlobals mg → FnG l.prog w K mg base (L2.CX l.prog w) k fa fd [x] sp) :
    PySem.W.WalkO q loose XP YP l.row.toRowW d [] (fun f vs => PySem.call f vs) := by
  refine Att.attach_call hn hdf fun w s₀ s1 mg mb fa o pm cd doc a us ns G Y ho hd hcd hmg hobj hints hlen hg => ?_
  obtain ⟨K, fd, sp, KX, hb, hsp, hF⟩ := F w mg fa _ Y G.T.g hmg
  exact lawG KX G.T.g G.T.b G.T.builtins G.T.nolimit hg hobj hints (Nat.le_trans hlen hn2) hr hF hb fun H hO hS => hsp H a ns hlen hO hS
/-- the law's mirror at a script -/
theorem law_sp {E : Ev} {f : Fn} {H : Hp} {a : Addr} {ns : List Int} (hO : Only H) (hS : SqL E.K H a (ns.map V.int)) (h : ∃ S, f [.pl (.fls (ns.map D.int))] = .ok (.sh (.bl true)) S) : spM E 1 [] f [.ref a] H (fun v _ => v = .bl true) (fun _ _ _ => False) := by
  obtain ⟨S, e⟩ := h
  refine ⟨rfl, H, [.pl (.fls (ns.map D.int))], fun _ => [], ⟨Ex.refl H, rfl, fun i s hi => ?_, (fun _ z => nomatch z), fun _ _ => rfl, fun _ => List.nodup_nil, (fun _ _ _ z => nomatch z), (fun _ _ z => nomatch z)⟩, ?_⟩
  · cases i with
    | zero =>
      cases hi
      refine ⟨rfl, .ref a, rfl, ?_⟩
      unfold Rs
      exact ⟨a, _, rfl, hS, RsL.of_ints⟩
    | succ i => cases hi
  · rw [e]
    intro v A G' As' H' x r
    unfold Ro at r
    have r2 := r.2
    unfold Rs at r2
    exact r2
end Z

/-! Z27: a module's ints; lists or tuples walked. -/
namespace Z
open PySem PySem.Spec PyProof.Rows L2
theorem ans_add {c : Ctx} : Ans2 c (rI0 fun i j => .int (i + j)) dAdd := ans_I0 fun _ _ _ => by unfold Rs; rfl
def itS : D → Option (List D)
  | .lst ds => some ds
  | .tup ds => some ds
  | _ => none
section
variable {X : Cx} {c : Ctx} {W : XK} {mods m1 m2 m3 : List Nat} {md : Bool} {e a b o tg iter : Expr} {pos p : Pos} {ma : M D}
theorem zIs2 (hK : c.E.K = X.K) (h : PE X iter (tE c W true mods ma)) : PI X tg iter (tI c W mods (m1x itS ma)) := ⟨fun pins s σ H R I ⟨G, S, As, τ, Rl, q⟩ => by
  have q' : fin c W ((ma S).bd fun d S1 => oo (itS d) S1) _ := q
  cases e : ma S with
  | bad => rw [e] at q'; exact q'.elim
  | exc C fs ds S1 =>
    have k : tI c W mods (m1x itL ma) σ H R := ⟨G, S, As, τ, Rl, by
      show fin c W ((ma S).bd fun d S1 => oo (itL d) S1) _
      rw [e] at q' ⊢
      exact q'⟩
    exact (zIl (tg := tg) hK h).run pins s σ H R I k
  | ok d S1 =>
    cases d with
    | lst ds =>
      have k : tI c W mods (m1x itL ma) σ H R := ⟨G, S, As, τ, Rl, by
        show fin c W ((ma S).bd fun d S1 => oo (itL d) S1) _
        rw [e] at q' ⊢
        exact q'⟩
      exact (zIl (tg := tg) hK h).run pins s σ H R I k
    | tup ds =>
      have k : tI c W mods (m1x itT ma) σ H R := ⟨G, S, As, τ, Rl, by
        show fin c W ((ma S).bd fun d S1 => oo (itT d) S1) _
        rw [e] at q' ⊢
        exact q'⟩
      exact (zIt (tg := tg) hK h).run pins s σ H R I k
    | _ => rw [e] at q'; exact q'.elim⟩
end
end Z

set_option maxHeartbeats 4000000
/-! Z28: a set's table laid anew loses nothing. -/
namespace ZU
open PySem
def lf (m x : Nat) : Nat := (x * 5 + 1) % (m + 1)
def lit (m : Nat) : Nat → Nat → Nat
  | 0, x => x
  | t + 1, x => lit m t (lf m x)
theorem lit_add (m : Nat) : ∀ (a b x : Nat), lit m (a + b) x = lit m b (lit m a x)
  | 0, b, x => by rw [Nat.zero_add]; rfl
  | a + 1, b, x => by
    rw [Nat.add_right_comm]
    exact lit_add m a b (lf m x)
def orb (m : Nat) : Nat → Nat → List Nat
  | 0, _ => []
  | n + 1, x => x :: orb m n (lf m x)
theorem mem_orb {m y : Nat} : ∀ {n x : Nat}, y ∈ orb m n x → ∃ t, t < n ∧ lit m t x = y
  | n + 1, x, h => by
    rcases List.mem_cons.mp h with e | e
    · exact ⟨0, Nat.succ_pos _, e.symm⟩
    · obtain ⟨t, h1, h2⟩ := mem_orb e
      exact ⟨t + 1, Nat.succ_lt_succ h1, h2⟩
def Mk2 (m : Nat) : Prop := m = 7 ∨ m = 15 ∨ m = 31 ∨ m = 63 ∨ m = 127 ∨ m = 255
def chk (m : Nat) : Bool := ((List.range (m + 1)).all fun j => (orb m (m + 1) 0).contains j) && lit m (m + 1) 0 == 0
theorem chk_ok {m : Nat} (h : Mk2 m) : chk m = true := by
  rcases h with rfl | rfl | rfl | rfl | rfl | rfl <;> decide +kernel
theorem cov {m x j : Nat} (h : Mk2 m) (hx : x ≤ m) (hj : j ≤ m) : ∃ t, t ≤ m ∧ lit m t x = j := by
  have hc := chk_ok h
  unfold chk at hc
  rw [Bool.and_eq_true] at hc
  have h0 : ∀ y, y ≤ m → ∃ t, t < m + 1 ∧ lit m t 0 = y := fun y hy => by
    have := List.all_eq_true.mp hc.1 y (List.mem_range.mpr (by omega))
    exact mem_orb (List.contains_iff_mem.mp this)
  have hp : lit m (m + 1) 0 = 0 := eq_of_beq hc.2
  obtain ⟨a, ha, ea⟩ := h0 x hx
  obtain ⟨b, hb, eb⟩ := h0 j hj
  by_cases hab : a ≤ b
  · refine ⟨b - a, by omega, ?_⟩
    rw [← ea, ← lit_add, show a + (b - a) = b by omega]
    exact eb
  · refine ⟨m + 1 - a + b, by omega, ?_⟩
    rw [← ea, ← lit_add, show a + (m + 1 - a + b) = (m + 1) + b by omega, lit_add, hp]
    exact eb
/-- the way's places -/
def pos (m : Nat) : Nat → Nat → Nat → Nat
  | 0, i, _ => i
  | t + 1, i, p => pos m t ((i * 5 + 1 + p / 32) % (m + 1)) (p / 32)
theorem pos_zero (m : Nat) : ∀ (t i : Nat), pos m t i 0 = lit m t i
  | 0, _ => rfl
  | t + 1, i => pos_zero m t _
theorem pos_add (m : Nat) : ∀ (a b i p : Nat), i ≤ m → p < 32 ^ a → ∃ i', i' ≤ m ∧ pos m (a + b) i p = lit m b i'
  | 0, b, i, p, hi, hp => by
    have : p = 0 := by omega
    subst this
    exact ⟨i, hi, by rw [Nat.zero_add, pos_zero]⟩
  | a + 1, b, i, p, hi, hp => by
    rw [Nat.add_right_comm]
    exact pos_add m a b _ _ (Nat.le_of_lt_succ (Nat.mod_lt _ (Nat.succ_pos m))) (by
      rw [Nat.pow_succ] at hp
      exact Nat.div_lt_of_lt_mul (by omega))
theorem pos_cov {m i p j : Nat} (h : Mk2 m) (hi : i ≤ m) (hp : p < 2 ^ 64) (hj : j ≤ m) : ∃ t, t < SetTable.turns m ∧ pos m t i p = j := by
  have hp2 : p < 32 ^ 13 := Nat.lt_of_lt_of_le hp (by decide)
  obtain ⟨i', hi', _⟩ := pos_add m 13 0 i p hi hp2
  obtain ⟨i2, hi2, e2⟩ := pos_add m 13 0 i p hi hp2
  have key : ∃ i', i' ≤ m ∧ ∀ b, pos m (13 + b) i p = lit m b i' := by
    have gen : ∀ (a i p : Nat), i ≤ m → p < 32 ^ a → ∃ i', i' ≤ m ∧ ∀ b, pos m (a + b) i p = lit m b i' := by
      intro a
      induction a with
      | zero =>
        intro i p hi hp
        have : p = 0 := by omega
        subst this
        exact ⟨i, hi, fun b => by rw [Nat.zero_add, pos_zero]⟩
      | succ a ih =>
        intro i p hi hp
        obtain ⟨i', h1, h2⟩ := ih ((i * 5 + 1 + p / 32) % (m + 1)) (p / 32) (Nat.le_of_lt_succ (Nat.mod_lt _ (Nat.succ_pos m))) (by
          rw [Nat.pow_succ] at hp
          exact Nat.div_lt_of_lt_mul (by omega))
        exact ⟨i', h1, fun b => by rw [Nat.add_right_comm]; exact h2 b⟩
    exact gen 13 i p hi hp2
  obtain ⟨i', hi', e⟩ := key
  obtain ⟨t, ht, et⟩ := cov h hi' hj
  exact ⟨13 + t, by unfold SetTable.turns; omega, by rw [e t, et]⟩
/-- who sits at j -/
def at_ (owner : Array (Option Nat)) (j : Nat) : Option Nat := owner.getD j (some 0)
theorem free_none {m : Nat} {owner : Array (Option Nat)} : ∀ (f i p : Nat), SetTable.layClean.free m owner f i p = none → ∀ t, t < f → (at_ owner (pos m t i p)).isNone = false
  | 0, _, _, _, t, ht => absurd ht (Nat.not_lt_zero t)
  | f + 1, i, p, h, t, ht => by
    rw [SetTable.layClean.free] at h
    cases hf : (List.range (SetTable.runEnd m i + 1 - i)).find? fun k => (owner.getD (i + k) (some 0)).isNone with
    | some k => rw [hf] at h; cases h
    | none =>
      rw [hf] at h
      cases t with
      | zero =>
        have h0 := List.find?_eq_none.mp hf 0 (List.mem_range.mpr (by unfold SetTable.runEnd; split <;> omega))
        have : (at_ owner i).isNone ≠ true := by simpa [at_] using h0
        show (at_ owner i).isNone = false
        cases q : (at_ owner i).isNone with
        | false => rfl
        | true => exact absurd q this
      | succ t => exact free_none f _ _ h t (Nat.lt_of_succ_lt_succ ht)
theorem free_some {m : Nat} {owner : Array (Option Nat)} : ∀ (f i p j : Nat), SetTable.layClean.free m owner f i p = some j → (at_ owner j).isNone = true
  | 0, _, _, _, h => by simp [SetTable.layClean.free] at h
  | f + 1, i, p, j, h => by
    rw [SetTable.layClean.free] at h
    cases hf : (List.range (SetTable.runEnd m i + 1 - i)).find? fun k => (owner.getD (i + k) (some 0)).isNone with
    | some k =>
      rw [hf] at h
      cases h
      have h2 := List.find?_some hf
      exact h2
    | none =>
      rw [hf] at h
      exact free_some f _ _ j h
theorem nat_sub_len : ∀ {l k : List Nat}, l.Nodup → (∀ x ∈ l, x ∈ k) → l.length ≤ k.length
  | [], k, _, _ => Nat.zero_le _
  | x :: l, k, nd, h => by
    have h1 := List.nodup_cons.mp nd
    have hx := h x List.mem_cons_self
    have h2 : l.length ≤ (k.erase x).length := nat_sub_len h1.2 fun y hy => (List.mem_erase_of_ne (show y ≠ x from fun e => h1.1 (e ▸ hy))).mpr (h y (List.mem_cons_of_mem _ hy))
    rw [List.length_erase_of_mem hx] at h2
    have : 0 < k.length := List.length_pos_of_mem hx
    rw [List.length_cons]
    omega
structure Ow (m k : Nat) (owner : Array (Option Nat)) : Prop where
  sz : owner.size = m + 1
  all : ∀ i, i < k → ∃ j, j ≤ m ∧ at_ owner j = some i
  lt : ∀ j i, j ≤ m → at_ owner j = some i → i < k
  inj : ∀ j j' i, j ≤ m → j' ≤ m → at_ owner j = some i → at_ owner j' = some i → j = j'
theorem Ow.hole {m k : Nat} {owner : Array (Option Nat)} (W : Ow m k owner) (h : k ≤ m) : ∃ j, j ≤ m ∧ at_ owner j = none := by
  refine Classical.byContradiction fun hn => ?_
  have hs : ∀ j, j ≤ m → ∃ i, at_ owner j = some i := fun j hj => by
    cases e : at_ owner j with
    | none => exact absurd ⟨j, hj, e⟩ hn
    | some i => exact ⟨i, rfl⟩
  have nd : ((List.range (m + 1)).map fun j => (at_ owner j).getD 0).Nodup := by
    refine List.pairwise_iff_getElem.mpr fun a b ha hb hab e => ?_
    rw [List.length_map, List.length_range] at ha hb
    simp only [List.getElem_map, List.getElem_range] at e
    obtain ⟨x, hx⟩ := hs a (by omega)
    obtain ⟨y, hy⟩ := hs b (by omega)
    rw [hx, hy] at e
    have exy : x = y := e
    have := W.inj a b x (by omega) (by omega) hx (by rw [hy, exy])
    omega
  have := nat_sub_len (k := List.range k) nd fun x hx => by
    obtain ⟨j, hj, e⟩ := List.mem_map.mp hx
    have hj' := List.mem_range.mp hj
    obtain ⟨i, hi⟩ := hs j (by omega)
    rw [hi] at e
    have e' : i = x := e
    exact List.mem_range.mpr (e' ▸ W.lt j i (by omega) hi)
  rw [List.length_map, List.length_range, List.length_range] at this
  omega
theorem at_set {owner : Array (Option Nat)} {j i : Nat} {v : Option Nat} (hj : j < owner.size) : at_ (owner.setIfInBounds j v) i = if i = j then v else at_ owner i := by
  unfold at_
  by_cases h : i = j
  · subst h
    rw [if_pos rfl]
    simp [Array.getD_eq_getD_getElem?, hj]
  · rw [if_neg h]
    simp [Array.getD_eq_getD_getElem?, Array.getElem?_setIfInBounds_ne (Ne.symm h)]
theorem Ow.step {m k : Nat} {owner : Array (Option Nat)} (W : Ow m k owner) (hm : Mk2 m) (h : k ≤ m) (hh : Int) : ∃ j, SetTable.layClean.free m owner (SetTable.turns m) (SetTable.bits hh % (m + 1)) (SetTable.bits hh) = some j ∧ Ow m (k + 1) (owner.setIfInBounds j (some k)) := by
  obtain ⟨j0, hj0, e0⟩ := W.hole h
  have hb : SetTable.bits hh < 2 ^ 64 := by
    unfold SetTable.bits
    have h1 := Int.emod_lt_of_pos hh (show (0 : Int) < 2 ^ 64 by decide)
    have h2 := Int.emod_nonneg hh (show (2 : Int) ^ 64 ≠ 0 by decide)
    omega
  cases hf : SetTable.layClean.free m owner (SetTable.turns m) (SetTable.bits hh % (m + 1)) (SetTable.bits hh) with
  | none =>
    obtain ⟨t, ht, et⟩ := pos_cov hm (Nat.le_of_lt_succ (Nat.mod_lt _ (Nat.succ_pos m))) hb hj0
    have := free_none _ _ _ hf t ht
    rw [et, e0] at this
    cases this
  | some j =>
    refine ⟨j, rfl, ?_⟩
    have hn : at_ owner j = none := Option.isNone_iff_eq_none.mp (free_some _ _ _ j hf)
    have hj : j < owner.size := by
      refine Classical.byContradiction fun hc => ?_
      unfold at_ at hn
      rw [Array.getD_eq_getD_getElem?, Array.getElem?_eq_none (by omega)] at hn
      cases hn
    have hjm : j ≤ m := by rw [W.sz] at hj; omega
    refine ⟨by rw [Array.size_setIfInBounds]; exact W.sz, fun i hi => ?_, fun a i ha e => ?_, fun a b i ha hb e1 e2 => ?_⟩
    · by_cases c : i = k
      · subst c
        exact ⟨j, hjm, by rw [at_set hj, if_pos rfl]⟩
      · obtain ⟨a, ha, ea⟩ := W.all i (by omega)
        refine ⟨a, ha, ?_⟩
        rw [at_set hj, if_neg (fun z => by rw [z, hn] at ea; cases ea)]
        exact ea
    · rw [at_set hj] at e
      split at e
      · cases e; omega
      · have := W.lt a i ha e
        omega
    · rw [at_set hj] at e1 e2
      split at e1 <;> split at e2
      · rename_i h1 h2; rw [h1, h2]
      · cases e1
        have := W.lt b k hb e2
        omega
      · cases e2
        have := W.lt a k ha e1
        omega
      · exact W.inj a b i ha hb e1 e2
end ZU

/-! Z29: the sum of two sets of ints. -/
namespace ZU
open PySem PySem.Spec PyProof.Rows L2
/-- a set with its table -/
structure Tb (w : World) (h : Heap) (a : Addr) (S : Int → Bool) (es : Array (Int × Value)) (ep : Nat) (t : SetTable) : Prop where
  ob : ∃ o, h.get? a = some o ∧ o.ExactSet ∧ o.data = .set es ep t
  g : ∀ e ∈ es.toList, GoodE e
  nd : (es.toList.map keyOf).Nodup
  m : ∀ k, S k = true ↔ k ∈ es.toList.map keyOf
  b : es.size < scanBound
  f : t.fits es.size = true
  r : Ris t.place.toList
  l : w.params.followText "set-order" = true ∨ t.led = true
theorem Tb.of {w : World} {h : Heap} {a : Addr} {S : Int → Bool} {n : Nat} (R : SetR w h a S n) : ∃ es ep t, Tb w h a S es ep t ∧ es.size = n := by
  obtain ⟨o, es, ep, t, ho, hex, hd, g, nd, hm, hb, hf, hn, hr, hl⟩ := R
  exact ⟨es, ep, t, ⟨⟨o, ho, hex, hd⟩, g, nd, hm, hb, hf, hr, hl⟩, hn⟩
theorem Tb.keep {w : World} {h h' : Heap} {a : Addr} {S : Int → Bool} {es : Array (Int × Value)} {ep : Nat} {t : SetTable} (T : Tb w h a S es ep t) (k : ∀ o, h.get? a = some o → h'.get? a = some o) : Tb w h' a S es ep t := by
  obtain ⟨⟨o, ho, hex, hd⟩, g, nd, hm, hb, hf, hr, hl⟩ := T
  exact ⟨⟨o, k o ho, hex, hd⟩, g, nd, hm, hb, hf, hr, hl⟩
section
variable {P : Program} {w : World} {A : Around} {E : Value → Shared → Prop} {s : Shared} {a : Addr} {S : Int → Bool} {es : Array (Int × Value)} {ep : Nat} {t : SetTable}
end
end ZU

/-! Z30: a | b of sets of ints; sorted(set(a) | set(b)). -/
namespace ZU
open PySem PySem.Spec PyProof.Rows L2
section
variable {P : Program} {w : World} {A : Around} {E : Value → Shared → Prop} {s : Shared} {a b : Addr}
end
end ZU

/-! Z31: set(xs) of a list of ints, with its table; sorted(set(a)), sorted(set(a) | set(b)). -/
namespace ZU
open PySem PySem.Spec PyProof.Rows L2
section
variable {P : Program} {w : World} {A : Around} {E : Value → Shared → Prop} {s : Shared} {a b : Addr}
end
end ZU

/-! Z32: sorted(set(a)), sorted(set(a) | set(b)). -/
namespace Z
open PySem PySem.Spec PyProof.Rows L2 ZU
section
variable {X : Cx} {c : Ctx} {W : XK} {mods m1 m2 m3 : List Nat} {md : Bool} {e a b o : Expr} {es elts : List Expr} {pos p p1 p2 q q1 q2 q3 : Pos} {ma mb : M D} {ta tb : TE}
def dSrtS (d : D) : Option (List D) := (lstD d).bind fun ds => (intsD ds).bind fun ns => match decide (ns.length < 1000 ∧ (unl ns).length < 64) with
  | true => some ((srtI (unl ns)).map D.int)
  | false => none
def gSetL (d : D) : Option D := (lstD d).bind fun ds => (intsD ds).bind fun ns => match decide (ns.length < 1000) with
  | true => some d
  | false => none
def dSrtU (x y : D) : Option (List D) := (lstD x).bind fun ds => (intsD ds).bind fun ns => (lstD y).bind fun es => (intsD es).bind fun ms => match decide (ns.length + ms.length ≤ 120 ∧ (unl (ns ++ ms)).length < 64) with
  | true => some ((srtI (unl (ns ++ ms))).map D.int)
  | false => none
end
end Z

/-! Z33: two names at once, where a name is a cell: the tuple is made and taken apart. -/
namespace Z
open PySem PySem.Spec PyProof.Rows L2
section
variable {X : Cx} {c : Ctx} {W : XK} {mods : List Nat} {a b : Expr} {pos : Pos} {ma : M (List O)}
end
end Z

set_option maxHeartbeats 2000000
/-! Z34: dicts with ints or texts as keys. -/
namespace Z
open PySem PySem.Spec PyProof.Rows L2
def keyD : D → Option Key
  | .int i => some (.inl i)
  | .str x => some (.inr x)
  | _ => none
theorem keyD_rs {E : Ev} {H : Hp} {d : D} {v : V} {k : Key} (h : keyD d = some k) (r : Rs E H d v) : v = kV k := by
  unfold keyD at h
  split at h
  · cases h
    unfold Rs at r
    exact r
  · cases h
    unfold Rs at r
    exact r
  · cases h
def atK {α : Type} : List Key → List α → Key → Option α
  | k' :: ks, d :: ds, k => if k' = k then some d else atK ks ds k
  | _, _, _ => none
def inK (ks : List Key) (k : Key) : Bool := ks.any fun k' => decide (k' = k)
/-- d[y] -/
def dDIx : D → D → Option D
  | .dic ks ds, y => (keyD y).bind fun k => atK ks ds k
  | _, _ => none
def inD (y d : D) : Option Bool := match d with
  | .dic ks _ => (keyD y).map fun k => inK ks k
  | _ => none
/-- y in d -/
def dDIn (y d : D) : Option D := (inD y d).map D.bl
def dDNi (y d : D) : Option D := (inD y d).map fun b => D.bl (!b)
section
variable {c : Ctx}
end
section
variable {X : Cx} {c : Ctx} {W : XK} {mods m1 m2 m3 : List Nat} {md md1 md2 : Bool} {e a b o : Expr} {pos apos tpos : Pos} {ma mb mi me mk : M D} {mp : M (List Stp)} {i : Nat}
/-! displays -/
theorem zDnew : PE X (.Dict [] [] pos) (tO c W [] (mC (.dic [] []))) := PEw pe_dnewK fun σ H Q ⟨G, S, As, τ, R, q⟩ => by
  intro p hp0
  have R2 := R.keep (Keep.new (o := .dK []) hp0)
  refine q (.ref p) [p] G As _ R2 (Post.of_keep (Ex.refl _) (Keep.new hp0) fun _ _ => rfl) ?_ (R.new1 hp0) (Frs.one (mods := []) (Post.refl (S := S) (As := As) (G := G)) hp0)
  unfold Ro
  exact ⟨p, [], [], rfl, rfl, upd_same, rfl, RoL.nil⟩
/-- {k: v} -/
def dDic1 (k v : D) : Option O := (keyD k).map fun k => .dic [k] [.sh v]
theorem zDisp1 (ha : PE X a (tE c W true m1 mk)) (hb : PE X b (tE c W true m2 mb)) : PE X (.Dict [some a] [b] pos) (tO c W (m1 ++ m2) (m2x dDic1 mk mb)) :=
  PEw (pe_disp (pps_cons ha hb pps_nil) rfl rfl (fun z => nomatch z) (by show (1 : Nat) ≤ 15; omega)) fun σ H Q ⟨G, S, As, τ, R, q⟩ => by
  intro p hp0
  have R0 := R.keep (Keep.new (o := .dK []) hp0)
  have P0 : Post [] S S As As G G H (upd H p (.dK [])) := Post.of_keep (Ex.refl _) (Keep.new hp0) fun _ _ => rfl
  obtain ⟨f0, f1, f2⟩ := R.fresh hp0
  refine ⟨G, S, As, τ, R0, fin_mono (fin_bd q) fun d1 S1 e1 k1 => ?_⟩
  intro v1 G1 As1 H1 R1 P1 r1
  refine ⟨G1, S1, As1, τ, R1, fin_mono (fin_bd k1) fun d2 S2 e2 k2 => ?_⟩
  intro v2 G2 As2 H2 R2 P2 r2
  have P12 := P1.trans P2
  have hH2 : H2 p = some (.dK []) := P12.frm p _ upd_same fun j _ => f2 j
  cases hk : keyD d1 with
  | none =>
    have : dDic1 d1 d2 = none := by unfold dDic1; rw [hk]; rfl
    rw [this] at k2
    exact k2.elim
  | some k =>
    have hdd : dDic1 d1 d2 = some (.dic [k] [.sh d2]) := by unfold dDic1; rw [hk]; rfl
    rw [hdd] at k2
    have hG2 : G2 p = none := (P12.gn p (by rw [upd_same]; exact fun z => nomatch z) fun j _ => f2 j).trans f1
    have hA2 : ∀ j, p ∉ As2 j := fun j z => by
      rcases P12.new j p z with z | ⟨k, _, z⟩ | z
      · exact f2 j z
      · exact f2 k z
      · rw [upd_same] at z; cases z
    have hv1 : v1 = kV k := keyD_rs hk (show Rs c.E G1 d1 v1 from r1)
    refine ⟨hH2, [(k, v2)], by rw [hv1]; rfl, by show (1 : Nat) ≤ 15; omega, ?_⟩
    have hm : mergeK [] [(k, v2)] = [(k, v2)] := rfl
    rw [hm]
    have R3 : Real c G2 S2 As2 τ σ (upd H2 p (.dK [(k, v2)])) := R2.mutOut hG2 hA2 f0
    have P02 : Post (m1 ++ m2) S S2 As As2 G G2 H H2 := (P0.trans P12)
    have P3 := P02.mut (o := .dK [(k, v2)]) hp0 (by rw [hH2]; exact fun z => nomatch z)
    refine k2 (.ref p) [p] G2 As2 _ R3 P3 ?_ ⟨by simp, fun a ha => ?_, fun a ha => ?_, fun a ha => ?_⟩ fun a ha => ?_
    · unfold Ro
      refine ⟨p, [(k, v2)], [], rfl, rfl, upd_same, rfl, ?_⟩
      refine RoL.sh (ds := [d2]) (RsL.cons (show Rs c.E G2 d2 v2 from r2) RsL.nil)
    · obtain rfl : a = p := by simpa using ha
      exact f0
    · obtain rfl : a = p := by simpa using ha
      exact hG2
    · obtain rfl : a = p := by simpa using ha
      exact hA2
    · obtain rfl : a = p := by simpa using ha
      exact .inl hp0
/-! items set -/
def putD (ks : List Key) (os : List O) (k : Key) (d : D) : O := match inK ks k with
  | true => .dic ks (List.zipWith (fun k' o => if k' = k then .sh d else o) ks os)
  | false => .dic (ks ++ [k]) (os ++ [.sh d])
def setK (i : Nat) (p : List Stp) (y d : D) (S : List Sl) : OutS := match sget S i p, keyD y with
  | some (.dic ks os), some k => match decide (ks.length < 16777216) with
    | true => .next (sput S i p (putD ks os k d))
    | false => .bad
  | _, _ => .bad
def sSetD (i : Nat) (me : M D) (mp : M (List Stp)) (mi : M D) : MS := fun S => (me S).sd fun d S1 => (mp S1).sd fun p S2 => (mi S2).sd fun y S3 => setK i p y d S3
/-- x[y], x a dict of one's own, what it holds shared -/
def mRdD (i : Nat) (mp : M (List Stp)) (mi : M D) : M D := fun S => (mp S).bd fun p S1 => (mi S1).bd fun y S2 => match sget S2 i p, keyD y with
  | some (.dic ks os), some k => match atK ks os k with
    | some (.sh d) => .ok d S2
    | _ => .bad
  | _, _ => .bad
end
end Z

/-! Z35: a keyword that lacks, its default the empty tuple. -/
namespace Z
open PySem PySem.Spec PyProof.Rows L2
/-! the hook, with more to see -/
theorem ex_at {ex : List (PySem.W.Frag → Bool)} {K : PySem.W.Frag} (h : (ex.all fun f => f K) = true) (i : Nat) {f : PySem.W.Frag → Bool} (e : ex[i]? = some f := by rfl) : f K = true :=
  List.all_eq_true.mp h f (List.mem_of_getElem? e)
section
variable {P : Program} {w : World} {K : PySem.W.Frag} {mg : Str → Option Value} {base : Heap} {x qual : Str} {params : Arguments} {body : List Stmt} {scope : Scope} {f : Addr} {fd : FuncData} {kws : List (Str × V)}
end
section
variable {X : Cx} {c : Ctx} {W : XK} {k nn n : Nat} {fa C : Addr} {fd : FuncData} {ps : List Str} {x : Str} {p pos : Pos} {e : Expr} {es : List Expr} {ma : M (List Av)} {m1 bs io : List Nat} {f : Fn} {mv : List Value}
end
end Z

set_option maxHeartbeats 4000000
/-! Z36: a call with seen arguments; its answer has no shared objects within. -/
namespace Z
open PySem PySem.Spec PyProof.Rows L2
def callP (n : Nat) (f : Fn) (ds : List D) : Option O := match decide (ds.length = n), f (ds.map .pl) with
  | true, .ok o _ => match clO o with
    | true => some o
    | false => none
  | _, _ => none
def mCallP (n : Nat) (f : Fn) (m : M (List D)) : M O := m1x (callP n f) m
section
variable {X : Cx} {c : Ctx} {W : XK} {mods : List Nat} {n k : Nat} {f : Fn} {fa : Addr} {fd : FuncData} {ps : List Str} {x : Str} {p pos : Pos} {e : Expr} {es : List Expr} {ma : M (List D)}
end
/-! an item of a thing of one's own that is then left -/
def oIx : O → D → Option O
  | .tup os, .int i => atI os i
  | .lst os, .int i => atI os i
  | .sh d, .int i => (dIx d (.int i)).map .sh
  | _, _ => none
end Z

/-! Z37: dicts by comprehension; ranges with a step; two targets. -/
namespace Z
open PySem PySem.Spec PyProof.Rows L2
def putKD (L : List (Key × D)) (k : Key) (d : D) : List (Key × D) := if L.any (fun p => decide (p.1 = k)) = true then L.map (fun p => if p.1 = k then (p.1, d) else p) else L ++ [(k, d)]
def mkD (ps : List (Key × D)) : List (Key × D) := ps.foldl (fun L p => putKD L p.1 p.2) []
def dicOf (ps : List (Key × D)) : O := .dic ((mkD ps).map (·.1)) ((mkD ps).map fun p => .sh p.2)
theorem putKD_len (L : List (Key × D)) (k : Key) (d : D) : (putKD L k d).length ≤ L.length + 1 := by
  unfold putKD
  split
  · rw [List.length_map]; omega
  · rw [List.length_append]; simp
theorem foldD_len : ∀ (ps : List (Key × D)) (L : List (Key × D)), (ps.foldl (fun L p => putKD L p.1 p.2) L).length ≤ L.length + ps.length
  | [], L => by simp
  | p :: ps, L => by
    have h1 := foldD_len ps (putKD L p.1 p.2)
    have h2 := putKD_len L p.1 p.2
    rw [List.foldl_cons, List.length_cons]
    omega
theorem mkD_snoc {ps : List (Key × D)} {p : Key × D} : mkD (ps ++ [p]) = putKD (mkD ps) p.1 p.2 := by
  unfold mkD
  rw [List.foldl_append]
  rfl
structure DK (E : Ev) (G : Hp) (acc : List (Key × D)) (kvs : List (Key × V)) : Prop where
  kys : kvs.map (·.1) = (mkD acc).map (·.1)
  vls : RsL E G ((mkD acc).map (·.2)) (kvs.map (·.2))
section
variable {E : Ev} {G G' H : Hp} {acc : List (Key × D)} {kvs : List (Key × V)} {k : Key} {d : D} {v : V}
theorem DK.nil : DK E G [] [] := ⟨rfl, .nil⟩
theorem DK.mono (e : Ex G G') (h : DK E G acc kvs) : DK E G' acc kvs := ⟨h.kys, RsL.mono e h.vls⟩
theorem DK.len (h : DK E G acc kvs) : kvs.length ≤ acc.length := by
  have h1 : kvs.length = (mkD acc).length := by
    have := congrArg List.length h.kys
    rwa [List.length_map, List.length_map] at this
  have h2 := foldD_len acc []
  have e : mkD acc = acc.foldl (fun L p => putKD L p.1 p.2) [] := rfl
  rw [← e] at h2
  simp only [List.length_nil] at h2
  omega
theorem DK.own (h : DK E G acc kvs) : RoL E G H ((mkD acc).map fun p => .sh p.2) (kvs.map (·.2)) [] := by
  have := RoL.sh (H := H) h.vls
  rw [List.map_map] at this
  exact this
theorem any_kys {L : List (Key × D)} {kvs : List (Key × V)} (h : kvs.map (·.1) = L.map (·.1)) : (kvs.any fun p => decide (p.1 = k)) = L.any fun p => decide (p.1 = k) := by
  have e1 : (kvs.any fun p => decide (p.1 = k)) = (kvs.map (·.1)).any fun x => decide (x = k) := by rw [List.any_map]; rfl
  have e2 : (L.any fun p => decide (p.1 = k)) = (L.map (·.1)).any fun x => decide (x = k) := by rw [List.any_map]; rfl
  rw [e1, e2, h]
theorem repl_rs (rv : Rs E G d v) : ∀ {L : List (Key × D)} {kvs : List (Key × V)}, kvs.map (·.1) = L.map (·.1) → RsL E G (L.map (·.2)) (kvs.map (·.2)) → (kvs.map fun p => if p.1 = k then (p.1, v) else p).map (·.1) = (L.map fun p => if p.1 = k then (p.1, d) else p).map (·.1) ∧ RsL E G ((L.map fun p => if p.1 = k then (p.1, d) else p).map (·.2)) ((kvs.map fun p => if p.1 = k then (p.1, v) else p).map (·.2))
  | [], [], _, h => ⟨rfl, h⟩
  | [], _ :: _, h, _ => by cases h
  | _ :: _, [], h, _ => by cases h
  | p :: L, q :: kvs, h, r => by
    simp only [List.map_cons, List.cons.injEq] at h
    have r' : RsL E G (p.2 :: L.map (·.2)) (q.2 :: kvs.map (·.2)) := r
    unfold RsL at r'
    obtain ⟨w, s, e1, r1, r2⟩ := r'
    cases e1
    obtain ⟨h3, h4⟩ := repl_rs rv h.2 r2
    simp only [List.map_cons]
    rw [h3]
    by_cases hk : p.1 = k
    · rw [if_pos hk, if_pos (h.1.trans hk)]
      exact ⟨by rw [h.1], .cons rv h4⟩
    · rw [if_neg hk, if_neg fun z => hk (h.1.symm.trans z)]
      exact ⟨by rw [h.1], .cons r1 h4⟩
theorem DK.snoc (h : DK E G acc kvs) (rv : Rs E G d v) : DK E G (acc ++ [(k, d)]) (putK kvs k v) := by
  have e := any_kys (k := k) h.kys
  unfold putK
  refine ⟨?_, ?_⟩
  · rw [mkD_snoc]
    unfold putKD
    rw [e]
    split
    · exact (repl_rs rv h.kys h.vls).1
    · rw [List.map_append, List.map_append, h.kys]
      rfl
  · rw [mkD_snoc]
    unfold putKD
    rw [e]
    split
    · exact (repl_rs rv h.kys h.vls).2
    · rw [List.map_append, List.map_append]
      exact .append h.vls (.cons rv .nil)
end
/-- one turn after another: the pairs -/
def cmpGoK (g : Tg) (t : M Bool) (ek : M D) (e : M D) (vs : List Nat) : List D → List Sl → Out (List (Key × D))
  | [] => fun S => .ok [] S
  | d :: ds => fun S => match g d S with
    | none => .bad
    | some S1 => (t S1).bn fun b S2 => match b with
      | true => (ek S2).bn fun y S3 => (e S3).bn fun x S4 => match keyD y with
        | some k => (cmpGoK g t ek e vs ds (wipeS S4 vs)).bn fun xs S5 => .ok ((k, x) :: xs) S5
        | none => .bad
      | false => cmpGoK g t ek e vs ds (wipeS S2 vs)
def mCompK (mi : M (List D)) (g : Tg) (t : M Bool) (ek e : M D) (vs : List Nat) : M O := fun S => (mi S).bd fun ds S1 => match decide (ds.length ≤ 16777216) && vs.all fun v => notOw S1[v]? with
  | true => (cmpGoK g t ek e vs ds (wipeS S1 vs)).bn fun xs S2 => .ok (dicOf xs) (restS S1 S2 vs)
  | false => .bad
section
variable {X : Cx} {c : Ctx} {W : XK} {mods m1 m2 m3 m4 vs ts : List Nat} {kx elt tg iter : Expr} {mi : M (List D)} {g : Tg} {t : M Bool} {mk me : M D}
end
/-! a range downwards -/
def rangeDn (i : Int) (n : Nat) : List D := (List.range n).map fun (k : Nat) => D.int (i + (k : Int) * (-1))
def itR3 : List D → Option (List D)
  | [.int i, .int j, .int k] => match decide (-(2 ^ 62) ≤ i ∧ i < 2 ^ 62 ∧ -(2 ^ 62) ≤ j ∧ j < 2 ^ 62 ∧ k = -1) with
    | true => some (rangeDn i (i - j).toNat)
    | false => none
  | _ => none
section
variable {X : Cx} {c : Ctx} {W : XK} {mods : List Nat} {md : Bool} {a b d : Expr} {pos : Pos}
end
end Z

/-! Z38: a dict's items walked by a comprehension (the dict locked meanwhile); dicts by comprehension as shared data; extend; two items set at once; slices of tuples. -/
namespace Z
open PySem PySem.Spec PyProof.Rows L2
section
variable {X : Cx} {c : Ctx} {W : XK} {mods m1 m2 m3 vs ts : List Nat} {elt tg iter : Expr} {mi : M (List D)} {g : Tg} {t : M Bool} {me : M D}
def Ctx.un (c : Ctx) (d : Addr) : Ctx := { c with H0 := fun a => if a = d then none else c.H0 a }
section
variable {G G' H H' : Hp} {S S' : List Sl} {As As' : Nat → List Addr} {τ τ0 : List V} {σ σ0 : L2.St} {d : Addr} {u : HO} {od : Obj}
end
def keyO : Key → D
  | .inl i => .int i
  | .inr x => .str x
def itemsD (ks : List Key) (ds : List D) : List D := List.zipWith (fun k d => D.tup [keyO k, d]) ks ds
/-- [elt for tg in d.items() if ..], d a name of shared data -/
def mCompIt (i : Nat) (g : Tg) (t : M Bool) (e : M D) (vs : List Nat) : M O := fun S => match S[i]? with
  | some (.pl (.dic ks ds)) => match mComp (mC (itemsD ks ds)) g t e vs S with
    | .ok o S' => .ok o S'
    | _ => .bad
  | _ => .bad
end
/-! more methods that change a list: their arguments seen as they stand -/
section
variable {X : Cx} {c : Ctx} {W : XK} {mods m1 m2 m3 : List Nat} {md : Bool} {e o a b : Expr} {es : List Expr} {pos apos cpos tpos p2 : Pos} {i : Nat} {mp : M (List Stp)} {ma : M (List O)} {m mi me : M D} {ml mh : M (Option Int)} {lo hi : Option Expr}
def fExt : MutF := fun os args => match args with
  | [.sh (.lst ds)] => match decide (os.length + ds.length ≤ sizeLine) with
    | true => some (.non, os ++ ds.map .sh)
    | false => none
  | [.sh (.tup ds)] => match decide (os.length + ds.length ≤ sizeLine) with
    | true => some (.non, os ++ ds.map .sh)
    | false => none
  | [.lst os2] => match decide (os.length + os2.length ≤ sizeLine) with
    | true => some (.non, os ++ os2)
    | false => none
  | _ => none
/-- t[lo:hi] of a tuple, not the whole of it -/
def mSlT (m : M D) (ml mh : M (Option Int)) : M O := fun S => (m S).bd fun d S1 => (ml S1).bd fun lo S2 => (mh S2).bd fun hi S3 => match d with
  | .tup ds => match decide (HT.sIx ds.length 0 lo = 0 ∧ HT.sIx ds.length ds.length hi = ds.length) with
    | false => .ok (.tup ((cutD ds lo hi).map .sh)) S3
    | true => .bad
  | _ => .bad
end
section
variable {X : Cx} {c : Ctx} {W : XK} {mods m1 m2 m3 m4 vs ts : List Nat} {kx elt tg iter e o a b o2 : Expr} {mi : M (List D)} {g : Tg} {t : M Bool} {mk me : M D} {md : Bool} {pos tpos tpos2 p2 : Pos} {i : Nat} {mp mp2 : M (List Stp)} {mj mj2 : M D}
end
/-! x in l, of data of any depth -/
def inDB (x y : D) : Option Bool := match y with
  | .lst ds => (toPy x).bind fun p => (toPyL ds).bind fun qs => match SeqAt.shaped p && SeqAt.shaped (.list qs) with
    | true => some (qs.any fun z => PyData.eqv z p)
    | false => none
  | _ => none
def dInD (x y : D) : Option D := (inDB x y).map D.bl
def dNiD (x y : D) : Option D := (inDB x y).map fun b => D.bl (!b)
section
variable {X : Cx} {c : Ctx} {W : XK} {m1 m2 : List Nat} {a b : Expr} {pos : Pos} {md1 md2 : Bool} {ma mb : M D}
end
end Z

/-! Z39: sorted(xs) of lists or tuples of any alike data; x < y of such. -/
namespace Z
open PySem PySem.Spec PyProof.Rows L2
section
variable {X : Cx}
end
/-! the answer, over data -/
theorem RsL.zip {E : Ev} {H : Hp} : ∀ {ds : List D} {vs : List V}, RsL E H ds vs → (vs.zip ds).map (·.1) = vs ∧ (vs.zip ds).map (·.2) = ds ∧ ∀ b ∈ vs.zip ds, Rs E H b.2 b.1
  | [], vs, h => by
    unfold RsL at h
    subst h
    exact ⟨rfl, rfl, fun b hb => (nomatch hb)⟩
  | d :: ds, vs, h => by
    unfold RsL at h
    obtain ⟨v, r, rfl, h1, h2⟩ := h
    obtain ⟨e1, e2, e3⟩ := RsL.zip h2
    rw [List.zip_cons_cons, List.map_cons, List.map_cons, e1, e2]
    refine ⟨rfl, rfl, fun b hb => ?_⟩
    rcases List.mem_cons.mp hb with rfl | hb
    · exact h1
    · exact e3 b hb
/-! x < y, of alike data -/
section
variable {X : Cx} {c : Ctx} {W : XK} {m1 m2 : List Nat} {a b : Expr} {pos : Pos} {md1 md2 : Bool} {ma mb : M D}
end
end Z

/-! Z40: a tuple of one's own taken apart into two names that then hold its parts. -/
namespace Z
open PySem PySem.Spec PyProof.Rows L2
section
variable {X : Cx} {c : Ctx} {W : XK} {mods : List Nat} {e : Expr} {pos : Pos} {mo : M O}
end
/-! a list of one's reading taken apart -/
section
variable {X : Cx} {c : Ctx} {pos : Pos}
end
end Z

/-! Z41: an own slot seen as data while an expression is evaluated; it is one's own again behind it. -/
namespace Z
open PySem PySem.Spec PyProof.Rows L2
section
variable {c : Ctx} {G G' H H' : Hp} {S S' : List Sl} {As As' : Nat → List Addr} {τ : List V} {σ : L2.St} {i : Nat} {o : O} {mods ms : List Nat}
theorem set_same {α : Type} {xs : List α} {i : Nat} {x : α} (h : xs[i]? = some x) : xs.set i x = xs := by
  apply List.ext_getElem?
  intro j
  by_cases hj : j = i
  · subst hj
    rw [List.getElem?_set_self (List.getElem?_eq_some_iff.mp h).1, h]
  · rw [List.getElem?_set_ne (Ne.symm hj)]
/-- into the view -/
theorem Real.shown (R : Real c G S As τ σ H) (hi : i < σ.length) (hio : i ∉ c.io) (h : S[i]? = some (.ow o)) :
    Real c (frz G H (As i)) (S.set i (.pl (fr o))) (upA As i []) τ σ H := by
  obtain ⟨v, h1, h2, R2, N⟩ := R.take hi hio h
  have R4 := (R2.freeze N).put (i := i) (s := .pl (fr o)) (v := v) (A := []) hi hio New.nil ⟨rfl, v, rfl, R2.frozen N h2⟩
  have es : (S.set i .no).set i (.pl (fr o)) = S.set i (.pl (fr o)) := List.set_set ..
  have eA : upA (upA As i []) i [] = upA As i [] := by
    funext j
    by_cases hj : j = i
    · rw [hj, upA_same, upA_same]
    · rw [upA_ne hj]
  rw [es, set_same h1, eA] at R4
  exact R4
end
section
variable {X : Cx} {c : Ctx} {W : XK} {mods ms : List Nat} {md : Bool} {e : Expr} {m : M D} {mt : M Bool} {mo : M O} {i : Nat}
end
section
variable {X : Cx} {c : Ctx} {W : XK} {mods ms m1 m2 m3 vs ts : List Nat} {elt tg iter : Expr} {mi : M (List D)} {g : Tg} {t : M Bool} {me : M D}
end
end Z

/-! Z42: a walk over an own list that returns the item that is found, as one's own. -/
namespace Z
open PySem PySem.Spec PyProof.Rows L2
theorem RoL.len {E : Ev} {G H : Hp} {os : List O} {vs : List V} {A : List Addr} (h : RoL E G H os vs A) : os.length = vs.length := RoL.length h
section
variable {X : Cx} {c : Ctx} {W : XK} {mods ms : List Nat} {e : Expr} {t : M Bool} {i x : Nat}
end
end Z

/-! Z43: a walk over the items of an own tuple, each of them one's own in its turn. -/
namespace Z
open PySem PySem.Spec PyProof.Rows L2
/-- the state as an entry of its own: what is at hand is lent -/
def Ctx.sub (c : Ctx) (G H : Hp) (As : Nat → List Addr) (io : List Nat) (vals : List V) : Ctx := ⟨c.E, G, H, As, io, vals⟩
def valsOf (σ : L2.St) : List V := σ.map fun x => x.getD .non
theorem valsOf_at {σ : L2.St} {i : Nat} {v : V} (h : σ[i]? = some (some v)) : (valsOf σ)[i]? = some v := by
  unfold valsOf
  rw [List.getElem?_map, h]
  rfl
def isOwn : Sl → Bool
  | .ow _ => true
  | _ => false
def ownsAre (S : List Sl) (io : List Nat) : Bool := (List.range S.length).all fun j => (isOwn (S.getD j .no)) == decide (j ∈ io)
theorem ownsAre_at {S : List Sl} {io : List Nat} (h : ownsAre S io = true) {j : Nat} {s : Sl} (e : S[j]? = some s) : isOwn s = decide (j ∈ io) := by
  have hl := (List.getElem?_eq_some_iff.mp e).1
  have h1 := List.all_eq_true.mp h j (List.mem_range.mpr hl)
  rw [List.getD_eq_getElem?_getD, e] at h1
  simpa using h1
section
variable {c : Ctx} {G G' H H' : Hp} {S S' : List Sl} {As As' : Nat → List Addr} {τ : List V} {σ σ' : L2.St} {io : List Nat}
theorem Real.sub (R : Real c G S As [] σ H) (ho : ownsAre S io = true) (hb : ∀ j ∈ io, j < S.length) : Real (c.sub G H As io (valsOf σ)) G S As [] σ H where
  exG := R.exG
  sl := R.sl
  len := R.len
  emp := R.emp
  nd := R.nd
  dj := R.dj
  nf := R.nf
  g0 := Ex.refl G
  gn := fun _ _ => rfl
  fr0 := fun _ _ h _ => h
  stay := fun _ h => h
  fn := fun i a ha => by
    refine .inr ⟨?_, ha⟩
    cases e : S[i]? with
    | none =>
      rw [R.emp i (List.getElem?_eq_none_iff.mp e)] at ha
      cases ha
    | some s =>
      have h1 := ownsAre_at ho e
      have h2 := R.sl i s e
      cases s with
      | ow o => exact of_decide_eq_true h1.symm
      | no =>
        have h3 : As i = [] := h2
        rw [h3] at ha
        cases ha
      | pl d =>
        rw [h2.1] at ha
        cases ha
  io := fun i hi => by
    have hi : i ∈ io := hi
    have hl := hb i hi
    have e : S[i]? = some S[i] := List.getElem?_eq_getElem hl
    have h1 := ownsAre_at ho e
    rw [decide_eq_true hi] at h1
    generalize S[i] = s at e h1
    cases s with
    | ow o =>
      have hl2 : i < σ.length := by have := R.len; simp at this; omega
      obtain ⟨v, h2, _⟩ := ow_at R hl2 e
      exact ⟨o, v, e, valsOf_at h2, h2⟩
    | no => cases h1
    | pl d => cases h1
end
section
variable {X : Cx} {c : Ctx} {W : XK} {i x : Nat} {io : List Nat} {b : MS} {body : List Stmt}
end
end Z

/-! Z44: a tuple of one's own taken apart into three names that then hold its parts. -/
namespace Z
open PySem PySem.Spec PyProof.Rows L2
section
variable {X : Cx} {c : Ctx} {W : XK} {mods : List Nat} {e : Expr} {pos : Pos} {mo : M O}
end
section
variable {X : Cx} {c : Ctx} {W : XK} {m2 : List Nat} {md2 : Bool} {b : Expr} {pos : Pos} {mb : M D} {i : Nat}
end
end Z

/-! Z45: the items of an own list shared from now on; an own list made while another thing is shown. -/
namespace Z
open PySem PySem.Spec PyProof.Rows L2
section
variable {X : Cx} {c : Ctx} {W : XK} {mods ms : List Nat} {md : Bool} {e : Expr} {mo : M O} {i : Nat}
end
section
variable {X : Cx} {c : Ctx} {W : XK} {mods ms m1 m2 m3 vs ts : List Nat} {elt tg iter : Expr} {mi : M (List D)} {g : Tg} {t : M Bool} {me : M O}
end
end Z

set_option maxHeartbeats 2000000
/-! Z46: own error classes: their making, raise. -/
namespace Z
open PySem PySem.Spec PyProof.Rows L2
/-! ### what is seen of the classes -/
def fldNames : List Str := ["place", "at", "limit", "number", "post"]
def kitB (cs : List Str) (K : PySem.W.Frag) (C : Str) : Bool := (fldNames.all fun f => He.eqO (PySem.W.findIn K (.ref (He.ga K C)) f) (some none)) && ((cs.all fun D => decide (PySem.W.kitOne K (.ref (He.ga K C)) (.ref (He.ga K D)) = some (decide (C = D))) && decide (PySem.W.exmOne K (.ref (He.ga K C)) (.ref (He.ga K D)) = some (decide (C = D)))) &&
  (decide (PySem.W.kitOne K (.ref (He.ga K C)) (.ref (He.ga K "OddError")) = some true) && (decide (PySem.W.kitOne K (.ref (He.ga K C)) (.type "ValueError") = some true) && decide (PySem.W.exmOne K (.ref (He.ga K C)) (.ref (He.ga K "OddError")) = some true))))
/-- what is known of the class C -/
structure ExK (cs : List Str) (K : PySem.W.Frag) (C : Str) : Prop where
  oex : OexC K (He.ga K C)
  exi : ExcC K (He.ga K C)
  ini : PySem.W.findIn K (.ref (He.ga K C)) "__init__" = some (some (.ref (He.ma K (He.ga K C) "__init__")))
  tyI : PySem.W.typeIn K (.ref (He.ma K (He.ga K C) "__init__")) = some (.type "function")
  kit : ∀ D, D ∈ cs → PySem.W.kitOne K (.ref (He.ga K C)) (.ref (He.ga K D)) = some (decide (C = D))
  exm : ∀ D, D ∈ cs → PySem.W.exmOne K (.ref (He.ga K C)) (.ref (He.ga K D)) = some (decide (C = D))
  kit0 : PySem.W.kitOne K (.ref (He.ga K C)) (.ref (He.ga K "OddError")) = some true
  kitV : PySem.W.kitOne K (.ref (He.ga K C)) (.type "ValueError") = some true
  exm0 : PySem.W.exmOne K (.ref (He.ga K C)) (.ref (He.ga K "OddError")) = some true
  fld : ∀ f, f ∈ fldNames → PySem.W.findIn K (.ref (He.ga K C)) f = some none
/-! ### C.__init__(self, ..) of a class over ValueError without an own __init__ -/
section
variable {X : Cx} {e : Expr} {es : List Expr} {ta : TA} {p1 p2 pos : Pos} {x : Str} {C0 : Addr}
end
/-! ### the own __init__ of an error class -/
section
variable {P : Program} {w : World} {K : PySem.W.Frag} {mg : Str → Option Value} {base : Heap} {CX : CXT} {x qual : Str} {params : Arguments} {body : List Stmt} {scope : Scope} {f : Addr} {fd : FuncData} {kws : List (Str × V)} {k : Nat} {m m1 m2 y : Str}
end
/-! ### raise C(), raise C(e) -/
section
variable {X : Cx} {pins : List (Addr × Obj)} {σ : L2.St}
end

/-! ### raise, as a mirror -/
section
variable {X : Cx} {c : Ctx} {W : XK} {mods : List Nat} {cn x : Str} {C fI : Addr} {k : Nat} {fd : FuncData} {p pos pos' : Pos} {e : Expr} {m : M D} {md : Bool} {f : Str}
end

/-! ### the hook, with the statics seen too -/
end Z

set_option maxHeartbeats 4000000
/-! Z47: try .. except C as e; isinstance(e, ..), e.f. -/
namespace PySem.W
open PySem PySem.Spec PySem.Calls PyProof.Rows
section
variable {prog : Program} {w : World} {A : Around} {E : Value → Shared → Prop} {s : Shared} {K : Frag} {x D : Addr} {ox : Obj} {od : Option Obj}
end
end PySem.W
namespace Z
open PySem PySem.Spec PyProof.Rows L2
/-- no slot holds a thing that is known -/
abbrev blS (n : Nat) : List Sl := List.replicate n .no
/-- what is known in an except suite: e stands in slot i, at a; its class is C, its fields fs are ds -/
structure XP (c : Ctx) (n : Nat) (cs : List Str) (i : Nat) (a : Addr) (cls : Value) (d : Option Addr) (C : Str) (fs : List Str) (ds : List D) (G : Hp) (σ : L2.St) (H : Hp) : Prop where
  mem : C ∈ cs
  cl : cls = .ref (c.E.ca C)
  at_ : σ[i]? = some (some (.ref a))
  fl : ExcAt c.E G H fs ds d
  re : Real c G (blS n) (fun _ => []) [] σ H
theorem ExcAt.keep {E : Ev} {G G' H H' : Hp} {fs : List Str} {ds : List D} {dd : Option Addr} (h : ExcAt E G H fs ds dd) (e : Ex G G') (k : Keep H H') : ExcAt E G' H' fs ds dd := by
  rcases h with h | ⟨d, xs, h1, h2, h3, h4⟩
  · exact .inl h
  · exact .inr ⟨d, xs, h1, k _ _ h2, h3, h4.mono e⟩
inductive XO where
  | ret (o : O) | fall | bad
abbrev XM := Str → List Str → List D → XO
section
variable {X : Cx} {c : Ctx} {n : Nat} {cs : List Str} {i : Nat} {a : Addr} {cls : Value} {d : Option Addr} {oe : Obj} {pn : List (Addr × Obj)} {e e1 e2 : Expr} {t u : Str → Bool} {m : Str → List Str → List D → Option D} {m1 m2 : XM} {pos p1 p2 p3 p4 p5 : Pos} {rest : List Expr}
end

/-! ### isinstance(e, dn), e.f -/
def clsV (K : PySem.W.Frag) (dn : Str) : V := if dn = "ValueError" then .ty "ValueError" else .ref (He.ga K dn)
section
variable {X : Cx} {c : Ctx} {n : Nat} {cs : List Str} {i : Nat} {a : Addr} {cls : Value} {d : Option Addr} {oe : Obj} {pn : List (Addr × Obj)} {x dn : Str} {pos p1 p2 p3 p4 p5 : Pos}
/-- the names of classes -/
inductive Cns (Y : Cx) : List Expr → List Str → Prop where
  | nil : Cns Y [] []
  | cons {es : List Expr} {Ds : List Str} {dn : Str} {p : Pos} (h : PE Y (.Name dn p) (tC (clsV Y.K dn))) (r : Cns Y es Ds) : Cns Y (.Name dn p :: es) (dn :: Ds)
end

/-! ### try -/
section
variable {X : Cx} {c : Ctx} {W : XK} {n : Nat} {cs : List Str} {i : Nat} {x : Str} {body suite : List Stmt} {b₀ : Stmt} {np pos pos' : Pos} {mb : MS} {mx : XM}
end
end Z

set_option maxHeartbeats 2000000
/-! Z48: chains of three comparisons. -/
namespace Z
open PySem PySem.Spec PyProof.Rows L2
section
variable {X : Cx} {c : Ctx} {W : XK} {m1 m2 m3 m4 : List Nat} {a b e d : Expr} {pos : Pos} {ma mb mc md : M D} {ta tb tc td : TE} {r1 r2 r3 : R2} {f g h : D → D → Option D}
end
end Z

/-! Z49: t[::-1] of a tuple. -/
namespace HT
open PySem PySem.Spec PyProof.Rows Builtin
section
variable {prog : Program} {w : World} {A : Around} {E : Value → Shared → Prop} {s : Shared}
end
end HT
namespace Z
open PySem PySem.Spec PyProof.Rows L2
section
variable {X : Cx} {c : Ctx} {W : XK} {mods : List Nat} {e : Expr} {m : M D} {pos : Pos}
end
end Z

/-! Z50: repr of things that may hold dicts. -/
namespace Z
open PySem PySem.Spec PyProof.Rows L2
def pyKey : Key → PyData
  | .inl i => .int i
  | .inr x => .str x
mutual
def toPyX : D → Option PyData
  | .non => some .none
  | .bl b => some (.bool b)
  | .int i => some (.int i)
  | .str x => some (.str x)
  | .lst ds => (toPyXL ds).map .list
  | .tup ds => (toPyXL ds).map .tuple
  | .dic ks ds => (toPyXL ds).map fun ps => .dict ((ks.map pyKey).zip ps)
  | .obj _ _ _ => none
  | .fls _ => none
def toPyXL : List D → Option (List PyData)
  | [] => some []
  | d :: ds => match toPyX d, toPyXL ds with
    | some p, some ps => some (p :: ps)
    | _, _ => none
end
/-- sys.modules is seen -/
def smB (K : PySem.W.Frag) : Bool := match K.lookup sysModules with
  | some o => decide (o.cls = .type "dict")
  | none => false
theorem keys_read {P : Program} {w : World} {h : Heap} : ∀ {es : List DictEntry} {kvs : List (Key × V)} {vs : List (Key × Value)}, Pairs (mixKind P w) es vs → KV kvs vs → ReadsAll h (es.map (·.key)) (kvs.map fun kv => pyKey kv.1) [] ∧ Vals (kvs.map (·.2)) (es.map (·.val))
  | [], kvs, vs, p, r => by
    cases p
    cases r
    exact ⟨.nil, .nil⟩
  | e :: es, kvs, vs, p, r => by
    cases p with
    | @cons _ kv _ vs hk hv pr =>
      cases r with
      | @cons q _ qs _ r1 rr =>
        obtain ⟨k1, k2⟩ := keys_read pr rr
        obtain ⟨e1, e2⟩ := r1
        refine ⟨?_, .cons (show L2.RelV q.2 e.val from hv ▸ e2) k2⟩
        have hk' : keyIs kv.1 e.key = true := hk
        have : ReadsAll h (e.key :: es.map (·.key)) (pyKey q.1 :: qs.map fun kv => pyKey kv.1) ([] ++ []) := by
          refine .cons ?_ k1
          rw [e1]
          rcases keyIs_shape hk' with ⟨i, t, h1, h2⟩ | ⟨x, t, h1, h2⟩
          · rw [h1, h2]; exact .int i t
          · rw [h1, h2]; exact .str x t
        exact this
theorem toPyXL_len : ∀ {ds : List D} {ps : List PyData}, toPyXL ds = some ps → ps.length = ds.length
  | [], ps, e => by
    unfold toPyXL at e
    cases e
    rfl
  | d :: ds, ps, e => by
    unfold toPyXL at e
    split at e
    · rename_i p qs h1 h2
      cases e
      rw [List.length_cons, List.length_cons, toPyXL_len h2]
    · cases e
section
variable {X : Cx} {E : Ev} {pins : List (Addr × Obj)} {σ : L2.St} {H : Hp} {s : Shared}
mutual
theorem readsX (hK : E.K = X.K) (hs : smB X.K = true) (I : L2.Inv X pins σ H s) : ∀ {d : D} {v : V} {u : Value} {p : PyData}, Rs E H d v → toPyX d = some p → RelV v u → ∃ as, Reads s.heap u p as ∧ sysModules ∉ as
  | .non, v, u, p, h, e, r => by
    unfold Rs at h; unfold toPyX at e
    cases e; subst h; cases r
    exact ⟨_, .none, fun z => nomatch z⟩
  | .bl b, v, u, p, h, e, r => by
    unfold Rs at h; unfold toPyX at e
    cases e; subst h; cases r
    exact ⟨_, .bool b, fun z => nomatch z⟩
  | .int b, v, u, p, h, e, r => by
    unfold Rs at h; unfold toPyX at e
    cases e; subst h
    obtain ⟨t, rfl⟩ := r
    exact ⟨_, .int b t, fun z => nomatch z⟩
  | .str b, v, u, p, h, e, r => by
    unfold Rs at h; unfold toPyX at e
    cases e; subst h
    obtain ⟨t, rfl⟩ := r
    exact ⟨_, .str b t, fun z => nomatch z⟩
  | .lst ds, v, u, p, h, e, r => by
    unfold Rs at h; unfold toPyX at e
    obtain ⟨a, xs, rfl, h2, h3⟩ := h
    cases q : toPyXL ds with
    | none => rw [q] at e; cases e
    | some ps =>
      rw [q] at e
      cases e
      cases r
      obtain ⟨its, rv, ⟨o, n, ho, hc, _, hd⟩, _⟩ := I.list (SqL.of h2)
      obtain ⟨as, hr, hn⟩ := readsXL hK hs I h3 q rv
      refine ⟨_, Reads.list ho hc hd hr, fun z => ?_⟩
      rcases List.mem_cons.mp z with z | z
      · unfold smB at hs
        cases hl : X.K.lookup sysModules with
        | none => rw [hl] at hs; cases hs
        | some o2 =>
          rw [hl] at hs
          have h1 := I.kIn _ _ hl
          rw [z, ho] at h1
          cases h1
          have := of_decide_eq_true hs
          rw [hc] at this
          exact absurd this (by decide)
      · exact hn z
  | .tup ds, v, u, p, h, e, r => by
    unfold Rs at h; unfold toPyX at e
    obtain ⟨a, xs, rfl, h2, h3⟩ := h
    cases q : toPyXL ds with
    | none => rw [q] at e; cases e
    | some ps =>
      rw [q] at e
      cases e
      cases r
      have h4 : SqT X.K H a xs := hK ▸ h2.sq
      obtain ⟨its, rv, ⟨o, ho, hc, n, hd⟩, _⟩ := I.tuple h4
      obtain ⟨as, hr, hn⟩ := readsXL hK hs I h3 q rv
      exact ⟨_, Reads.tuple ho hc hd hr, hn⟩
  | .dic ks ds, v, u, p, h, e, r => by
    unfold Rs at h; unfold toPyX at e
    obtain ⟨a, kvs, rfl, h2, h3, h4⟩ := h
    cases q : toPyXL ds with
    | none => rw [q] at e; cases e
    | some ps =>
      rw [q] at e
      cases e
      cases r
      obtain ⟨hz, hsm, vs, kv, o, es, ep, ho, hx, hd, hko, hp⟩ := dk_rd I.hok h2
      obtain ⟨k1, k2⟩ := keys_read hp.1 kv
      obtain ⟨bs, hr, hn⟩ := readsXL hK hs I h4 q k2
      have hl1 : (ks.map pyKey).length = ps.length := by
        rw [List.length_map, toPyXL_len q, RsL.length h4, ← h3, List.length_map, List.length_map]
      have e1 : ((ks.map pyKey).zip ps).map (·.1) = kvs.map fun kv => pyKey kv.1 := by
        rw [List.map_fst_zip (Nat.le_of_eq hl1), ← h3, List.map_map]
        rfl
      have e2 : ((ks.map pyKey).zip ps).map (·.2) = ps := List.map_snd_zip (Nat.le_of_eq hl1.symm)
      refine ⟨a :: [] ++ bs, Reads.dict ho hx.1 hd (by rw [e1]; exact k1) (by rw [e2]; exact hr), fun z => ?_⟩
      rcases List.mem_cons.mp z with z | z
      · rw [← z] at hsm
        simp at hsm
      · exact hn z
  | .obj _ _ _, v, u, p, h, e, r => by unfold toPyX at e; cases e
  | .fls _, v, u, p, h, e, r => by unfold toPyX at e; cases e
theorem readsXL (hK : E.K = X.K) (hs : smB X.K = true) (I : L2.Inv X pins σ H s) : ∀ {ds : List D} {vs : List V} {us : List Value} {ps : List PyData}, RsL E H ds vs → toPyXL ds = some ps → Vals vs us → ∃ as, ReadsAll s.heap us ps as ∧ sysModules ∉ as
  | [], vs, us, ps, h, e, r => by
    unfold RsL at h; unfold toPyXL at e
    cases e; subst h; cases r
    exact ⟨_, .nil, fun z => nomatch z⟩
  | d :: ds, vs, us, ps, h, e, r => by
    unfold RsL at h; unfold toPyXL at e
    obtain ⟨v, rr, rfl, h2, h3⟩ := h
    cases q1 : toPyX d with
    | none => rw [q1] at e; cases e
    | some p =>
      cases q2 : toPyXL ds with
      | none => rw [q1, q2] at e; cases e
      | some qs =>
        rw [q1, q2] at e
        cases e
        cases r with
        | cons r1 r2 =>
          obtain ⟨as, a1, a2⟩ := readsX hK hs I h2 q1 r1
          obtain ⟨bs, b1, b2⟩ := readsXL hK hs I h3 q2 r2
          exact ⟨_, .cons a1 b1, fun z => (List.mem_append.mp z).elim a2 b2⟩
end
end
def repOkX (p : PyData) : Bool := p.showable && (decide (p.depth ≤ 60) && decide (p.shown.length ≤ sizeLine))
def rReprX (E : Ev) : List V → Hp → VK → Prop := fun xs H Q => ∃ x d p, xs = [x] ∧ Rs E H d x ∧ toPyX d = some p ∧ repOkX p = true ∧ Q (.str p.shown) H
theorem cr_reprX {X : Cx} {E : Ev} (hK : E.K = X.K) (hs : smB X.K = true) (hu : X.A.units + 64 < cLine) (hgd : X.A.guards = some []) : CallR X (.builtin "repr") (rReprX E) := by
  intro pins s σ H xs us Q I r h
  obtain ⟨x, d, p, rfl, rs, hp, ok, q⟩ := h
  obtain ⟨u, rfl, rx⟩ := vals1 r
  unfold repOkX at ok
  rw [Bool.and_eq_true, Bool.and_eq_true] at ok
  obtain ⟨o1, o3, o4⟩ := ok
  have h3 : p.depth ≤ 60 := of_decide_eq_true o3
  have h4 : p.shown.length ≤ sizeLine := of_decide_eq_true o4
  obtain ⟨as, rd, hn⟩ := readsX hK hs I rs hp rx
  have big : ∀ a, x = .ref a → wpAny (model X.prog X.w) X.A (call (.builtin "repr") [u]) (EP X pins σ Q) X.xe s := fun a e => by
    subst e
    cases rx
    exact repr_of_reads' rd o1 (fun _ => hn) hgd (by omega) (fun _ _ e => e) (fun h' u tk hk => ⟨.str _, H, I.kept (t' := tk) hk, ⟨_, rfl⟩, q⟩) h4
  cases d with
  | non =>
    unfold Rs at rs; unfold toPyX at hp
    subst rs; cases hp; cases rx
    exact PySem.P.repr_of_none ⟨.str _, H, I.tok _, ⟨_, rfl⟩, q⟩
  | bl b =>
    unfold Rs at rs; unfold toPyX at hp
    subst rs; cases hp; cases rx
    exact PySem.P.repr_of_bool ⟨.str _, H, I.tok _, ⟨_, rfl⟩, q⟩
  | int i =>
    unfold Rs at rs; unfold toPyX at hp
    subst rs; cases hp
    obtain ⟨t, rfl⟩ := rx
    exact PySem.P.repr_of_int (of_decide_eq_true o1) ⟨.str _, H, I.tok _, ⟨_, rfl⟩, q⟩
  | str z =>
    unfold Rs at rs; unfold toPyX at hp
    subst rs; cases hp
    obtain ⟨t, rfl⟩ := rx
    exact PySem.P.repr_of_str ⟨.str _, H, I.tok _, ⟨_, rfl⟩, q⟩ h4
  | lst ds =>
    unfold Rs at rs
    obtain ⟨a, xs, e, _⟩ := rs
    exact big a e
  | tup ds =>
    unfold Rs at rs
    obtain ⟨a, xs, e, _⟩ := rs
    exact big a e
  | dic ks ds =>
    unfold Rs at rs
    obtain ⟨a, xs, e, _⟩ := rs
    exact big a e
  | obj _ _ _ => unfold toPyX at hp; cases hp
  | fls _ => unfold toPyX at hp; cases hp
def fReprX : List D → Option D
  | [d] => (toPyX d).bind fun p => match repOkX p with
    | true => some (.str p.shown)
    | false => none
  | _ => none
theorem ans_reprX {c : Ctx} : AnsL c (rReprX c.E) fReprX := fun H ds d vs Q h hf => by
  unfold fReprX at hf
  split at hf
  · rename_i d0
    obtain ⟨v, rfl, h1⟩ := rs1 h
    cases hp : toPyX d0 with
    | none => rw [hp] at hf; cases hf
    | some p =>
      rw [hp, Option.bind_some] at hf
      cases ho : repOkX p with
      | false => rw [ho] at hf; cases hf
      | true =>
        rw [ho] at hf
        cases hf
        exact ⟨rfl, fun k => ⟨v, d0, p, rfl, h1, hp, ho, k _ (by unfold Rs; rfl)⟩⟩
  · cases hf
/-! ### the hook, with sys.modules seen too -/
def asW (g : Addr → Option Obj) (n : Nat) : List Addr := sysModules :: cStatics :: He.asD g n
def hookW (n : Nat) (ex : List (PySem.W.Frag → Bool)) (fa : List He.Fa) (fn : List He.DefD) : PySem.W.Hook where
  α := Bool × He.AlD
  obs := fun s => (ex.all fun f => f (He.frG s.heap.get? (asW s.heap.get? n)), He.obsD fa fn (He.frG s.heap.get? (asW s.heap.get? n)))
  val := fun _ => (true, He.valD fn)
  says := fun _ h => ∃ K : PySem.W.Frag, K.In h ∧ He.SaysD fa fn K ∧ (ex.all fun f => f K) = true
  of := fun _ _ e => ⟨_, He.frG_in, congrArg Prod.snd e, congrArg Prod.fst e⟩
  keeps := fun _ _ _ ⟨K, hK, c, d⟩ k => ⟨K, PySem.W.Frag.In.keeps hK k, c, d⟩
def obsW (n : Nat) (ex : List (PySem.W.Frag → Bool)) (fa : List He.Fa) (fn : List He.DefD) (g : Addr → Option Obj) : Bool × He.AlD := (ex.all fun f => f (He.frG g (asW g n)), He.obsD fa fn (He.frG g (asW g n)))
theorem obsW_eq {n : Nat} {ex : List (PySem.W.Frag → Bool)} {fa : List He.Fa} {fn : List He.DefD} {g : Addr → Option Obj} {s : Shared} (h : ∀ a, g a = s.heap.get? a) : obsW n ex fa fn g = (hookW n ex fa fn).obs s := by
  have e : g = s.heap.get? := funext h
  rw [e] <;> rfl
end Z

/-! Z51: t + u of tuples, two items of an own list set at once. -/
namespace Z
open PySem PySem.Spec PyProof.Rows L2
section
variable {X : Cx} {c : Ctx} {W : XK} {mods m1 m2 m3 m4 m5 : List Nat} {e a b : Expr} {ma mb : M D} {pos : Pos}
/-! ### x or y, x a list -/
/-! ### x[k], x[l] = a, b -/
end
end Z

set_option maxHeartbeats 4000000
namespace W
open PySem PySem.Spec PyProof.Rows L2 Z
def top (i : Nat) : Stmt := PySem.Challenge.pw_oddposts_k11_kinds.main.body.getD i (.Pass ⟨0, 0, 0, 0⟩)
abbrev s__law_bag : Stmt := top 6
def d__law_bag : He.DefD := ⟨("_law_bag", none), "_law_bag", "_law_bag", defArgs s__law_bag, defBody s__law_bag, defScope s__law_bag, [], []⟩
abbrev s__law_whole : Stmt := top 9
def d__law_whole : He.DefD := ⟨("_law_whole", none), "_law_whole", "_law_whole", defArgs s__law_whole, defBody s__law_whole, defScope s__law_whole, [], []⟩
abbrev s__law_is_set : Stmt := top 10
def d__law_is_set : He.DefD := ⟨("_law_is_set", none), "_law_is_set", "_law_is_set", defArgs s__law_is_set, defBody s__law_is_set, defScope s__law_is_set, [], []⟩
abbrev s__law_take : Stmt := top 7
def d__law_take : He.DefD := ⟨("_law_take", none), "_law_take", "_law_take", defArgs s__law_take, defBody s__law_take, defScope s__law_take, [], []⟩
abbrev s__law_bent_set : Stmt := top 11
def d__law_bent_set : He.DefD := ⟨("_law_bent_set", none), "_law_bent_set", "_law_bent_set", defArgs s__law_bent_set, defBody s__law_bent_set, defScope s__law_bent_set, [], []⟩
abbrev s__law_odd_thing : Stmt := top 12
def d__law_odd_thing : He.DefD := ⟨("_law_odd_thing", none), "_law_odd_thing", "_law_odd_thing", defArgs s__law_odd_thing, defBody s__law_odd_thing, defScope s__law_odd_thing, [], []⟩
abbrev s__law_some : Stmt := top 8
def d__law_some : He.DefD := ⟨("_law_some", none), "_law_some", "_law_some", defArgs s__law_some, defBody s__law_some, defScope s__law_some, [], []⟩
abbrev s__law_thing : Stmt := top 13
def d__law_thing : He.DefD := ⟨("_law_thing", none), "_law_thing", "_law_thing", defArgs s__law_thing, defBody s__law_thing, defScope s__law_thing, [], []⟩
abbrev s_is_integer : Stmt := top 1
def d_is_integer : He.DefD := ⟨("is_integer", none), "is_integer", "is_integer", defArgs s_is_integer, defBody s_is_integer, defScope s_is_integer, [], []⟩
abbrev s_is_post : Stmt := top 2
def d_is_post : He.DefD := ⟨("is_post", none), "is_post", "is_post", defArgs s_is_post, defBody s_is_post, defScope s_is_post, [], []⟩
abbrev s_are_posts : Stmt := top 3
def d_are_posts : He.DefD := ⟨("are_posts", none), "are_posts", "are_posts", defArgs s_are_posts, defBody s_are_posts, defScope s_are_posts, [], []⟩
abbrev s_is_set : Stmt := top 4
def d_is_set : He.DefD := ⟨("is_set", none), "is_set", "is_set", defArgs s_is_set, defBody s_is_set, defScope s_is_set, [], []⟩
abbrev s_law : Stmt := top 14
def d_law : He.DefD := ⟨("law", none), "law", "law", defArgs s_law, defBody s_law, defScope s_law, [], []⟩
def fn : List He.DefD := [d__law_bag, d__law_whole, d__law_is_set, d__law_take, d__law_bent_set, d__law_odd_thing, d__law_some, d__law_thing, d_is_integer, d_is_post, d_are_posts, d_is_set, d_law]
def fa0 : List He.Fa := [.free "abs", .free "isinstance", .free "int", .free "bool", .free "list", .glo "_law_whole", .free "len", .free "range", .glo "_law_take", .free "tuple", .glo "_law_odd_thing", .glo "_law_some"]
def fa1 : List He.Fa := [.glo "_law_bent_set", .glo "is_integer", .glo "is_post", .free "all", .free "set", .glo "are_posts", .free "sorted", .glo "_law_bag", .glo "_law_thing", .free "repr", .glo "_law_is_set", .glo "is_set"]
def fa2 : List He.Fa := [.glo "law"]
def fa : List He.Fa := fa0 ++ (fa1 ++ (fa2))
abbrev ev (K : PySem.W.Frag) : Ev := ⟨K, He.ga K⟩
def exs : List (PySem.W.Frag → Bool) := [Z.smB]
section
variable {P : Program} {w : World} {K : PySem.W.Frag} {h : Heap} {mg : Str → Option Value} {base : Heap}
/-! _law_bag -/
def m__law_bag : MS := (sRet (m1x dLst (mCons (mC (.int 0)) (mCons (mC (.int 1234567891)) (mCons (mC (.int 0)) (mCons (mFr (mComp (m1x itL (mFr (mSl true (mVar 0) (mC none) (mPart (mC (.int 63)))))) (gNm 1) mYes (m1x fAbs (mCons (mVar 1) (mC []))) [1])) (mC [])))))))
def f__law_bag : Fn := mkFn 2 m__law_bag
theorem sc__law_bag : FnScope ["_law_script", "_law_cell"] ["_law_script"] (defScope s__law_bag) := ⟨rfl, rfl, rfl, by decide +kernel, rfl, by decide +kernel, by decide +kernel⟩
theorem bd__law_bag (X0 : K.In h) (G0 : h.Ns mainGlobals mg) (cc : He.SaysD fa fn K) (xx : (exs.all fun f => f K) = true) {fd : FuncData} (F : FunD K d__law_bag.name d__law_bag.qual d__law_bag.params d__law_bag.body d__law_bag.scope (d__law_bag.dvs K) (d__law_bag.kws K) (He.fAd K d__law_bag.at_) fd) : FnG P w K mg base (L2.CX P w) 1 (He.fAd K d__law_bag.at_) fd ["_law_script"] (spM (ev K) 1 [] f__law_bag) := by
  have sc := sc__law_bag
  refine okG (k := 0) F sc rfl ?_
  intro cdv A outer s H W c hr hgd hE hio
  have n_abs := He.free_ok X0 G0 (cc.fact 0 (f := .free "abs") rfl)
  have hu := hr.units
  obtain ⟨E0, G1, H1, B1, io1, vs1⟩ := c
  cases hE
  cases hio
  unfold m__law_bag
  exact (zOne (zRet (zLst (zCons zInt (zCons zInt (zCons zInt (zCons (zFr (zComp (own := [("_law_cell", 1)]) (vs := [1]) (by rfl) sc.nd (zIl (by rfl) (zFr (zSl (zVar (i := 0)) zP0 (zP1 zInt) (by rfl) (by rfl)))) (blkOk_by (N := ["_law_script", "_law_cell"]) (sc := defScope s__law_bag) (by decide +kernel)) (by rfl) (by exact (show ∀ v ∈ ([1] : List Nat), v < 2 by decide)) (by exact (show ∀ v ∈ ([1] : List Nat), v ∉ ([] : List Nat) by decide)) (by decide) (fun _ _ _ _ _ => (zNm (i := 1) sc.nd (by rfl) (by first | exact Or.inl rfl | exact Or.inr rfl) (by exact (show (1 : Nat) ∉ ([] : List Nat) by decide)))) (fun _ _ _ _ _ => zNoIf) (fun _ _ _ _ _ => (zB call_abs ans_abs PyProof.Rows.boot_abs (by rfl) n_abs (zCons (zVar (i := 1)) zNil))))) zNil)))))))
theorem ok__law_bag (X0 : K.In h) (G0 : h.Ns mainGlobals mg) (cc : He.SaysD fa fn K) (xx : (exs.all fun f => f K) = true) : ∃ fd, FnG P w K mg base (L2.CX P w) 1 (He.fAd K d__law_bag.at_) fd ["_law_script"] (spM (ev K) 1 [] f__law_bag) ∧ Binds K fd ["_law_script"] [] ∧ PySem.W.keepIn K (.ref (He.fAd K d__law_bag.at_)) = true := by
  obtain ⟨fd, F⟩ := cc.def_ 0 (d := d__law_bag) rfl
  exact ⟨fd, bd__law_bag X0 G0 cc xx F, (F.bindsN fun _ _ _ _ _ _ us hl => match us, hl with | [_], _ => rfl), F.kp⟩
/-! _law_whole -/
def m__law_whole : MS := (sRet (mSh (mBl (mAnd (mTst (m1x (dIsi (isT .int) noO) (mVar 0))) (mTst (mBl (mNot (mTst (m1x (dIsi (isT .bl) noO) (mVar 0))))))))))
def f__law_whole : Fn := mkFn 1 m__law_whole
theorem sc__law_whole : FnScope ["_law_thing_here"] ["_law_thing_here"] (defScope s__law_whole) := ⟨rfl, rfl, rfl, by decide +kernel, rfl, by decide +kernel, by decide +kernel⟩
theorem bd__law_whole (X0 : K.In h) (G0 : h.Ns mainGlobals mg) (cc : He.SaysD fa fn K) (xx : (exs.all fun f => f K) = true) {fd : FuncData} (F : FunD K d__law_whole.name d__law_whole.qual d__law_whole.params d__law_whole.body d__law_whole.scope (d__law_whole.dvs K) (d__law_whole.kws K) (He.fAd K d__law_whole.at_) fd) : FnG P w K mg base (L2.CX P w) 1 (He.fAd K d__law_whole.at_) fd ["_law_thing_here"] (spM (ev K) 1 [] f__law_whole) := by
  have sc := sc__law_whole
  refine okG (k := 0) F sc rfl ?_
  intro cdv A outer s H W c hr hgd hE hio
  have n_isinstance := He.free_ok X0 G0 (cc.fact 1 (f := .free "isinstance") rfl)
  have n_int := He.free_ok X0 G0 (cc.fact 2 (f := .free "int") rfl)
  have n_bool := He.free_ok X0 G0 (cc.fact 3 (f := .free "bool") rfl)
  have hu := hr.units
  obtain ⟨E0, G1, H1, B1, io1, vs1⟩ := c
  cases hE
  cases hio
  unfold m__law_whole
  exact (zOne (zRet (zSh (zAndV (zIsi (T := .int) (by rfl) (by rfl) n_isinstance (by rfl) n_int PyProof.Rows.boot_int (zVar (i := 0))) (zAnd1 (zNotV (zIsi (T := .bl) (by rfl) (by rfl) n_isinstance (by rfl) n_bool boot_bool (zVar (i := 0)))))))))
theorem ok__law_whole (X0 : K.In h) (G0 : h.Ns mainGlobals mg) (cc : He.SaysD fa fn K) (xx : (exs.all fun f => f K) = true) : ∃ fd, FnG P w K mg base (L2.CX P w) 1 (He.fAd K d__law_whole.at_) fd ["_law_thing_here"] (spM (ev K) 1 [] f__law_whole) ∧ Binds K fd ["_law_thing_here"] [] ∧ PySem.W.keepIn K (.ref (He.fAd K d__law_whole.at_)) = true := by
  obtain ⟨fd, F⟩ := cc.def_ 1 (d := d__law_whole) rfl
  exact ⟨fd, bd__law_whole X0 G0 cc xx F, (F.bindsN fun _ _ _ _ _ _ us hl => match us, hl with | [_], _ => rfl), F.kp⟩
/-! _law_is_set -/
def m__law_is_set : MS := (sSeq (sIf (mNot (mTst (m1x (dIsi (isT .lst) noO) (mVar 0)))) (sRet (mSh (mC (.bl false)))) sNext)
  (sSeq (sIf (mTst (m2x dNe (mFr (mComp (m1x itS (mVar 0)) (gNm 2) (mOr (mNot (mTst (mFr (mCall 1 [] f__law_whole (mCons (aD (mVar 2)) (mC [])))))) (mNot (mTst (mCh dLe dLt (mC (.int 0)) (mVar 2) (mVar 1))))) (mVar 2) [2])) (mFr (m1x dLst (mC []))))) (sRet (mSh (mC (.bl false)))) sNext)
  (sRet (mSh (m2x dEq (mFr (mComp (m1x itR1 (mCons (m2x dSub (m1x fLen (mCons (mVar 0) (mC []))) (mC (.int 1))) (mC []))) (gNm 3) (mTst (m2x dGe (m2x dIx (mVar 0) (mVar 3)) (m2x dIx (mVar 0) (m2x dAdd (mVar 3) (mC (.int 1)))))) (mVar 3) [3])) (mFr (m1x dLst (mC []))))))))
def f__law_is_set : Fn := mkFn 4 m__law_is_set
theorem sc__law_is_set : FnScope ["_law_thing_here", "_law_size", "_law_post", "_law_at"] ["_law_thing_here", "_law_size"] (defScope s__law_is_set) := ⟨rfl, rfl, rfl, by decide +kernel, rfl, by decide +kernel, by decide +kernel⟩
theorem bd__law_is_set (X0 : K.In h) (G0 : h.Ns mainGlobals mg) (cc : He.SaysD fa fn K) (xx : (exs.all fun f => f K) = true) {fd : FuncData} (F : FunD K d__law_is_set.name d__law_is_set.qual d__law_is_set.params d__law_is_set.body d__law_is_set.scope (d__law_is_set.dvs K) (d__law_is_set.kws K) (He.fAd K d__law_is_set.at_) fd) : FnG P w K mg base (L2.CX P w) 2 (He.fAd K d__law_is_set.at_) fd ["_law_thing_here", "_law_size"] (spM (ev K) 2 [] f__law_is_set) := by
  have sc := sc__law_is_set
  refine okG (k := 1) F sc rfl ?_
  intro cdv A outer s H W c hr hgd hE hio
  have n_isinstance := He.free_ok X0 G0 (cc.fact 1 (f := .free "isinstance") rfl)
  have n_list := He.free_ok X0 G0 (cc.fact 4 (f := .free "list") rfl)
  have g__law_whole := He.glo_ok X0 G0 (cc.fact 5 (f := .glo "_law_whole") rfl)
  have n_len := He.free_ok X0 G0 (cc.fact 6 (f := .free "len") rfl)
  have n_range := He.free_ok X0 G0 (cc.fact 7 (f := .free "range") rfl)
  obtain ⟨fd__law_whole, F__law_whole, b__law_whole, k_f__law_whole⟩ := ok__law_whole (P := P) (w := w) (base := base) X0 G0 cc xx
  have hu := hr.units
  obtain ⟨E0, G1, H1, B1, io1, vs1⟩ := c
  cases hE
  cases hio
  unfold m__law_is_set
  exact (zSeq (zIf (yNot (yVal (zIsi (T := .lst) (by rfl) (by rfl) n_isinstance (by rfl) n_list PyProof.Rows.boot_list (zVar (i := 0))))) (zOne (zRet (zSh zBl))) zDone)
  (zSeq (zIf (yNe (by rfl) hu (zFr (zComp (own := [("_law_post", 2)]) (vs := [2]) (by rfl) sc.nd (zIs2 (by rfl) (zVar (i := 0))) (blkOk_by (N := ["_law_thing_here", "_law_size", "_law_post", "_law_at"]) (sc := defScope s__law_is_set) (by decide +kernel)) (by rfl) (by exact (show ∀ v ∈ ([2] : List Nat), v < 4 by decide)) (by exact (show ∀ v ∈ ([2] : List Nat), v ∉ ([] : List Nat) by decide)) (by decide) (fun _ _ _ _ _ => (zNm (i := 2) sc.nd (by rfl) (by first | exact Or.inl rfl | exact Or.inr rfl) (by exact (show (2 : Nat) ∉ ([] : List Nat) by decide)))) (fun _ _ _ _ _ => (zIf1 (yOr (yNot (yVal (zFr (zCall (bs := []) (F__law_whole.mono (by decide)) hr hgd (by rfl) g__law_whole k_f__law_whole b__law_whole passL (zAd (zVar (i := 2)) aNil))))) (yOr1 (yNot (yCh12 zInt (zVar (i := 2)) (zVar (i := 1)))))).pt)) (fun _ _ _ _ _ => (zVar (i := 2))))) (zFr (zLst zNil))) (zOne (zRet (zSh zBl))) zDone)
  (zOne (zRet (zSh (zEq (by rfl) hu (zFr (zComp (own := [("_law_at", 3)]) (vs := [3]) (by rfl) sc.nd (zIr1 (by rfl) n_range (zCons (zSub (zB call_len (ans_len (by rfl)) PySem.boot_len (by rfl) n_len (zCons (zVar (i := 0)) zNil)) zInt) zNil)) (blkOk_by (N := ["_law_thing_here", "_law_size", "_law_post", "_law_at"]) (sc := defScope s__law_is_set) (by decide +kernel)) (by rfl) (by exact (show ∀ v ∈ ([3] : List Nat), v < 4 by decide)) (by exact (show ∀ v ∈ ([3] : List Nat), v ∉ ([] : List Nat) by decide)) (by decide) (fun _ _ _ _ _ => (zNm (i := 3) sc.nd (by rfl) (by first | exact Or.inl rfl | exact Or.inr rfl) (by exact (show (3 : Nat) ∉ ([] : List Nat) by decide)))) (fun _ _ _ _ _ => (zIf1 (yGe (zIx (by rfl) (zVar (i := 0)) (zVar (i := 3))) (zIx (by rfl) (zVar (i := 0)) (zAdd (zVar (i := 3)) zInt))))) (fun _ _ _ _ _ => (zVar (i := 3))))) (zFr (zLst zNil))))))))
theorem ok__law_is_set (X0 : K.In h) (G0 : h.Ns mainGlobals mg) (cc : He.SaysD fa fn K) (xx : (exs.all fun f => f K) = true) : ∃ fd, FnG P w K mg base (L2.CX P w) 2 (He.fAd K d__law_is_set.at_) fd ["_law_thing_here", "_law_size"] (spM (ev K) 2 [] f__law_is_set) ∧ Binds K fd ["_law_thing_here", "_law_size"] [] ∧ PySem.W.keepIn K (.ref (He.fAd K d__law_is_set.at_)) = true := by
  obtain ⟨fd, F⟩ := cc.def_ 2 (d := d__law_is_set) rfl
  exact ⟨fd, bd__law_is_set X0 G0 cc xx F, (F.bindsN fun _ _ _ _ _ _ us hl => match us, hl with | [_, _], _ => rfl), F.kp⟩
/-! _law_take -/
def m__law_take : MS := (sSeq (sIf (mTst (m2x dEq (mRd 0 (pIx 0 (pVar 0) (mC (.int 0)))) (mC (.int 0)))) (sSeq (sAsg (mC (.int 0)) (gNm 4))
  (sSeq (sIf (mTst (m2x dLt (mRd 0 (pIx 0 (pVar 0) (mC (.int 2)))) (m1x fLen (mCons (mRd 0 (pIx 0 (pVar 0) (mC (.int 3)))) (mC []))))) (sAsg (m2x dIx (mRd 0 (pIx 0 (pVar 0) (mC (.int 3)))) (mRd 0 (pIx 0 (pVar 0) (mC (.int 2))))) (gNm 4)) sNext)
  (sSeq (sAugI 0 dAdd (pVar 0) (mC (.int 2)) (mC (.int 1)))
  (sSeq (sIf (mTst (m2x dGe (mVar 4) (mC (.int 1000000000000000000)))) (sSetI 0 (mSh (mVar 4)) (pVar 0) (mC (.int 0))) sNext)
  (sSetI 0 (mSh (m2x dMod (m2x dAdd (m2x dAdd (m2x dMul (mRd 0 (pIx 0 (pVar 0) (mC (.int 1)))) (mC (.int 48271))) (m2x dMod (mVar 4) (mC (.int 2147483647)))) (m2x dMul (mC (.int 7919)) (mRd 0 (pIx 0 (pVar 0) (mC (.int 2)))))) (mC (.int 2147483647)))) (pVar 0) (mC (.int 1))))))) sNext)
  (sSeq (sIf (mTst (m2x dGt (mRd 0 (pIx 0 (pVar 0) (mC (.int 0)))) (mC (.int 0)))) (sSeq (sAsg (m2x dMod (mRd 0 (pIx 0 (pVar 0) (mC (.int 0)))) (mVar 1)) (gNm 5))
  (sSeq (sSetI 0 (mSh (m2x dDiv (mRd 0 (pIx 0 (pVar 0) (mC (.int 0)))) (mVar 1))) (pVar 0) (mC (.int 0)))
  (sRet (mSh (mVar 5))))) sNext)
  (sSeq (sAsg (m2x dMod (m2x dMul (m2x dAdd (mRd 0 (pIx 0 (pVar 0) (mC (.int 1)))) (mC (.int 1))) (mC (.int 39373))) (mC (.int 1000000007))) (gNm 2))
  (sSeq (sAsg (m2x dMod (m2x dMul (m2x dMod (m2x dMul (mVar 2) (mVar 2)) (mC (.int 998244353))) (mC (.int 30011))) (mC (.int 998244353))) (gNm 3))
  (sSeq (sIf (mTst (m2x dGt (mVar 1) (mC (.int 1000000)))) (sRet (mSh (m2x dMod (m2x dAdd (m2x dMul (mVar 3) (mC (.int 1000000007))) (mVar 2)) (mVar 1)))) sNext)
  (sRet (mSh (m2x dMod (m2x dDiv (mVar 3) (mC (.int 7))) (mVar 1)))))))))
def f__law_take : Fn := mkFn 6 m__law_take
theorem sc__law_take : FnScope ["_law_bag_here", "_law_many", "_law_first", "_law_second", "_law_cell", "_law_value"] ["_law_bag_here", "_law_many"] (defScope s__law_take) := ⟨rfl, rfl, rfl, by decide +kernel, rfl, by decide +kernel, by decide +kernel⟩
theorem bd__law_take (X0 : K.In h) (G0 : h.Ns mainGlobals mg) (cc : He.SaysD fa fn K) (xx : (exs.all fun f => f K) = true) {fd : FuncData} (F : FunD K d__law_take.name d__law_take.qual d__law_take.params d__law_take.body d__law_take.scope (d__law_take.dvs K) (d__law_take.kws K) (He.fAd K d__law_take.at_) fd) : FnG P w K mg base (L2.CX P w) 1 (He.fAd K d__law_take.at_) fd ["_law_bag_here", "_law_many"] (spM (ev K) 2 [0] f__law_take) := by
  have sc := sc__law_take
  refine okG (k := 0) F sc rfl ?_
  intro cdv A outer s H W c hr hgd hE hio
  have n_len := He.free_ok X0 G0 (cc.fact 6 (f := .free "len") rfl)
  have hu := hr.units
  obtain ⟨E0, G1, H1, B1, io1, vs1⟩ := c
  cases hE
  cases hio
  unfold m__law_take
  exact (zSeq (zIf (yEq (by rfl) hu (zRd (zPi (by rfl) (zPv (i := 0)) zInt)) zInt) (zSeq (zAsg zInt (zNm (i := 4) sc.nd (by rfl) (Or.inl rfl) (by exact (show (4 : Nat) ∉ ([0] : List Nat) by decide))))
  (zSeq (zIf (yLt (zRd (zPi (by rfl) (zPv (i := 0)) zInt)) (zB call_len (ans_len (by rfl)) PySem.boot_len (by rfl) n_len (zCons (zRd (zPi (by rfl) (zPv (i := 0)) zInt)) zNil))) (zOne (zAsg (zIx (by rfl) (zRd (zPi (by rfl) (zPv (i := 0)) zInt)) (zRd (zPi (by rfl) (zPv (i := 0)) zInt))) (zNm (i := 4) sc.nd (by rfl) (Or.inl rfl) (by exact (show (4 : Nat) ∉ ([0] : List Nat) by decide))))) zDone)
  (zSeq (zAugI (zPv (i := 0)) zInt zInt iop_add ans_add)
  (zSeq (zIf (yGe (zVar (i := 4)) zInt) (zOne (zSetI (zPv (i := 0)) zInt (zSh (zVar (i := 4))))) zDone)
  (zOne (zSetI (zPv (i := 0)) zInt (zSh (zMod (zAdd (zAdd (zMul (zRd (zPi (by rfl) (zPv (i := 0)) zInt)) zInt) (zMod (zVar (i := 4)) zInt)) (zMul zInt (zRd (zPi (by rfl) (zPv (i := 0)) zInt)))) zInt)))))))) zDone)
  (zSeq (zIf (yGt (zRd (zPi (by rfl) (zPv (i := 0)) zInt)) zInt) (zSeq (zAsg (zMod (zRd (zPi (by rfl) (zPv (i := 0)) zInt)) (zVar (i := 1))) (zNm (i := 5) sc.nd (by rfl) (Or.inl rfl) (by exact (show (5 : Nat) ∉ ([0] : List Nat) by decide))))
  (zSeq (zSetI (zPv (i := 0)) zInt (zSh (zDiv (zRd (zPi (by rfl) (zPv (i := 0)) zInt)) (zVar (i := 1)))))
  (zOne (zRet (zSh (zVar (i := 5))))))) zDone)
  (zSeq (zAsg (zMod (zMul (zAdd (zRd (zPi (by rfl) (zPv (i := 0)) zInt)) zInt) zInt) zInt) (zNm (i := 2) sc.nd (by rfl) (Or.inl rfl) (by exact (show (2 : Nat) ∉ ([0] : List Nat) by decide))))
  (zSeq (zAsg (zMod (zMul (zMod (zMul (zVar (i := 2)) (zVar (i := 2))) zInt) zInt) zInt) (zNm (i := 3) sc.nd (by rfl) (Or.inl rfl) (by exact (show (3 : Nat) ∉ ([0] : List Nat) by decide))))
  (zSeq (zIf (yGt (zVar (i := 1)) zInt) (zOne (zRet (zSh (zMod (zAdd (zMul (zVar (i := 3)) zInt) (zVar (i := 2))) (zVar (i := 1)))))) zDone)
  (zOne (zRet (zSh (zMod (zDiv (zVar (i := 3)) zInt) (zVar (i := 1)))))))))))
theorem ok__law_take (X0 : K.In h) (G0 : h.Ns mainGlobals mg) (cc : He.SaysD fa fn K) (xx : (exs.all fun f => f K) = true) : ∃ fd, FnG P w K mg base (L2.CX P w) 1 (He.fAd K d__law_take.at_) fd ["_law_bag_here", "_law_many"] (spM (ev K) 2 [0] f__law_take) ∧ Binds K fd ["_law_bag_here", "_law_many"] [] ∧ PySem.W.keepIn K (.ref (He.fAd K d__law_take.at_)) = true := by
  obtain ⟨fd, F⟩ := cc.def_ 3 (d := d__law_take) rfl
  exact ⟨fd, bd__law_take X0 G0 cc xx F, (F.bindsN fun _ _ _ _ _ _ us hl => match us, hl with | [_, _], _ => rfl), F.kp⟩
/-! _law_bent_set -/
def m__law_bent_set : MS := (sSeq (sPar 4 5 (mCons (mSh (mFr (mCall 2 [0] f__law_take (mCons (aB 0) (mCons (aD (m2x dAdd (m1x fLen (mCons (mVar 2) (mC []))) (mC (.int 1)))) (mC [])))))) (mCons (mSh (mFr (mCall 2 [0] f__law_take (mCons (aB 0) (mCons (aD (mC (.int 8))) (mC [])))))) (mC []))))
  (sSeq (sAsg (m2x dIx (mFr (m1x dLst (mCons (m1x dNeg (mC (.int 1))) (mCons (mVar 1) (mCons (mC (.bl true)) (mCons (mC (.bl false)) (mCons (mC .non) (mCons (mC (.str "0")) (mCons (mFr (m1x dLst (mCons (mC (.int 0)) (mC [])))) (mCons (mFr (m1x dTup (mCons (mC (.int 0)) (mC [])))) (mCons (m2x dPow (mC (.int 10)) (mC (.int 30))) (mCons (m1x dNeg (mVar 1)) (mC []))))))))))))) (mFr (mCall 2 [0] f__law_take (mCons (aB 0) (mCons (aD (mC (.int 10))) (mC [])))))) (gNm 3))
  (sSeq (sIf (mTst (m2x dEq (mVar 5) (mC (.int 0)))) (sRet (m2N true dCat (mFr (m2N true dCat (mFr (mSl true (mVar 2) (mC none) (mPart (mVar 4)))) (mFr (m1x dLst (mCons (mVar 3) (mC [])))))) (mFr (mSl true (mVar 2) (mPart (mVar 4)) (mC none))))) sNext)
  (sSeq (sIf (mTst (m2x dEq (mVar 5) (mC (.int 1)))) (sRet (m2N true dCat (mFr (m2N true dCat (mFr (mSl true (mVar 2) (mC none) (mPart (mVar 4)))) (mFr (mSl true (mVar 2) (mPart (mVar 4)) (mPart (m2x dAdd (mVar 4) (mC (.int 1)))))))) (mFr (mSl true (mVar 2) (mPart (mVar 4)) (mC none))))) sNext)
  (sSeq (sIf (mTst (m2x dEq (mVar 5) (mC (.int 2)))) (sRet (m1N true dRevL (mVar 2))) sNext)
  (sSeq (sIf (mTst (m2x dEq (mVar 5) (mC (.int 3)))) (sRet (m1x dTupOf (mVar 2))) sNext)
  (sSeq (sIf (mTst (m2x dEq (mVar 5) (mC (.int 4)))) (sRet (m2N true dCat (mFr (m2N true dCat (mFr (mSl true (mVar 2) (mC none) (mPart (mVar 4)))) (mFr (m1x dLst (mCons (mVar 3) (mC [])))))) (mFr (mSl true (mVar 2) (mPart (m2x dAdd (mVar 4) (mC (.int 1)))) (mC none))))) sNext)
  (sSeq (sIf (mTst (m2x dEq (mVar 5) (mC (.int 5)))) (sRet (m2N true dCat (mFr (mSl true (mVar 2) (mPart (mVar 4)) (mC none))) (mFr (mSl true (mVar 2) (mC none) (mPart (mVar 4)))))) sNext)
  (sSeq (sIf (mTst (m2x dEq (mVar 5) (mC (.int 6)))) (sRet (m2N true dCat (mVar 2) (mFr (m1x dLst (mCons (mFr (mCall 2 [0] f__law_take (mCons (aB 0) (mCons (aD (mVar 1)) (mC []))))) (mC [])))))) sNext)
  (sRet (m2N true dCat (mFr (mSl true (mVar 2) (mC none) (mPart (mVar 4)))) (mFr (mSl true (mVar 2) (mPart (m2x dAdd (mVar 4) (mC (.int 1)))) (mC none))))))))))))))
def f__law_bent_set : Fn := mkFn 6 m__law_bent_set
theorem sc__law_bent_set : FnScope ["_law_bag_here", "_law_size", "_law_posts", "_law_odd", "_law_at", "_law_way"] ["_law_bag_here", "_law_size", "_law_posts"] (defScope s__law_bent_set) := ⟨rfl, rfl, rfl, by decide +kernel, rfl, by decide +kernel, by decide +kernel⟩
theorem bd__law_bent_set (X0 : K.In h) (G0 : h.Ns mainGlobals mg) (cc : He.SaysD fa fn K) (xx : (exs.all fun f => f K) = true) {fd : FuncData} (F : FunD K d__law_bent_set.name d__law_bent_set.qual d__law_bent_set.params d__law_bent_set.body d__law_bent_set.scope (d__law_bent_set.dvs K) (d__law_bent_set.kws K) (He.fAd K d__law_bent_set.at_) fd) : FnG P w K mg base (L2.CX P w) 2 (He.fAd K d__law_bent_set.at_) fd ["_law_bag_here", "_law_size", "_law_posts"] (spM (ev K) 3 [0] f__law_bent_set) := by
  have sc := sc__law_bent_set
  refine okG (k := 1) F sc rfl ?_
  intro cdv A outer s H W c hr hgd hE hio
  have g__law_take := He.glo_ok X0 G0 (cc.fact 8 (f := .glo "_law_take") rfl)
  have n_len := He.free_ok X0 G0 (cc.fact 6 (f := .free "len") rfl)
  have n_tuple := He.free_ok X0 G0 (cc.fact 9 (f := .free "tuple") rfl)
  obtain ⟨fd__law_take, F__law_take, b__law_take, k_f__law_take⟩ := ok__law_take (P := P) (w := w) (base := base) X0 G0 cc xx
  have hu := hr.units
  obtain ⟨E0, G1, H1, B1, io1, vs1⟩ := c
  cases hE
  cases hio
  unfold m__law_bent_set
  exact (zSeq (zPar (i := 4) (j := 5) (by rfl) sc.nd (by rfl) (by rfl) (by decide) (by rfl) (by rfl) (by exact (show (4 : Nat) ∉ ([0] : List Nat) by decide)) (by exact (show (5 : Nat) ∉ ([0] : List Nat) by decide)) (zAO1 (zSh (zFr (zCall (bs := [0]) (F__law_take.mono (by decide)) hr hgd (by rfl) g__law_take k_f__law_take b__law_take (passes_call (takes_of rfl rfl rfl rfl) (fun _ _ _ _ h => h)) (zAb (i := 0) (by rfl) (zAd (zAdd (zB call_len (ans_len (by rfl)) PySem.boot_len (by rfl) n_len (zCons (zVar (i := 2)) zNil)) zInt) aNil) (by decide))))) (zAO1 (zSh (zFr (zCall (bs := [0]) (F__law_take.mono (by decide)) hr hgd (by rfl) g__law_take k_f__law_take b__law_take (passes_call (takes_of rfl rfl rfl rfl) (fun _ _ _ _ h => h)) (zAb (i := 0) (by rfl) (zAd zInt aNil) (by decide))))) zAO0)))
  (zSeq (zAsg (zIx (by rfl) (zFr (zLst (zCons (zNeg zInt) (zCons (zVar (i := 1)) (zCons zBl (zCons zBl (zCons zNon (zCons zStr (zCons (zFr (zLst (zCons zInt zNil))) (zCons (zFr (zTup (zCons zInt zNil))) (zCons (zPow zInt zInt) (zCons (zNeg (zVar (i := 1))) zNil)))))))))))) (zFr (zCall (bs := [0]) (F__law_take.mono (by decide)) hr hgd (by rfl) g__law_take k_f__law_take b__law_take (passes_call (takes_of rfl rfl rfl rfl) (fun _ _ _ _ h => h)) (zAb (i := 0) (by rfl) (zAd zInt aNil) (by decide))))) (zNm (i := 3) sc.nd (by rfl) (Or.inl rfl) (by exact (show (3 : Nat) ∉ ([0] : List Nat) by decide))))
  (zSeq (zIf (yEq (by rfl) hu (zVar (i := 5)) zInt) (zOne (zRet (zCat (zFr (zCat (zFr (zSl (zVar (i := 2)) zP0 (zP1 (zVar (i := 4))) (by rfl) (by rfl))) (zFr (zLst (zCons (zVar (i := 3)) zNil))))) (zFr (zSl (zVar (i := 2)) (zP1 (zVar (i := 4))) zP0 (by rfl) (by rfl)))))) zDone)
  (zSeq (zIf (yEq (by rfl) hu (zVar (i := 5)) zInt) (zOne (zRet (zCat (zFr (zCat (zFr (zSl (zVar (i := 2)) zP0 (zP1 (zVar (i := 4))) (by rfl) (by rfl))) (zFr (zSl (zVar (i := 2)) (zP1 (zVar (i := 4))) (zP1 (zAdd (zVar (i := 4)) zInt)) (by rfl) (by rfl))))) (zFr (zSl (zVar (i := 2)) (zP1 (zVar (i := 4))) zP0 (by rfl) (by rfl)))))) zDone)
  (zSeq (zIf (yEq (by rfl) hu (zVar (i := 5)) zInt) (zOne (zRet (zRev (by rfl) (zVar (i := 2))))) zDone)
  (zSeq (zIf (yEq (by rfl) hu (zVar (i := 5)) zInt) (zOne (zRet (zTupOf (by rfl) (by rfl) n_tuple (zVar (i := 2))))) zDone)
  (zSeq (zIf (yEq (by rfl) hu (zVar (i := 5)) zInt) (zOne (zRet (zCat (zFr (zCat (zFr (zSl (zVar (i := 2)) zP0 (zP1 (zVar (i := 4))) (by rfl) (by rfl))) (zFr (zLst (zCons (zVar (i := 3)) zNil))))) (zFr (zSl (zVar (i := 2)) (zP1 (zAdd (zVar (i := 4)) zInt)) zP0 (by rfl) (by rfl)))))) zDone)
  (zSeq (zIf (yEq (by rfl) hu (zVar (i := 5)) zInt) (zOne (zRet (zCat (zFr (zSl (zVar (i := 2)) (zP1 (zVar (i := 4))) zP0 (by rfl) (by rfl))) (zFr (zSl (zVar (i := 2)) zP0 (zP1 (zVar (i := 4))) (by rfl) (by rfl)))))) zDone)
  (zSeq (zIf (yEq (by rfl) hu (zVar (i := 5)) zInt) (zOne (zRet (zCat (zVar (i := 2)) (zFr (zLst (zCons (zFr (zCall (bs := [0]) (F__law_take.mono (by decide)) hr hgd (by rfl) g__law_take k_f__law_take b__law_take (passes_call (takes_of rfl rfl rfl rfl) (fun _ _ _ _ h => h)) (zAb (i := 0) (by rfl) (zAd (zVar (i := 1)) aNil) (by decide)))) zNil)))))) zDone)
  (zOne (zRet (zCat (zFr (zSl (zVar (i := 2)) zP0 (zP1 (zVar (i := 4))) (by rfl) (by rfl))) (zFr (zSl (zVar (i := 2)) (zP1 (zAdd (zVar (i := 4)) zInt)) zP0 (by rfl) (by rfl)))))))))))))))
theorem ok__law_bent_set (X0 : K.In h) (G0 : h.Ns mainGlobals mg) (cc : He.SaysD fa fn K) (xx : (exs.all fun f => f K) = true) : ∃ fd, FnG P w K mg base (L2.CX P w) 2 (He.fAd K d__law_bent_set.at_) fd ["_law_bag_here", "_law_size", "_law_posts"] (spM (ev K) 3 [0] f__law_bent_set) ∧ Binds K fd ["_law_bag_here", "_law_size", "_law_posts"] [] ∧ PySem.W.keepIn K (.ref (He.fAd K d__law_bent_set.at_)) = true := by
  obtain ⟨fd, F⟩ := cc.def_ 4 (d := d__law_bent_set) rfl
  exact ⟨fd, bd__law_bent_set X0 G0 cc xx F, (F.bindsN fun _ _ _ _ _ _ us hl => match us, hl with | [_, _, _], _ => rfl), F.kp⟩
/-! _law_odd_thing -/
def m__law_odd_thing : MS := (sSeq (sAsg (mFr (m1x dLst (mCons (mC .non) (mCons (mC (.bl true)) (mCons (mC (.bl false)) (mCons (mC (.str "0")) (mCons (mC (.str "")) (mCons (mFr (m1x dLst (mC []))) (mCons (mFr (m1x dTup (mC []))) (mCons (mFr (mC (.dic [] []))) (mCons (mFr (m1x dLst (mCons (mC (.int 0)) (mC [])))) (mCons (mFr (m1x dTup (mCons (mC (.int 0)) (mC [])))) (mCons (m1x dNeg (mC (.int 1))) (mCons (m2x dPow (mC (.int 10)) (mC (.int 30))) (mCons (mFr (m1x dLst (mCons (mFr (m1x dLst (mCons (mC (.int 0)) (mC [])))) (mC [])))) (mCons (mFr (m2x dDic1 (mC (.str "a")) (mC (.int 1)))) (mCons (mC (.str "post")) (mCons (mFr (m1x dLst (mCons (mC .non) (mC [])))) (mC []))))))))))))))))))) (gNm 1))
  (sRet (mSh (m2x dIx (mFr (m2N true dCat (mVar 1) (mFr (m1x dLst (mCons (m2x dSub (mC (.int 1)) (m2x dPow (mC (.int 10)) (mC (.int 40)))) (mC [])))))) (mFr (mCall 2 [0] f__law_take (mCons (aB 0) (mCons (aD (mC (.int 17))) (mC [])))))))))
def f__law_odd_thing : Fn := mkFn 2 m__law_odd_thing
theorem sc__law_odd_thing : FnScope ["_law_bag_here", "_law_some_here"] ["_law_bag_here"] (defScope s__law_odd_thing) := ⟨rfl, rfl, rfl, by decide +kernel, rfl, by decide +kernel, by decide +kernel⟩
theorem bd__law_odd_thing (X0 : K.In h) (G0 : h.Ns mainGlobals mg) (cc : He.SaysD fa fn K) (xx : (exs.all fun f => f K) = true) {fd : FuncData} (F : FunD K d__law_odd_thing.name d__law_odd_thing.qual d__law_odd_thing.params d__law_odd_thing.body d__law_odd_thing.scope (d__law_odd_thing.dvs K) (d__law_odd_thing.kws K) (He.fAd K d__law_odd_thing.at_) fd) : FnG P w K mg base (L2.CX P w) 2 (He.fAd K d__law_odd_thing.at_) fd ["_law_bag_here"] (spM (ev K) 1 [0] f__law_odd_thing) := by
  have sc := sc__law_odd_thing
  refine okG (k := 1) F sc rfl ?_
  intro cdv A outer s H W c hr hgd hE hio
  have g__law_take := He.glo_ok X0 G0 (cc.fact 8 (f := .glo "_law_take") rfl)
  obtain ⟨fd__law_take, F__law_take, b__law_take, k_f__law_take⟩ := ok__law_take (P := P) (w := w) (base := base) X0 G0 cc xx
  have hu := hr.units
  obtain ⟨E0, G1, H1, B1, io1, vs1⟩ := c
  cases hE
  cases hio
  unfold m__law_odd_thing
  exact (zSeq (zAsg (zFr (zLst (zCons zNon (zCons zBl (zCons zBl (zCons zStr (zCons zStr (zCons (zFr (zLst zNil)) (zCons (zFr (zTup zNil)) (zCons (zFr zDnew) (zCons (zFr (zLst (zCons zInt zNil))) (zCons (zFr (zTup (zCons zInt zNil))) (zCons (zNeg zInt) (zCons (zPow zInt zInt) (zCons (zFr (zLst (zCons (zFr (zLst (zCons zInt zNil))) zNil))) (zCons (zFr (zDisp1 zStr zInt)) (zCons zStr (zCons (zFr (zLst (zCons zNon zNil))) zNil)))))))))))))))))) (zNm (i := 1) sc.nd (by rfl) (Or.inl rfl) (by exact (show (1 : Nat) ∉ ([0] : List Nat) by decide))))
  (zOne (zRet (zSh (zIx (by rfl) (zFr (zCat (zVar (i := 1)) (zFr (zLst (zCons (zSub zInt (zPow zInt zInt)) zNil))))) (zFr (zCall (bs := [0]) (F__law_take.mono (by decide)) hr hgd (by rfl) g__law_take k_f__law_take b__law_take (passes_call (takes_of rfl rfl rfl rfl) (fun _ _ _ _ h => h)) (zAb (i := 0) (by rfl) (zAd zInt aNil) (by decide)))))))))
theorem ok__law_odd_thing (X0 : K.In h) (G0 : h.Ns mainGlobals mg) (cc : He.SaysD fa fn K) (xx : (exs.all fun f => f K) = true) : ∃ fd, FnG P w K mg base (L2.CX P w) 2 (He.fAd K d__law_odd_thing.at_) fd ["_law_bag_here"] (spM (ev K) 1 [0] f__law_odd_thing) ∧ Binds K fd ["_law_bag_here"] [] ∧ PySem.W.keepIn K (.ref (He.fAd K d__law_odd_thing.at_)) = true := by
  obtain ⟨fd, F⟩ := cc.def_ 5 (d := d__law_odd_thing) rfl
  exact ⟨fd, bd__law_odd_thing X0 G0 cc xx F, (F.bindsN fun _ _ _ _ _ _ us hl => match us, hl with | [_], _ => rfl), F.kp⟩
/-! _law_some -/
def m__law_some : MS := (sSeq (sAsg (mFr (mCall 2 [0] f__law_take (mCons (aB 0) (mCons (aD (mC (.int 6))) (mC []))))) (gNm 2))
  (sSeq (sIf (mTst (m2x dEq (mVar 2) (mC (.int 2)))) (sRet (m1x dLst (mCons (mFr (mCall 2 [0] f__law_take (mCons (aB 0) (mCons (aD (mVar 1)) (mC []))))) (mC [])))) sNext)
  (sSeq (sAsg (m2x dIx (mFr (m1x dLst (mCons (mC (.int 0)) (mCons (mC (.int 4)) (mCons (mC (.int 0)) (mCons (mC (.int 1)) (mCons (mC (.int 2)) (mCons (mC (.int 3)) (mC []))))))))) (mVar 2)) (gNm 3))
  (sRet (mComp (m1x itR1 (mCons (mVar 1) (mC []))) (gNm 4) (mTst (m2x dLt (mFr (mCall 2 [0] f__law_take (mCons (aB 0) (mCons (aD (mC (.int 4))) (mC []))))) (mVar 3))) (mVar 4) [4])))))
def f__law_some : Fn := mkFn 5 m__law_some
theorem sc__law_some : FnScope ["_law_bag_here", "_law_size", "_law_way", "_law_part", "_law_post"] ["_law_bag_here", "_law_size"] (defScope s__law_some) := ⟨rfl, rfl, rfl, by decide +kernel, rfl, by decide +kernel, by decide +kernel⟩
theorem bd__law_some (X0 : K.In h) (G0 : h.Ns mainGlobals mg) (cc : He.SaysD fa fn K) (xx : (exs.all fun f => f K) = true) {fd : FuncData} (F : FunD K d__law_some.name d__law_some.qual d__law_some.params d__law_some.body d__law_some.scope (d__law_some.dvs K) (d__law_some.kws K) (He.fAd K d__law_some.at_) fd) : FnG P w K mg base (L2.CX P w) 2 (He.fAd K d__law_some.at_) fd ["_law_bag_here", "_law_size"] (spM (ev K) 2 [0] f__law_some) := by
  have sc := sc__law_some
  refine okG (k := 1) F sc rfl ?_
  intro cdv A outer s H W c hr hgd hE hio
  have g__law_take := He.glo_ok X0 G0 (cc.fact 8 (f := .glo "_law_take") rfl)
  have n_range := He.free_ok X0 G0 (cc.fact 7 (f := .free "range") rfl)
  obtain ⟨fd__law_take, F__law_take, b__law_take, k_f__law_take⟩ := ok__law_take (P := P) (w := w) (base := base) X0 G0 cc xx
  have hu := hr.units
  obtain ⟨E0, G1, H1, B1, io1, vs1⟩ := c
  cases hE
  cases hio
  unfold m__law_some
  exact (zSeq (zAsg (zFr (zCall (bs := [0]) (F__law_take.mono (by decide)) hr hgd (by rfl) g__law_take k_f__law_take b__law_take (passes_call (takes_of rfl rfl rfl rfl) (fun _ _ _ _ h => h)) (zAb (i := 0) (by rfl) (zAd zInt aNil) (by decide)))) (zNm (i := 2) sc.nd (by rfl) (Or.inl rfl) (by exact (show (2 : Nat) ∉ ([0] : List Nat) by decide))))
  (zSeq (zIf (yEq (by rfl) hu (zVar (i := 2)) zInt) (zOne (zRet (zLst (zCons (zFr (zCall (bs := [0]) (F__law_take.mono (by decide)) hr hgd (by rfl) g__law_take k_f__law_take b__law_take (passes_call (takes_of rfl rfl rfl rfl) (fun _ _ _ _ h => h)) (zAb (i := 0) (by rfl) (zAd (zVar (i := 1)) aNil) (by decide)))) zNil)))) zDone)
  (zSeq (zAsg (zIx (by rfl) (zFr (zLst (zCons zInt (zCons zInt (zCons zInt (zCons zInt (zCons zInt (zCons zInt zNil)))))))) (zVar (i := 2))) (zNm (i := 3) sc.nd (by rfl) (Or.inr rfl) (by exact (show (3 : Nat) ∉ ([0] : List Nat) by decide))))
  (zOne (zRet (zComp (own := [("_law_post", 4)]) (vs := [4]) (by rfl) sc.nd (zIr1 (by rfl) n_range (zCons (zVar (i := 1)) zNil)) (blkOk_by (N := ["_law_bag_here", "_law_size", "_law_way", "_law_part", "_law_post"]) (sc := defScope s__law_some) (by decide +kernel)) (by rfl) (by exact (show ∀ v ∈ ([4] : List Nat), v < 5 by decide)) (by exact (show ∀ v ∈ ([4] : List Nat), v ∉ ([0] : List Nat) by decide)) (by decide) (fun _ _ _ _ _ => (zNm (i := 4) sc.nd (by rfl) (by first | exact Or.inl rfl | exact Or.inr rfl) (by exact (show (4 : Nat) ∉ ([0] : List Nat) by decide)))) (fun _ _ _ _ _ => (zIf1 (yLt (zFr (zCall (bs := [0]) (F__law_take.mono (by decide)) hr hgd (by rfl) g__law_take k_f__law_take b__law_take passL (zAb (i := 0) (by rfl) (zAd zInt aNil) (by decide)))) (zVar (i := 3))))) (fun _ _ _ _ _ => (zVar (i := 4)))))))))
theorem ok__law_some (X0 : K.In h) (G0 : h.Ns mainGlobals mg) (cc : He.SaysD fa fn K) (xx : (exs.all fun f => f K) = true) : ∃ fd, FnG P w K mg base (L2.CX P w) 2 (He.fAd K d__law_some.at_) fd ["_law_bag_here", "_law_size"] (spM (ev K) 2 [0] f__law_some) ∧ Binds K fd ["_law_bag_here", "_law_size"] [] ∧ PySem.W.keepIn K (.ref (He.fAd K d__law_some.at_)) = true := by
  obtain ⟨fd, F⟩ := cc.def_ 6 (d := d__law_some) rfl
  exact ⟨fd, bd__law_some X0 G0 cc xx F, (F.bindsN fun _ _ _ _ _ _ us hl => match us, hl with | [_, _], _ => rfl), F.kp⟩
/-! _law_thing -/
def m__law_thing : MS := (sSeq (sAsg (mFr (mCall 2 [0] f__law_take (mCons (aB 0) (mCons (aD (mC (.int 6))) (mC []))))) (gNm 2))
  (sSeq (sIf (mTst (m2x dEq (mVar 2) (mC (.int 0)))) (sRet (mCall 1 [0] f__law_odd_thing (mCons (aB 0) (mC [])))) sNext)
  (sSeq (sIf (mTst (m2x dEq (mVar 2) (mC (.int 1)))) (sRet (mSh (m2x dMul (m2x dSub (mC (.int 1)) (m2x dMul (mC (.int 2)) (mFr (mCall 2 [0] f__law_take (mCons (aB 0) (mCons (aD (mC (.int 2))) (mC []))))))) (mFr (mCall 2 [0] f__law_take (mCons (aB 0) (mCons (aD (m2x dPow (mC (.int 10)) (mC (.int 40)))) (mC [])))))))) sNext)
  (sSeq (sAsg (mFr (mCall 2 [0] f__law_some (mCons (aB 0) (mCons (aD (mVar 1)) (mC []))))) (gNm 3))
  (sSeq (sFor (m1x itR1 (mCons (mFr (mCall 2 [0] f__law_take (mCons (aB 0) (mCons (aD (mC (.int 3))) (mC []))))) (mC []))) (gNm 4) (sIf (mTst (m1x (dIsi (isT .lst) noO) (mVar 3))) (sAsg (mFr (mCall 3 [0] f__law_bent_set (mCons (aB 0) (mCons (aD (mVar 1)) (mCons (aD (mVar 3)) (mC [])))))) (gNm 3)) sNext))
  (sRet (mSh (mVar 3))))))))
def f__law_thing : Fn := mkFn 5 m__law_thing
theorem sc__law_thing : FnScope ["_law_bag_here", "_law_size", "_law_way", "_law_thing_here", "_law_k"] ["_law_bag_here", "_law_size"] (defScope s__law_thing) := ⟨rfl, rfl, rfl, by decide +kernel, rfl, by decide +kernel, by decide +kernel⟩
theorem bd__law_thing (X0 : K.In h) (G0 : h.Ns mainGlobals mg) (cc : He.SaysD fa fn K) (xx : (exs.all fun f => f K) = true) {fd : FuncData} (F : FunD K d__law_thing.name d__law_thing.qual d__law_thing.params d__law_thing.body d__law_thing.scope (d__law_thing.dvs K) (d__law_thing.kws K) (He.fAd K d__law_thing.at_) fd) : FnG P w K mg base (L2.CX P w) 3 (He.fAd K d__law_thing.at_) fd ["_law_bag_here", "_law_size"] (spM (ev K) 2 [0] f__law_thing) := by
  have sc := sc__law_thing
  refine okG (k := 2) F sc rfl ?_
  intro cdv A outer s H W c hr hgd hE hio
  have g__law_take := He.glo_ok X0 G0 (cc.fact 8 (f := .glo "_law_take") rfl)
  have g__law_odd_thing := He.glo_ok X0 G0 (cc.fact 10 (f := .glo "_law_odd_thing") rfl)
  have g__law_some := He.glo_ok X0 G0 (cc.fact 11 (f := .glo "_law_some") rfl)
  have n_range := He.free_ok X0 G0 (cc.fact 7 (f := .free "range") rfl)
  have n_isinstance := He.free_ok X0 G0 (cc.fact 1 (f := .free "isinstance") rfl)
  have n_list := He.free_ok X0 G0 (cc.fact 4 (f := .free "list") rfl)
  have g__law_bent_set := He.glo_ok X0 G0 (cc.fact 12 (f := .glo "_law_bent_set") rfl)
  obtain ⟨fd__law_take, F__law_take, b__law_take, k_f__law_take⟩ := ok__law_take (P := P) (w := w) (base := base) X0 G0 cc xx
  obtain ⟨fd__law_odd_thing, F__law_odd_thing, b__law_odd_thing, k_f__law_odd_thing⟩ := ok__law_odd_thing (P := P) (w := w) (base := base) X0 G0 cc xx
  obtain ⟨fd__law_some, F__law_some, b__law_some, k_f__law_some⟩ := ok__law_some (P := P) (w := w) (base := base) X0 G0 cc xx
  obtain ⟨fd__law_bent_set, F__law_bent_set, b__law_bent_set, k_f__law_bent_set⟩ := ok__law_bent_set (P := P) (w := w) (base := base) X0 G0 cc xx
  have hu := hr.units
  obtain ⟨E0, G1, H1, B1, io1, vs1⟩ := c
  cases hE
  cases hio
  unfold m__law_thing
  exact (zSeq (zAsg (zFr (zCall (bs := [0]) (F__law_take.mono (by decide)) hr hgd (by rfl) g__law_take k_f__law_take b__law_take (passes_call (takes_of rfl rfl rfl rfl) (fun _ _ _ _ h => h)) (zAb (i := 0) (by rfl) (zAd zInt aNil) (by decide)))) (zNm (i := 2) sc.nd (by rfl) (Or.inl rfl) (by exact (show (2 : Nat) ∉ ([0] : List Nat) by decide))))
  (zSeq (zIf (yEq (by rfl) hu (zVar (i := 2)) zInt) (zOne (zRet (zCall (bs := [0]) (F__law_odd_thing.mono (by decide)) hr hgd (by rfl) g__law_odd_thing k_f__law_odd_thing b__law_odd_thing (passes_call (takes_of rfl rfl rfl rfl) (fun _ _ _ _ h => h)) (zAb (i := 0) (by rfl) aNil (by decide))))) zDone)
  (zSeq (zIf (yEq (by rfl) hu (zVar (i := 2)) zInt) (zOne (zRet (zSh (zMul (zSub zInt (zMul zInt (zFr (zCall (bs := [0]) (F__law_take.mono (by decide)) hr hgd (by rfl) g__law_take k_f__law_take b__law_take (passes_call (takes_of rfl rfl rfl rfl) (fun _ _ _ _ h => h)) (zAb (i := 0) (by rfl) (zAd zInt aNil) (by decide)))))) (zFr (zCall (bs := [0]) (F__law_take.mono (by decide)) hr hgd (by rfl) g__law_take k_f__law_take b__law_take (passes_call (takes_of rfl rfl rfl rfl) (fun _ _ _ _ h => h)) (zAb (i := 0) (by rfl) (zAd (zPow zInt zInt) aNil) (by decide)))))))) zDone)
  (zSeq (zAsg (zFr (zCall (bs := [0]) (F__law_some.mono (by decide)) hr hgd (by rfl) g__law_some k_f__law_some b__law_some (passes_call (takes_of rfl rfl rfl rfl) (fun _ _ _ _ h => h)) (zAb (i := 0) (by rfl) (zAd (zVar (i := 1)) aNil) (by decide)))) (zNm (i := 3) sc.nd (by rfl) (Or.inl rfl) (by exact (show (3 : Nat) ∉ ([0] : List Nat) by decide))))
  (zSeq (zFor (passes_of (by rfl)) (by rfl) (zIr1 (by rfl) n_range (zCons (zFr (zCall (bs := [0]) (F__law_take.mono (by decide)) hr hgd (by rfl) g__law_take k_f__law_take b__law_take (passes_call (takes_of rfl rfl rfl rfl) (fun _ _ _ _ h => h)) (zAb (i := 0) (by rfl) (zAd zInt aNil) (by decide)))) zNil)) (zNm (i := 4) sc.nd (by rfl) (Or.inl rfl) (by exact (show (4 : Nat) ∉ ([0] : List Nat) by decide))) (fun _ => (zOne (zIf (yVal (zIsi (T := .lst) (by rfl) (by rfl) n_isinstance (by rfl) n_list PyProof.Rows.boot_list (zVar (i := 3)))) (zOne (zAsg (zFr (zCall (bs := [0]) (F__law_bent_set.mono (by decide)) hr hgd (by rfl) g__law_bent_set k_f__law_bent_set b__law_bent_set (passes_call (takes_of rfl rfl rfl rfl) (fun _ _ _ _ h => h)) (zAb (i := 0) (by rfl) (zAd (zVar (i := 1)) (zAd (zVar (i := 3)) aNil)) (by decide)))) (zNm (i := 3) sc.nd (by rfl) (Or.inl rfl) (by exact (show (3 : Nat) ∉ ([0] : List Nat) by decide))))) zDone))))
  (zOne (zRet (zSh (zVar (i := 3))))))))))
theorem ok__law_thing (X0 : K.In h) (G0 : h.Ns mainGlobals mg) (cc : He.SaysD fa fn K) (xx : (exs.all fun f => f K) = true) : ∃ fd, FnG P w K mg base (L2.CX P w) 3 (He.fAd K d__law_thing.at_) fd ["_law_bag_here", "_law_size"] (spM (ev K) 2 [0] f__law_thing) ∧ Binds K fd ["_law_bag_here", "_law_size"] [] ∧ PySem.W.keepIn K (.ref (He.fAd K d__law_thing.at_)) = true := by
  obtain ⟨fd, F⟩ := cc.def_ 7 (d := d__law_thing) rfl
  exact ⟨fd, bd__law_thing X0 G0 cc xx F, (F.bindsN fun _ _ _ _ _ _ us hl => match us, hl with | [_, _], _ => rfl), F.kp⟩
/-! is_integer -/
def m_is_integer : MS := (sRet (mSh (mBl (mAnd (mTst (m1x (dIsi (isT .int) noO) (mVar 0))) (mTst (mBl (mNot (mTst (m1x (dIsi (isT .bl) noO) (mVar 0))))))))))
def f_is_integer : Fn := mkFn 1 m_is_integer
theorem sc_is_integer : FnScope ["thing"] ["thing"] (defScope s_is_integer) := ⟨rfl, rfl, rfl, by decide +kernel, rfl, by decide +kernel, by decide +kernel⟩
theorem bd_is_integer (X0 : K.In h) (G0 : h.Ns mainGlobals mg) (cc : He.SaysD fa fn K) (xx : (exs.all fun f => f K) = true) {fd : FuncData} (F : FunD K d_is_integer.name d_is_integer.qual d_is_integer.params d_is_integer.body d_is_integer.scope (d_is_integer.dvs K) (d_is_integer.kws K) (He.fAd K d_is_integer.at_) fd) : FnG P w K mg base (L2.CX P w) 1 (He.fAd K d_is_integer.at_) fd ["thing"] (spM (ev K) 1 [] f_is_integer) := by
  have sc := sc_is_integer
  refine okG (k := 0) F sc rfl ?_
  intro cdv A outer s H W c hr hgd hE hio
  have n_isinstance := He.free_ok X0 G0 (cc.fact 1 (f := .free "isinstance") rfl)
  have n_int := He.free_ok X0 G0 (cc.fact 2 (f := .free "int") rfl)
  have n_bool := He.free_ok X0 G0 (cc.fact 3 (f := .free "bool") rfl)
  have hu := hr.units
  obtain ⟨E0, G1, H1, B1, io1, vs1⟩ := c
  cases hE
  cases hio
  unfold m_is_integer
  exact (zOne (zRet (zSh (zAndV (zIsi (T := .int) (by rfl) (by rfl) n_isinstance (by rfl) n_int PyProof.Rows.boot_int (zVar (i := 0))) (zAnd1 (zNotV (zIsi (T := .bl) (by rfl) (by rfl) n_isinstance (by rfl) n_bool boot_bool (zVar (i := 0)))))))))
theorem ok_is_integer (X0 : K.In h) (G0 : h.Ns mainGlobals mg) (cc : He.SaysD fa fn K) (xx : (exs.all fun f => f K) = true) : ∃ fd, FnG P w K mg base (L2.CX P w) 1 (He.fAd K d_is_integer.at_) fd ["thing"] (spM (ev K) 1 [] f_is_integer) ∧ Binds K fd ["thing"] [] ∧ PySem.W.keepIn K (.ref (He.fAd K d_is_integer.at_)) = true := by
  obtain ⟨fd, F⟩ := cc.def_ 8 (d := d_is_integer) rfl
  exact ⟨fd, bd_is_integer X0 G0 cc xx F, (F.bindsN fun _ _ _ _ _ _ us hl => match us, hl with | [_], _ => rfl), F.kp⟩
/-! is_post -/
def m_is_post : MS := (sRet (mSh (mBl (mAnd (mTst (mFr (mCall 1 [] f_is_integer (mCons (aD (mVar 0)) (mC []))))) (mTst (mCh dLe dLt (mC (.int 0)) (mVar 0) (mVar 1)))))))
def f_is_post : Fn := mkFn 2 m_is_post
theorem sc_is_post : FnScope ["thing", "size"] ["thing", "size"] (defScope s_is_post) := ⟨rfl, rfl, rfl, by decide +kernel, rfl, by decide +kernel, by decide +kernel⟩
theorem bd_is_post (X0 : K.In h) (G0 : h.Ns mainGlobals mg) (cc : He.SaysD fa fn K) (xx : (exs.all fun f => f K) = true) {fd : FuncData} (F : FunD K d_is_post.name d_is_post.qual d_is_post.params d_is_post.body d_is_post.scope (d_is_post.dvs K) (d_is_post.kws K) (He.fAd K d_is_post.at_) fd) : FnG P w K mg base (L2.CX P w) 2 (He.fAd K d_is_post.at_) fd ["thing", "size"] (spM (ev K) 2 [] f_is_post) := by
  have sc := sc_is_post
  refine okG (k := 1) F sc rfl ?_
  intro cdv A outer s H W c hr hgd hE hio
  have g_is_integer := He.glo_ok X0 G0 (cc.fact 13 (f := .glo "is_integer") rfl)
  obtain ⟨fd_is_integer, F_is_integer, b_is_integer, k_f_is_integer⟩ := ok_is_integer (P := P) (w := w) (base := base) X0 G0 cc xx
  have hu := hr.units
  obtain ⟨E0, G1, H1, B1, io1, vs1⟩ := c
  cases hE
  cases hio
  unfold m_is_post
  exact (zOne (zRet (zSh (zAndV (zFr (zCall (bs := []) (F_is_integer.mono (by decide)) hr hgd (by rfl) g_is_integer k_f_is_integer b_is_integer (passes_call (takes_of rfl rfl rfl rfl) (fun _ _ _ _ h => h)) (zAd (zVar (i := 0)) aNil))) (zAnd1 (zCh12 zInt (zVar (i := 0)) (zVar (i := 1))))))))
theorem ok_is_post (X0 : K.In h) (G0 : h.Ns mainGlobals mg) (cc : He.SaysD fa fn K) (xx : (exs.all fun f => f K) = true) : ∃ fd, FnG P w K mg base (L2.CX P w) 2 (He.fAd K d_is_post.at_) fd ["thing", "size"] (spM (ev K) 2 [] f_is_post) ∧ Binds K fd ["thing", "size"] [] ∧ PySem.W.keepIn K (.ref (He.fAd K d_is_post.at_)) = true := by
  obtain ⟨fd, F⟩ := cc.def_ 9 (d := d_is_post) rfl
  exact ⟨fd, bd_is_post X0 G0 cc xx F, (F.bindsN fun _ _ _ _ _ _ us hl => match us, hl with | [_, _], _ => rfl), F.kp⟩
/-! are_posts -/
def m_are_posts : MS := (sSeq (sIf (mOr (mNot (mTst (m1x (dIsi (isT2 .lst .tup) noO) (mVar 0)))) (mNot (mTst (m1x fAll (mCons (mFr (mComp (m1x itS (mVar 0)) (gNm 2) mYes (mFr (mCall 2 [] f_is_post (mCons (aD (mVar 2)) (mCons (aD (mVar 1)) (mC []))))) [2])) (mC [])))))) (sRet (mSh (mC (.bl false)))) sNext)
  (sRet (mSh (m2x dEq (m1x dCnt (mVar 0)) (m1x fLen (mCons (mVar 0) (mC [])))))))
def f_are_posts : Fn := mkFn 3 m_are_posts
theorem sc_are_posts : FnScope ["thing", "size", "post"] ["thing", "size"] (defScope s_are_posts) := ⟨rfl, rfl, rfl, by decide +kernel, rfl, by decide +kernel, by decide +kernel⟩
theorem bd_are_posts (X0 : K.In h) (G0 : h.Ns mainGlobals mg) (cc : He.SaysD fa fn K) (xx : (exs.all fun f => f K) = true) {fd : FuncData} (F : FunD K d_are_posts.name d_are_posts.qual d_are_posts.params d_are_posts.body d_are_posts.scope (d_are_posts.dvs K) (d_are_posts.kws K) (He.fAd K d_are_posts.at_) fd) : FnG P w K mg base (L2.CX P w) 3 (He.fAd K d_are_posts.at_) fd ["thing", "size"] (spM (ev K) 2 [] f_are_posts) := by
  have sc := sc_are_posts
  refine okG (k := 2) F sc rfl ?_
  intro cdv A outer s H W c hr hgd hE hio
  have n_isinstance := He.free_ok X0 G0 (cc.fact 1 (f := .free "isinstance") rfl)
  have n_list := He.free_ok X0 G0 (cc.fact 4 (f := .free "list") rfl)
  have n_tuple := He.free_ok X0 G0 (cc.fact 9 (f := .free "tuple") rfl)
  have g_is_post := He.glo_ok X0 G0 (cc.fact 14 (f := .glo "is_post") rfl)
  have n_all := He.free_ok X0 G0 (cc.fact 15 (f := .free "all") rfl)
  have n_len := He.free_ok X0 G0 (cc.fact 6 (f := .free "len") rfl)
  have n_set := He.free_ok X0 G0 (cc.fact 16 (f := .free "set") rfl)
  obtain ⟨fd_is_post, F_is_post, b_is_post, k_f_is_post⟩ := ok_is_post (P := P) (w := w) (base := base) X0 G0 cc xx
  have hu := hr.units
  obtain ⟨E0, G1, H1, B1, io1, vs1⟩ := c
  cases hE
  cases hio
  unfold m_are_posts
  exact (zSeq (zIf (yOr (yNot (yVal (zIsi2 (T := .lst) (U := .tup) (by rfl) (by rfl) n_isinstance (by rfl) n_list PyProof.Rows.boot_list (by rfl) n_tuple PyProof.Rows.boot_tuple (zVar (i := 0))))) (yOr1 (yNot (yVal (zB (cr_all (by rfl)) (ans_all (by rfl)) PyProof.Rows.boot_all (by rfl) n_all (zCons (zFr (zComp (own := [("post", 2)]) (vs := [2]) (by rfl) sc.nd (zIs2 (by rfl) (zVar (i := 0))) (blkOk_by (N := ["thing", "size", "post"]) (sc := defScope s_are_posts) (by decide +kernel)) (by rfl) (by exact (show ∀ v ∈ ([2] : List Nat), v < 3 by decide)) (by exact (show ∀ v ∈ ([2] : List Nat), v ∉ ([] : List Nat) by decide)) (by decide) (fun _ _ _ _ _ => (zNm (i := 2) sc.nd (by rfl) (by first | exact Or.inl rfl | exact Or.inr rfl) (by exact (show (2 : Nat) ∉ ([] : List Nat) by decide)))) (fun _ _ _ _ _ => zNoIf) (fun _ _ _ _ _ => (zFr (zCall (bs := []) (F_is_post.mono (by decide)) hr hgd (by rfl) g_is_post k_f_is_post b_is_post passL (zAd (zVar (i := 2)) (zAd (zVar (i := 1)) aNil))))))) zNil)))))).pt (zOne (zRet (zSh zBl))) zDone)
  (zOne (zRet (zSh (zEq (by rfl) hu (zCntU (by rfl) (by rfl) (by rfl) n_len (by rfl) n_set (zVar (i := 0))) (zB call_len (ans_len (by rfl)) PySem.boot_len (by rfl) n_len (zCons (zVar (i := 0)) zNil)))))))
theorem ok_are_posts (X0 : K.In h) (G0 : h.Ns mainGlobals mg) (cc : He.SaysD fa fn K) (xx : (exs.all fun f => f K) = true) : ∃ fd, FnG P w K mg base (L2.CX P w) 3 (He.fAd K d_are_posts.at_) fd ["thing", "size"] (spM (ev K) 2 [] f_are_posts) ∧ Binds K fd ["thing", "size"] [] ∧ PySem.W.keepIn K (.ref (He.fAd K d_are_posts.at_)) = true := by
  obtain ⟨fd, F⟩ := cc.def_ 10 (d := d_are_posts) rfl
  exact ⟨fd, bd_are_posts X0 G0 cc xx F, (F.bindsN fun _ _ _ _ _ _ us hl => match us, hl with | [_, _], _ => rfl), F.kp⟩
/-! is_set -/
def m_is_set : MS := (sRet (mSh (mBl (mAnd (mTst (m1x (dIsi (isT .lst) noO) (mVar 0))) (mTst (mBl (mAnd (mTst (mFr (mCall 2 [] f_are_posts (mCons (aD (mVar 0)) (mCons (aD (mVar 1)) (mC [])))))) (mTst (m2x dEq (mVar 0) (mFr (m1x (mNew true gSort) (mCons (mVar 0) (mC [])))))))))))))
def f_is_set : Fn := mkFn 2 m_is_set
theorem sc_is_set : FnScope ["thing", "size"] ["thing", "size"] (defScope s_is_set) := ⟨rfl, rfl, rfl, by decide +kernel, rfl, by decide +kernel, by decide +kernel⟩
theorem bd_is_set (X0 : K.In h) (G0 : h.Ns mainGlobals mg) (cc : He.SaysD fa fn K) (xx : (exs.all fun f => f K) = true) {fd : FuncData} (F : FunD K d_is_set.name d_is_set.qual d_is_set.params d_is_set.body d_is_set.scope (d_is_set.dvs K) (d_is_set.kws K) (He.fAd K d_is_set.at_) fd) : FnG P w K mg base (L2.CX P w) 4 (He.fAd K d_is_set.at_) fd ["thing", "size"] (spM (ev K) 2 [] f_is_set) := by
  have sc := sc_is_set
  refine okG (k := 3) F sc rfl ?_
  intro cdv A outer s H W c hr hgd hE hio
  have n_isinstance := He.free_ok X0 G0 (cc.fact 1 (f := .free "isinstance") rfl)
  have n_list := He.free_ok X0 G0 (cc.fact 4 (f := .free "list") rfl)
  have g_are_posts := He.glo_ok X0 G0 (cc.fact 17 (f := .glo "are_posts") rfl)
  have n_sorted := He.free_ok X0 G0 (cc.fact 18 (f := .free "sorted") rfl)
  obtain ⟨fd_are_posts, F_are_posts, b_are_posts, k_f_are_posts⟩ := ok_are_posts (P := P) (w := w) (base := base) X0 G0 cc xx
  have hu := hr.units
  obtain ⟨E0, G1, H1, B1, io1, vs1⟩ := c
  cases hE
  cases hio
  unfold m_is_set
  exact (zOne (zRet (zSh (zAndV (zIsi (T := .lst) (by rfl) (by rfl) n_isinstance (by rfl) n_list PyProof.Rows.boot_list (zVar (i := 0))) (zAndV (zFr (zCall (bs := []) (F_are_posts.mono (by decide)) hr hgd (by rfl) g_are_posts k_f_are_posts b_are_posts (passes_call (takes_of rfl rfl rfl rfl) (fun _ _ _ _ h => h)) (zAd (zVar (i := 0)) (zAd (zVar (i := 1)) aNil)))) (zAnd1 (zEq (by rfl) hu (zVar (i := 0)) (zFr (zBN (Z.CallR.or (Z.CallR.or cr_sortedI cr_sortedPO) cr_sortedTI) (ans_sort (by rfl)) PyProof.Rows.boot_sorted (by rfl) n_sorted (zCons (zVar (i := 0)) zNil))))))))))
theorem ok_is_set (X0 : K.In h) (G0 : h.Ns mainGlobals mg) (cc : He.SaysD fa fn K) (xx : (exs.all fun f => f K) = true) : ∃ fd, FnG P w K mg base (L2.CX P w) 4 (He.fAd K d_is_set.at_) fd ["thing", "size"] (spM (ev K) 2 [] f_is_set) ∧ Binds K fd ["thing", "size"] [] ∧ PySem.W.keepIn K (.ref (He.fAd K d_is_set.at_)) = true := by
  obtain ⟨fd, F⟩ := cc.def_ 11 (d := d_is_set) rfl
  exact ⟨fd, bd_is_set X0 G0 cc xx F, (F.bindsN fun _ _ _ _ _ _ us hl => match us, hl with | [_, _], _ => rfl), F.kp⟩
/-! law -/
def m_law : MS := (sSeq (sSto (mCall 1 [] f__law_bag (mCons (aD (mVar 0)) (mC []))) 1)
  (sSeq (sFor (m1x itR1 (mCons (mC (.int 20)) (mC []))) (gNm 2) (sSeq (sAsg (m2x dIx (mFr (m1x dLst (mCons (mC (.int 1)) (mCons (mC (.int 2)) (mCons (mC (.int 3)) (mCons (mC (.int 8)) (mCons (mC (.int 60)) (mCons (m2x dAdd (mC (.int 1)) (mFr (mCall 2 [0] f__law_take (mCons (aB 1) (mCons (aD (mC (.int 60))) (mC [])))))) (mC []))))))))) (mFr (mCall 2 [0] f__law_take (mCons (aB 1) (mCons (aD (mC (.int 6))) (mC [])))))) (gNm 4))
  (sSeq (sAsg (mFr (mCall 2 [0] f__law_thing (mCons (aB 1) (mCons (aD (mVar 4)) (mC []))))) (gNm 5))
  (sSeq (sAsg (m1x fReprX (mCons (mVar 5) (mC []))) (gNm 6))
  (sSeq (sAsg (mFr (m1x dLst (mCons (mFr (mCall 1 [] f__law_whole (mCons (aD (mVar 5)) (mC [])))) (mCons (mFr (mCall 2 [] f__law_is_set (mCons (aD (mVar 5)) (mCons (aD (mVar 4)) (mC []))))) (mC []))))) (gNm 7))
  (sFor (m1x itR1 (mCons (mC (.int 2)) (mC []))) (gNm 8) (sIf (mOr (mTst (m2x dNe (m1x fReprX (mCons (mFr (m1x dLst (mCons (mFr (mCall 1 [] f_is_integer (mCons (aD (mVar 5)) (mC [])))) (mCons (mFr (mCall 2 [] f_is_set (mCons (aD (mVar 5)) (mCons (aD (mVar 4)) (mC []))))) (mC []))))) (mC []))) (m1x fReprX (mCons (mVar 7) (mC []))))) (mTst (m2x dNe (m1x fReprX (mCons (mVar 5) (mC []))) (mVar 6)))) (sRet (mSh (mC (.bl false)))) sNext)))))))
  (sSeq (sAsg (mFr (m1x dLst (mC []))) (gNm 3))
  (sSeq (sFor (m1x itR1 (mCons (mC (.int 19)) (mC []))) (gNm 2) (sAsg (mFr (m1x dLst (mCons (mVar 3) (mC [])))) (gNm 3)))
  (sSeq (sIf (mOr (mTst (m2x dIsn (mFr (mCall 2 [] f_is_set (mCons (aD (mVar 3)) (mCons (aD (mC (.int 3))) (mC []))))) (mC (.bl false)))) (mOr (mTst (m2x dIsn (mFr (mCall 2 [] f_is_set (mCons (aD (mFr (m2N true dRep (mFr (m1x dLst (mCons (mC (.int 0)) (mC [])))) (mC (.int 4999))))) (mCons (aD (mC (.int 60))) (mC []))))) (mC (.bl false)))) (mTst (m2x dIsn (mFr (mCall 1 [] f_is_integer (mCons (aD (mVar 3)) (mC [])))) (mC (.bl false)))))) (sRet (mSh (mC (.bl false)))) sNext)
  (sRet (mSh (mBl (mAnd (mTst (m2x dIs (mFr (mCall 2 [] f_is_set (mCons (aD (mFr (m1x dLst (mC [])))) (mCons (aD (mC (.int 1))) (mC []))))) (mC (.bl true)))) (mTst (mBl (mAnd (mTst (m2x dIs (mFr (mCall 2 [] f_is_set (mCons (aD (mFr (m1x dLst (mCons (mC (.int 59)) (mC []))))) (mCons (aD (mC (.int 60))) (mC []))))) (mC (.bl true)))) (mTst (m2x dIs (mFr (mCall 2 [] f_is_set (mCons (aD (mFr (m1x dLst (mCons (mC (.int 59)) (mC []))))) (mCons (aD (mC (.int 59))) (mC []))))) (mC (.bl false))))))))))))))))
def f_law : Fn := mkFn 9 m_law
theorem sc_law : FnScope ["_law_script", "_law_bag_here", "_law_k", "_law_deep", "_law_size", "_law_thing_here", "_law_kept", "_law_due", "_law_again"] ["_law_script"] (defScope s_law) := ⟨rfl, rfl, rfl, by decide +kernel, rfl, by decide +kernel, by decide +kernel⟩
theorem bd_law (X0 : K.In h) (G0 : h.Ns mainGlobals mg) (cc : He.SaysD fa fn K) (xx : (exs.all fun f => f K) = true) {fd : FuncData} (F : FunD K d_law.name d_law.qual d_law.params d_law.body d_law.scope (d_law.dvs K) (d_law.kws K) (He.fAd K d_law.at_) fd) : FnG P w K mg base (L2.CX P w) 5 (He.fAd K d_law.at_) fd ["_law_script"] (spM (ev K) 1 [] f_law) := by
  have sc := sc_law
  refine okG (k := 4) F sc rfl ?_
  intro cdv A outer s H W c hr hgd hE hio
  have g__law_bag := He.glo_ok X0 G0 (cc.fact 19 (f := .glo "_law_bag") rfl)
  have n_range := He.free_ok X0 G0 (cc.fact 7 (f := .free "range") rfl)
  have g__law_take := He.glo_ok X0 G0 (cc.fact 8 (f := .glo "_law_take") rfl)
  have g__law_thing := He.glo_ok X0 G0 (cc.fact 20 (f := .glo "_law_thing") rfl)
  have n_repr := He.free_ok X0 G0 (cc.fact 21 (f := .free "repr") rfl)
  have g__law_is_set := He.glo_ok X0 G0 (cc.fact 22 (f := .glo "_law_is_set") rfl)
  have g__law_whole := He.glo_ok X0 G0 (cc.fact 5 (f := .glo "_law_whole") rfl)
  have g_is_set := He.glo_ok X0 G0 (cc.fact 23 (f := .glo "is_set") rfl)
  have g_is_integer := He.glo_ok X0 G0 (cc.fact 13 (f := .glo "is_integer") rfl)
  obtain ⟨fd__law_bag, F__law_bag, b__law_bag, k_f__law_bag⟩ := ok__law_bag (P := P) (w := w) (base := base) X0 G0 cc xx
  obtain ⟨fd__law_take, F__law_take, b__law_take, k_f__law_take⟩ := ok__law_take (P := P) (w := w) (base := base) X0 G0 cc xx
  obtain ⟨fd__law_thing, F__law_thing, b__law_thing, k_f__law_thing⟩ := ok__law_thing (P := P) (w := w) (base := base) X0 G0 cc xx
  obtain ⟨fd__law_is_set, F__law_is_set, b__law_is_set, k_f__law_is_set⟩ := ok__law_is_set (P := P) (w := w) (base := base) X0 G0 cc xx
  obtain ⟨fd__law_whole, F__law_whole, b__law_whole, k_f__law_whole⟩ := ok__law_whole (P := P) (w := w) (base := base) X0 G0 cc xx
  obtain ⟨fd_is_set, F_is_set, b_is_set, k_f_is_set⟩ := ok_is_set (P := P) (w := w) (base := base) X0 G0 cc xx
  obtain ⟨fd_is_integer, F_is_integer, b_is_integer, k_f_is_integer⟩ := ok_is_integer (P := P) (w := w) (base := base) X0 G0 cc xx
  have xsm := Z.ex_at xx 0
  have hu := hr.units
  obtain ⟨E0, G1, H1, B1, io1, vs1⟩ := c
  cases hE
  cases hio
  unfold m_law
  exact (zSeq (zSto (i := 1) sc.nd (by rfl) (Or.inl rfl) (by exact (show (1 : Nat) ∉ ([] : List Nat) by decide)) (zCall (bs := []) (F__law_bag.mono (by decide)) hr hgd (by rfl) g__law_bag k_f__law_bag b__law_bag (passes_call (takes_of rfl rfl rfl rfl) (fun _ _ _ _ h => h)) (zAd (zVar (i := 0)) aNil)))
  (zSeq (zFor (passes_of (by rfl)) (by rfl) (zIr1 (by rfl) n_range (zCons zInt zNil)) (zNm (i := 2) sc.nd (by rfl) (Or.inl rfl) (by exact (show (2 : Nat) ∉ ([] : List Nat) by decide))) (fun _ => (zSeq (zAsg (zIx (by rfl) (zFr (zLst (zCons zInt (zCons zInt (zCons zInt (zCons zInt (zCons zInt (zCons (zAdd zInt (zFr (zCall (bs := [1]) (F__law_take.mono (by decide)) hr hgd (by rfl) g__law_take k_f__law_take b__law_take (passes_call (takes_of rfl rfl rfl rfl) (fun _ _ _ _ h => h)) (zAb (i := 1) (by rfl) (zAd zInt aNil) (by decide))))) zNil)))))))) (zFr (zCall (bs := [1]) (F__law_take.mono (by decide)) hr hgd (by rfl) g__law_take k_f__law_take b__law_take (passes_call (takes_of rfl rfl rfl rfl) (fun _ _ _ _ h => h)) (zAb (i := 1) (by rfl) (zAd zInt aNil) (by decide))))) (zNm (i := 4) sc.nd (by rfl) (Or.inl rfl) (by exact (show (4 : Nat) ∉ ([] : List Nat) by decide))))
  (zSeq (zAsg (zFr (zCall (bs := [1]) (F__law_thing.mono (by decide)) hr hgd (by rfl) g__law_thing k_f__law_thing b__law_thing (passes_call (takes_of rfl rfl rfl rfl) (fun _ _ _ _ h => h)) (zAb (i := 1) (by rfl) (zAd (zVar (i := 4)) aNil) (by decide)))) (zNm (i := 5) sc.nd (by rfl) (Or.inl rfl) (by exact (show (5 : Nat) ∉ ([] : List Nat) by decide))))
  (zSeq (zAsg (zB (cr_reprX (by rfl) xsm hu hgd) ans_reprX PyProof.Rows.boot_repr (by rfl) n_repr (zCons (zVar (i := 5)) zNil)) (zNm (i := 6) sc.nd (by rfl) (Or.inl rfl) (by exact (show (6 : Nat) ∉ ([] : List Nat) by decide))))
  (zSeq (zAsg (zFr (zLst (zCons (zFr (zCall (bs := []) (F__law_whole.mono (by decide)) hr hgd (by rfl) g__law_whole k_f__law_whole b__law_whole (passes_call (takes_of rfl rfl rfl rfl) (fun _ _ _ _ h => h)) (zAd (zVar (i := 5)) aNil))) (zCons (zFr (zCall (bs := []) (F__law_is_set.mono (by decide)) hr hgd (by rfl) g__law_is_set k_f__law_is_set b__law_is_set (passes_call (takes_of rfl rfl rfl rfl) (fun _ _ _ _ h => h)) (zAd (zVar (i := 5)) (zAd (zVar (i := 4)) aNil)))) zNil)))) (zNm (i := 7) sc.nd (by rfl) (Or.inl rfl) (by exact (show (7 : Nat) ∉ ([] : List Nat) by decide))))
  (zOne (zFor (passes_of (by rfl)) (by rfl) (zIr1 (by rfl) n_range (zCons zInt zNil)) (zNm (i := 8) sc.nd (by rfl) (Or.inl rfl) (by exact (show (8 : Nat) ∉ ([] : List Nat) by decide))) (fun _ => (zOne (zIf (yOr (yNe (by rfl) hu (zB (cr_reprX (by rfl) xsm hu hgd) ans_reprX PyProof.Rows.boot_repr (by rfl) n_repr (zCons (zFr (zLst (zCons (zFr (zCall (bs := []) (F_is_integer.mono (by decide)) hr hgd (by rfl) g_is_integer k_f_is_integer b_is_integer (passes_call (takes_of rfl rfl rfl rfl) (fun _ _ _ _ h => h)) (zAd (zVar (i := 5)) aNil))) (zCons (zFr (zCall (bs := []) (F_is_set.mono (by decide)) hr hgd (by rfl) g_is_set k_f_is_set b_is_set (passes_call (takes_of rfl rfl rfl rfl) (fun _ _ _ _ h => h)) (zAd (zVar (i := 5)) (zAd (zVar (i := 4)) aNil)))) zNil)))) zNil)) (zB (cr_reprX (by rfl) xsm hu hgd) ans_reprX PyProof.Rows.boot_repr (by rfl) n_repr (zCons (zVar (i := 7)) zNil))) (yOr1 (yNe (by rfl) hu (zB (cr_reprX (by rfl) xsm hu hgd) ans_reprX PyProof.Rows.boot_repr (by rfl) n_repr (zCons (zVar (i := 5)) zNil)) (zVar (i := 6))))).pt (zOne (zRet (zSh zBl))) zDone)))))))))))
  (zSeq (zAsg (zFr (zLst zNil)) (zNm (i := 3) sc.nd (by rfl) (Or.inl rfl) (by exact (show (3 : Nat) ∉ ([] : List Nat) by decide))))
  (zSeq (zFor (passes_of (by rfl)) (by rfl) (zIr1 (by rfl) n_range (zCons zInt zNil)) (zNm (i := 2) sc.nd (by rfl) (Or.inl rfl) (by exact (show (2 : Nat) ∉ ([] : List Nat) by decide))) (fun _ => (zOne (zAsg (zFr (zLst (zCons (zVar (i := 3)) zNil))) (zNm (i := 3) sc.nd (by rfl) (Or.inl rfl) (by exact (show (3 : Nat) ∉ ([] : List Nat) by decide)))))))
  (zSeq (zIf (yOr (yIsn (zFr (zCall (bs := []) (F_is_set.mono (by decide)) hr hgd (by rfl) g_is_set k_f_is_set b_is_set (passes_call (takes_of rfl rfl rfl rfl) (fun _ _ _ _ h => h)) (zAd (zVar (i := 3)) (zAd zInt aNil)))) zBl) (yOr (yIsn (zFr (zCall (bs := []) (F_is_set.mono (by decide)) hr hgd (by rfl) g_is_set k_f_is_set b_is_set (passes_call (takes_of rfl rfl rfl rfl) (fun _ _ _ _ h => h)) (zAd (zFr (zRep (zFr (zLst (zCons zInt zNil))) zInt)) (zAd zInt aNil)))) zBl) (yOr1 (yIsn (zFr (zCall (bs := []) (F_is_integer.mono (by decide)) hr hgd (by rfl) g_is_integer k_f_is_integer b_is_integer (passes_call (takes_of rfl rfl rfl rfl) (fun _ _ _ _ h => h)) (zAd (zVar (i := 3)) aNil))) zBl)))).pt (zOne (zRet (zSh zBl))) zDone)
  (zOne (zRet (zSh (zAndV (zIs (zFr (zCall (bs := []) (F_is_set.mono (by decide)) hr hgd (by rfl) g_is_set k_f_is_set b_is_set (passes_call (takes_of rfl rfl rfl rfl) (fun _ _ _ _ h => h)) (zAd (zFr (zLst zNil)) (zAd zInt aNil)))) zBl) (zAndV (zIs (zFr (zCall (bs := []) (F_is_set.mono (by decide)) hr hgd (by rfl) g_is_set k_f_is_set b_is_set (passes_call (takes_of rfl rfl rfl rfl) (fun _ _ _ _ h => h)) (zAd (zFr (zLst (zCons zInt zNil))) (zAd zInt aNil)))) zBl) (zAnd1 (zIs (zFr (zCall (bs := []) (F_is_set.mono (by decide)) hr hgd (by rfl) g_is_set k_f_is_set b_is_set (passes_call (takes_of rfl rfl rfl rfl) (fun _ _ _ _ h => h)) (zAd (zFr (zLst (zCons zInt zNil))) (zAd zInt aNil)))) zBl))))))))))))
end
end W

namespace W
open PySem PySem.Spec PyProof.Rows L2 Z
def m_Yard_size : MS := (sRet (mSh (m1x (dAtC "Yard" "kept_size") (mVar 0))))
def f_Yard_size : Fn := mkFn 1 m_Yard_size
def m_Yard_wired : MS := (sRet (m1x (mNew true gList) (mCons (m1x (dAtC "Yard" "kept_wired") (mVar 0)) (mC []))))
def f_Yard_wired : Fn := mkFn 1 m_Yard_wired
def m_Yard_ties : MS := (sRet (m1x (mNew true gList) (mCons (m1x (dAtC "Yard" "kept_ties") (mVar 0)) (mC []))))
def f_Yard_ties : Fn := mkFn 1 m_Yard_ties
end W
set_option maxHeartbeats 2000000
/-! Y1: what a mirror comes to. -/
namespace Z
open PySem PySem.Spec PyProof.Rows L2
def wO {α : Type} (x : Out α) (Q : α → List Sl → Prop) : Prop := match x with
  | .ok a S' => Q a S'
  | .exc _ _ _ _ => False
  | .bad => False
/-- m ends well, by Q -/
def wM {α : Type} (m : M α) (S : List Sl) (Q : α → List Sl → Prop) : Prop := wO (m S) Q
structure Ks where
  n : List Sl → Prop
  r : O → List Sl → Prop
  b : List Sl → Prop := fun _ => False
  c : List Sl → Prop := fun _ => False
def wOS (x : OutS) (k : Ks) : Prop := match x with
  | .next S' => k.n S'
  | .ret o S' => k.r o S'
  | .brk S' => k.b S'
  | .cont S' => k.c S'
  | .exc _ _ _ _ => False
  | .bad => False
def wS (s : MS) (S : List Sl) (k : Ks) : Prop := wOS (s S) k
def wF {α : Type} (x : Option α) (P : α → Prop) : Prop := match x with
  | some a => P a
  | none => False
def wB (d : D) (P : Bool → Prop) : Prop := match d with
  | .bl b => P b
  | _ => False
def wL (x : Option O) (P : D → Prop) : Prop := match x with
  | some (.sh d) => P d
  | _ => False
def wV (x : Option Sl) (P : D → Prop) : Prop := match x with
  | some (.pl d) => P d
  | _ => False
section
variable {α β γ : Type} {S : List Sl} {k : Ks}
theorem wO_bd {x : Out α} {f : α → List Sl → Out β} {Q : β → List Sl → Prop} : wO (x.bd f) Q = wO x fun a S1 => wO (f a S1) Q := by cases x <;> rfl
theorem wOS_sd {x : Out α} {f : α → List Sl → OutS} : wOS (x.sd f) k = wO x fun a S1 => wOS (f a S1) k := by cases x <;> rfl
theorem wO_oo {x : Option γ} {Q : γ → List Sl → Prop} : wO (oo x S) Q = wF x fun a => Q a S := by cases x <;> rfl
theorem w_mC {a : α} {Q : α → List Sl → Prop} : wM (mC a) S Q = Q a S := propext Iff.rfl
theorem w_mVar {i : Nat} {Q : D → List Sl → Prop} : wM (mVar i) S Q = wV S[i]? fun d => Q d S := by
  unfold wM mVar wV
  cases S[i]? with
  | none => rfl
  | some s => cases s <;> rfl
theorem w_m2x {f : α → β → Option γ} {a : M α} {b : M β} {Q : γ → List Sl → Prop} : wM (m2x f a b) S Q = wM a S fun x S1 => wM b S1 fun y S2 => wF (f x y) fun z => Q z S2 := by
  unfold wM m2x
  simp only [wO_bd, wO_oo]
theorem w_m1x {f : α → Option γ} {a : M α} {Q : γ → List Sl → Prop} : wM (m1x f a) S Q = wM a S fun x S1 => wF (f x) fun z => Q z S1 := by
  unfold wM m1x
  simp only [wO_bd, wO_oo]
theorem w_mTst {m : M D} {Q : Bool → List Sl → Prop} : wM (mTst m) S Q = wM m S fun d S1 => wB d fun b => Q b S1 := by
  unfold wM mTst
  rw [wO_bd]
  congr
  funext d S1
  cases d <;> rfl
theorem w_mAnd {a b : M Bool} {Q : Bool → List Sl → Prop} : wM (mAnd a b) S Q = wM a S fun x S1 => (x = true → wM b S1 Q) ∧ (x = false → Q false S1) := by
  unfold wM mAnd
  rw [wO_bd]
  congr
  funext x S1
  cases x <;> simp [wO]
theorem w_mOr {a b : M Bool} {Q : Bool → List Sl → Prop} : wM (mOr a b) S Q = wM a S fun x S1 => (x = true → Q true S1) ∧ (x = false → wM b S1 Q) := by
  unfold wM mOr
  rw [wO_bd]
  congr
  funext x S1
  cases x <;> simp [wO]
theorem w_mNot {a : M Bool} {Q : Bool → List Sl → Prop} : wM (mNot a) S Q = wM a S fun x S1 => Q (!x) S1 := by
  unfold wM mNot
  rw [wO_bd]
  rfl
theorem w_mIf {t : M Bool} {a b : M α} {Q : α → List Sl → Prop} : wM (mIf t a b) S Q = wM t S fun x S1 => (x = true → wM a S1 Q) ∧ (x = false → wM b S1 Q) := by
  unfold wM mIf
  rw [wO_bd]
  congr
  funext x S1
  cases x <;> simp
theorem w_mBl {t : M Bool} {Q : D → List Sl → Prop} : wM (mBl t) S Q = wM t S fun b S1 => Q (.bl b) S1 := by
  unfold wM mBl
  rw [wO_bd]
  rfl
theorem w_mFr {m : M O} {Q : D → List Sl → Prop} : wM (mFr m) S Q = wM m S fun o S1 => Q (fr o) S1 := by
  unfold wM mFr
  rw [wO_bd]
  rfl
theorem w_mSh {m : M D} {Q : O → List Sl → Prop} : wM (mSh m) S Q = wM m S fun d S1 => Q (.sh d) S1 := by
  unfold wM mSh
  rw [wO_bd]
  rfl
theorem w_mCons {a : M α} {r : M (List α)} {Q : List α → List Sl → Prop} : wM (mCons a r) S Q = wM a S fun x S1 => wM r S1 fun xs S2 => Q (x :: xs) S2 := by
  unfold wM mCons
  simp only [wO_bd]
  rfl
theorem w_mRd {i : Nat} {mp : M (List Stp)} {Q : D → List Sl → Prop} : wM (mRd i mp) S Q = wM mp S fun p S1 => wL (sget S1 i p) fun d => Q d S1 := by
  unfold wM mRd
  rw [wO_bd]
  congr
  funext p S1
  unfold wL
  cases sget S1 i p with
  | none => rfl
  | some o => cases o <;> rfl
def isOwS (x : Option Sl) (P : Prop) : Prop := match x with
  | some (.ow _) => P
  | _ => False
theorem w_pVar {i : Nat} {Q : List Stp → List Sl → Prop} : wM (pVar i) S Q = isOwS S[i]? (Q [] S) := by
  unfold wM pVar isOwS
  cases S[i]? with
  | none => rfl
  | some s => cases s <;> rfl
/-- the place that an int names in an own list -/
def wI (x : Option O) (d : D) (P : Nat → Prop) : Prop := match x, d with
  | some (.lst os), .int k => wF (ixN os.length k) P
  | some (.tup os), .int k => wF (ixN os.length k) P
  | _, _ => False
theorem w_pIx {i : Nat} {mp : M (List Stp)} {mi : M D} {Q : List Stp → List Sl → Prop} : wM (pIx i mp mi) S Q = wM mp S fun p S1 => wM mi S1 fun d S2 => wI (sget S2 i p) d fun j => Q (p ++ [.ix j]) S2 := by
  unfold wM pIx
  simp only [wO_bd]
  congr
  funext p S1
  congr
  funext d S2
  unfold wI
  cases sget S2 i p with
  | none => rfl
  | some o =>
    cases o with
    | lst os =>
      cases d with
      | int n =>
        simp only
        cases ixN os.length n <;> rfl
      | _ => rfl
    | tup os =>
      cases d with
      | int n =>
        simp only
        cases ixN os.length n <;> rfl
      | _ => rfl
    | _ => cases d <;> rfl
/-! statements -/
theorem s_next : wS sNext S k = k.n S := propext Iff.rfl
theorem s_seq {a b : MS} : wS (sSeq a b) S k = wS a S { k with n := fun S1 => wS b S1 k } := by
  unfold wS sSeq
  cases a S <;> rfl
theorem s_if {t : M Bool} {a b : MS} : wS (sIf t a b) S k = wM t S fun x S1 => (x = true → wS a S1 k) ∧ (x = false → wS b S1 k) := by
  unfold wS wM sIf
  rw [wOS_sd]
  congr
  funext x S1
  cases x <;> simp
theorem s_ret {m : M O} : wS (sRet m) S k = wM m S k.r := by
  unfold wS wM sRet
  rw [wOS_sd]
  rfl
theorem s_asg {m : M D} {g : Tg} : wS (sAsg m g) S k = wM m S fun d S1 => wF (g d S1) k.n := by
  unfold wS wM sAsg
  rw [wOS_sd]
  congr
  funext d S1
  cases g d S1 <;> rfl
theorem s_sto {m : M O} {i : Nat} : wS (sSto m i) S k = wM m S fun o S1 => k.n (S1.set i (slOf o)) := by
  unfold wS wM sSto
  rw [wOS_sd]
  rfl
theorem s_own {m : M O} {i : Nat} : wS (sOwn m i) S k = wM m S fun o S1 => k.n (S1.set i (.ow o)) := by
  unfold wS wM sOwn
  rw [wOS_sd]
  rfl
theorem s_drop {m : M α} : wS (sDrop m) S k = wM m S fun _ S1 => k.n S1 := by
  unfold wS wM sDrop
  rw [wOS_sd]
  rfl
def wSet' (x : Option O) (n : Int) (P : List O → Nat → Prop) : Prop := match x with
  | some (.lst os) => wF (ixN os.length n) (P os)
  | _ => False
def wSet (i : Nat) (p : List Stp) (d : D) (o : O) (S : List Sl) (P : List Sl → Prop) : Prop := match sget S i p, d with
  | some (.lst os), .int n => wF (ixN os.length n) fun j => P (sput S i p (.lst (os.set j o)))
  | _, _ => False
theorem wOS_set {i : Nat} {p : List Stp} {d : D} {o : O} : wOS (setL i p d o S) k = wSet i p d o S k.n := by
  unfold setL wSet
  cases sget S i p with
  | none => rfl
  | some x =>
    cases x with
    | lst os =>
      cases d with
      | int n =>
        simp only
        cases ixN os.length n <;> rfl
      | _ => rfl
    | _ => cases d <;> rfl
theorem s_setI {i : Nat} {mo : M O} {mp : M (List Stp)} {mi : M D} : wS (sSetI i mo mp mi) S k = wM mo S fun o S1 => wM mp S1 fun p S2 => wM mi S2 fun d S3 => wSet i p d o S3 k.n := by
  unfold wS wM sSetI
  simp only [wOS_sd, wOS_set]
theorem s_augI {i : Nat} {f : D → D → Option D} {mp : M (List Stp)} {mi me : M D} : wS (sAugI i f mp mi me) S k = wM mp S fun p S1 => wM mi S1 fun d S2 => wF (getL i p d S2) fun x => wM me S2 fun y S3 => wF (f x y) fun z => wSet i p d (.sh z) S3 k.n := by
  unfold wS wM sAugI
  simp only [wOS_sd]
  congr
  funext p S1
  congr
  funext d S2
  cases getL i p d S2 with
  | none => rfl
  | some x =>
    simp only [wOS_sd]
    unfold wF
    simp only
    congr
    funext y S3
    cases f x y with
    | none => rfl
    | some z => exact wOS_set
/-! operators on ints -/
theorem f_add {i j : Int} {P : D → Prop} : wF (dAdd (.int i) (.int j)) P = P (.int (i + j)) := propext Iff.rfl
theorem f_sub {i j : Int} {P : D → Prop} : wF (dSub (.int i) (.int j)) P = P (.int (i - j)) := propext Iff.rfl
theorem f_lt {i j : Int} {P : D → Prop} : wF (dLt (.int i) (.int j)) P = P (.bl (decide (i < j))) := propext Iff.rfl
theorem f_le {i j : Int} {P : D → Prop} : wF (dLe (.int i) (.int j)) P = P (.bl (decide (i ≤ j))) := propext Iff.rfl
theorem f_gt {i j : Int} {P : D → Prop} : wF (dGt (.int i) (.int j)) P = P (.bl (decide (j < i))) := propext Iff.rfl
theorem f_ge {i j : Int} {P : D → Prop} : wF (dGe (.int i) (.int j)) P = P (.bl (decide (j ≤ i))) := propext Iff.rfl
theorem f_dec {C : Bool} {d : D} {P : D → Prop} : wF (match C with | true => some d | false => none) P = (C = true ∧ P d) := by cases C <;> simp [wF]
theorem f_mod {i j : Int} {P : D → Prop} : wF (dMod (.int i) (.int j)) P = (0 < j ∧ P (.int (i % j))) := by
  show wF (match decide (0 < j) with | true => some _ | false => none) P = _
  rw [f_dec, decide_eq_true_eq]
theorem f_div {i j : Int} {P : D → Prop} : wF (dDiv (.int i) (.int j)) P = ((0 < j ∧ j < 2 ^ 200) ∧ P (.int (i / j))) := by
  show wF (match decide (0 < j ∧ j < 2 ^ 200) with | true => some _ | false => none) P = _
  rw [f_dec, decide_eq_true_eq]
theorem f_mul {i j : Int} {P : D → Prop} : wF (dMul (.int i) (.int j)) P = (((-(2 ^ 64) < i ∧ i < 2 ^ 64) ∨ (-(2 ^ 64) < j ∧ j < 2 ^ 64)) ∧ P (.int (i * j))) := by
  show wF (match decide ((-(2 ^ 64) < i ∧ i < 2 ^ 64) ∨ (-(2 ^ 64) < j ∧ j < 2 ^ 64)) with | true => some _ | false => none) P = _
  rw [f_dec, decide_eq_true_eq]
theorem eqv_int {i j : Int} : PyData.eqv (.int i) (.int j) = decide (i = j) := by
  show (i == j) = _
  by_cases h : i = j
  · rw [h]; simp
  · rw [decide_eq_false h, beq_eq_false_iff_ne.mpr h]
theorem f_eq {i j : Int} {P : D → Prop} : wF (dEq (.int i) (.int j)) P = P (.bl (decide (i = j))) := by
  show wF ((eqB (.int i) (.int j)).map D.bl) P = _
  have e : eqB (.int i) (.int j) = some (decide (i = j)) := by
    show some (PyData.eqv (.int i) (.int j)) = _
    rw [eqv_int]
  rw [e]
  rfl
theorem f_ne {i j : Int} {P : D → Prop} : wF (dNe (.int i) (.int j)) P = P (.bl (!decide (i = j))) := by
  show wF ((eqB (.int i) (.int j)).map fun b => D.bl (!b)) P = _
  have e : eqB (.int i) (.int j) = some (decide (i = j)) := by
    show some (PyData.eqv (.int i) (.int j)) = _
    rw [eqv_int]
  rw [e]
  rfl
theorem b_bl {b : Bool} {P : Bool → Prop} : wB (.bl b) P = P b := propext Iff.rfl
theorem l_sh {d : D} {P : D → Prop} : wL (some (.sh d)) P = P d := propext Iff.rfl
theorem v_pl {d : D} {P : D → Prop} : wV (some (.pl d)) P = P d := propext Iff.rfl
theorem o_ow {o : O} {P : Prop} : isOwS (some (.ow o)) P = P := propext Iff.rfl
theorem i_lst {os : List O} {n : Int} {P : Nat → Prop} : wI (some (.lst os)) (.int n) P = wF (ixN os.length n) P := propext Iff.rfl
theorem wF_some {a : α} {P : α → Prop} : wF (some a) P = P a := propext Iff.rfl
theorem f_len {ds : List D} {P : D → Prop} : wF (fLen [.lst ds]) P = P (.int ds.length) := propext Iff.rfl
theorem g_nm {i : Nat} {d : D} {P : List Sl → Prop} : wF (gNm i d S) P = P (S.set i (.pl d)) := propext Iff.rfl
theorem wO_mk {n : Nat} {b : MS} {args : List Sl} {Q : O → List Sl → Prop} : wO (mkFn n b args) Q = wS b (args ++ List.replicate (n - args.length) .no) ⟨Q (.sh .non), Q, fun _ => False, fun _ => False⟩ := by
  unfold mkFn wS
  cases b (args ++ List.replicate (n - args.length) .no) <;> rfl
theorem wF_map {f : α → β} {x : Option α} {P : β → Prop} : wF (x.map f) P = wF x fun a => P (f a) := by cases x <;> rfl
theorem f_ix {ds : List D} {n : Int} {P : D → Prop} : wF (dIx (.lst ds) (.int n)) P = wF (atI ds n) P := propext Iff.rfl
theorem sg0 {o : O} {p : List Stp} : sget (.ow o :: S) 0 p = oget o p := rfl
theorem sp0 {o n : O} {p : List Stp} : sput (.ow o :: S) 0 p n = .ow (oput o p n) :: S := rfl
theorem sg1 {x0 : Sl} {o : O} {p : List Stp} : sget (x0 :: .ow o :: S) 1 p = oget o p := rfl
theorem sp1 {x0 : Sl} {o n : O} {p : List Stp} : sput (x0 :: .ow o :: S) 1 p n = x0 :: .ow (oput o p n) :: S := rfl
theorem sg2 {x0 : Sl} {x1 : Sl} {o : O} {p : List Stp} : sget (x0 :: x1 :: .ow o :: S) 2 p = oget o p := rfl
theorem sp2 {x0 : Sl} {x1 : Sl} {o n : O} {p : List Stp} : sput (x0 :: x1 :: .ow o :: S) 2 p n = x0 :: x1 :: .ow (oput o p n) :: S := rfl
theorem sg3 {x0 : Sl} {x1 : Sl} {x2 : Sl} {o : O} {p : List Stp} : sget (x0 :: x1 :: x2 :: .ow o :: S) 3 p = oget o p := rfl
theorem sp3 {x0 : Sl} {x1 : Sl} {x2 : Sl} {o n : O} {p : List Stp} : sput (x0 :: x1 :: x2 :: .ow o :: S) 3 p n = x0 :: x1 :: x2 :: .ow (oput o p n) :: S := rfl
theorem sg4 {x0 : Sl} {x1 : Sl} {x2 : Sl} {x3 : Sl} {o : O} {p : List Stp} : sget (x0 :: x1 :: x2 :: x3 :: .ow o :: S) 4 p = oget o p := rfl
theorem sp4 {x0 : Sl} {x1 : Sl} {x2 : Sl} {x3 : Sl} {o n : O} {p : List Stp} : sput (x0 :: x1 :: x2 :: x3 :: .ow o :: S) 4 p n = x0 :: x1 :: x2 :: x3 :: .ow (oput o p n) :: S := rfl
theorem sg5 {x0 : Sl} {x1 : Sl} {x2 : Sl} {x3 : Sl} {x4 : Sl} {o : O} {p : List Stp} : sget (x0 :: x1 :: x2 :: x3 :: x4 :: .ow o :: S) 5 p = oget o p := rfl
theorem sp5 {x0 : Sl} {x1 : Sl} {x2 : Sl} {x3 : Sl} {x4 : Sl} {o n : O} {p : List Stp} : sput (x0 :: x1 :: x2 :: x3 :: x4 :: .ow o :: S) 5 p n = x0 :: x1 :: x2 :: x3 :: x4 :: .ow (oput o p n) :: S := rfl
theorem sg6 {x0 : Sl} {x1 : Sl} {x2 : Sl} {x3 : Sl} {x4 : Sl} {x5 : Sl} {o : O} {p : List Stp} : sget (x0 :: x1 :: x2 :: x3 :: x4 :: x5 :: .ow o :: S) 6 p = oget o p := rfl
theorem sp6 {x0 : Sl} {x1 : Sl} {x2 : Sl} {x3 : Sl} {x4 : Sl} {x5 : Sl} {o n : O} {p : List Stp} : sput (x0 :: x1 :: x2 :: x3 :: x4 :: x5 :: .ow o :: S) 6 p n = x0 :: x1 :: x2 :: x3 :: x4 :: x5 :: .ow (oput o p n) :: S := rfl
theorem sg7 {x0 : Sl} {x1 : Sl} {x2 : Sl} {x3 : Sl} {x4 : Sl} {x5 : Sl} {x6 : Sl} {o : O} {p : List Stp} : sget (x0 :: x1 :: x2 :: x3 :: x4 :: x5 :: x6 :: .ow o :: S) 7 p = oget o p := rfl
theorem sp7 {x0 : Sl} {x1 : Sl} {x2 : Sl} {x3 : Sl} {x4 : Sl} {x5 : Sl} {x6 : Sl} {o n : O} {p : List Stp} : sput (x0 :: x1 :: x2 :: x3 :: x4 :: x5 :: x6 :: .ow o :: S) 7 p n = x0 :: x1 :: x2 :: x3 :: x4 :: x5 :: x6 :: .ow (oput o p n) :: S := rfl
theorem sg8 {x0 : Sl} {x1 : Sl} {x2 : Sl} {x3 : Sl} {x4 : Sl} {x5 : Sl} {x6 : Sl} {x7 : Sl} {o : O} {p : List Stp} : sget (x0 :: x1 :: x2 :: x3 :: x4 :: x5 :: x6 :: x7 :: .ow o :: S) 8 p = oget o p := rfl
theorem sp8 {x0 : Sl} {x1 : Sl} {x2 : Sl} {x3 : Sl} {x4 : Sl} {x5 : Sl} {x6 : Sl} {x7 : Sl} {o n : O} {p : List Stp} : sput (x0 :: x1 :: x2 :: x3 :: x4 :: x5 :: x6 :: x7 :: .ow o :: S) 8 p n = x0 :: x1 :: x2 :: x3 :: x4 :: x5 :: x6 :: x7 :: .ow (oput o p n) :: S := rfl
theorem sg9 {x0 : Sl} {x1 : Sl} {x2 : Sl} {x3 : Sl} {x4 : Sl} {x5 : Sl} {x6 : Sl} {x7 : Sl} {x8 : Sl} {o : O} {p : List Stp} : sget (x0 :: x1 :: x2 :: x3 :: x4 :: x5 :: x6 :: x7 :: x8 :: .ow o :: S) 9 p = oget o p := rfl
theorem sp9 {x0 : Sl} {x1 : Sl} {x2 : Sl} {x3 : Sl} {x4 : Sl} {x5 : Sl} {x6 : Sl} {x7 : Sl} {x8 : Sl} {o n : O} {p : List Stp} : sput (x0 :: x1 :: x2 :: x3 :: x4 :: x5 :: x6 :: x7 :: x8 :: .ow o :: S) 9 p n = x0 :: x1 :: x2 :: x3 :: x4 :: x5 :: x6 :: x7 :: x8 :: .ow (oput o p n) :: S := rfl
theorem sg10 {x0 : Sl} {x1 : Sl} {x2 : Sl} {x3 : Sl} {x4 : Sl} {x5 : Sl} {x6 : Sl} {x7 : Sl} {x8 : Sl} {x9 : Sl} {o : O} {p : List Stp} : sget (x0 :: x1 :: x2 :: x3 :: x4 :: x5 :: x6 :: x7 :: x8 :: x9 :: .ow o :: S) 10 p = oget o p := rfl
theorem sp10 {x0 : Sl} {x1 : Sl} {x2 : Sl} {x3 : Sl} {x4 : Sl} {x5 : Sl} {x6 : Sl} {x7 : Sl} {x8 : Sl} {x9 : Sl} {o n : O} {p : List Stp} : sput (x0 :: x1 :: x2 :: x3 :: x4 :: x5 :: x6 :: x7 :: x8 :: x9 :: .ow o :: S) 10 p n = x0 :: x1 :: x2 :: x3 :: x4 :: x5 :: x6 :: x7 :: x8 :: x9 :: .ow (oput o p n) :: S := rfl
theorem sg11 {x0 : Sl} {x1 : Sl} {x2 : Sl} {x3 : Sl} {x4 : Sl} {x5 : Sl} {x6 : Sl} {x7 : Sl} {x8 : Sl} {x9 : Sl} {x10 : Sl} {o : O} {p : List Stp} : sget (x0 :: x1 :: x2 :: x3 :: x4 :: x5 :: x6 :: x7 :: x8 :: x9 :: x10 :: .ow o :: S) 11 p = oget o p := rfl
theorem sp11 {x0 : Sl} {x1 : Sl} {x2 : Sl} {x3 : Sl} {x4 : Sl} {x5 : Sl} {x6 : Sl} {x7 : Sl} {x8 : Sl} {x9 : Sl} {x10 : Sl} {o n : O} {p : List Stp} : sput (x0 :: x1 :: x2 :: x3 :: x4 :: x5 :: x6 :: x7 :: x8 :: x9 :: x10 :: .ow o :: S) 11 p n = x0 :: x1 :: x2 :: x3 :: x4 :: x5 :: x6 :: x7 :: x8 :: x9 :: x10 :: .ow (oput o p n) :: S := rfl
theorem sg12 {x0 : Sl} {x1 : Sl} {x2 : Sl} {x3 : Sl} {x4 : Sl} {x5 : Sl} {x6 : Sl} {x7 : Sl} {x8 : Sl} {x9 : Sl} {x10 : Sl} {x11 : Sl} {o : O} {p : List Stp} : sget (x0 :: x1 :: x2 :: x3 :: x4 :: x5 :: x6 :: x7 :: x8 :: x9 :: x10 :: x11 :: .ow o :: S) 12 p = oget o p := rfl
theorem sp12 {x0 : Sl} {x1 : Sl} {x2 : Sl} {x3 : Sl} {x4 : Sl} {x5 : Sl} {x6 : Sl} {x7 : Sl} {x8 : Sl} {x9 : Sl} {x10 : Sl} {x11 : Sl} {o n : O} {p : List Stp} : sput (x0 :: x1 :: x2 :: x3 :: x4 :: x5 :: x6 :: x7 :: x8 :: x9 :: x10 :: x11 :: .ow o :: S) 12 p n = x0 :: x1 :: x2 :: x3 :: x4 :: x5 :: x6 :: x7 :: x8 :: x9 :: x10 :: x11 :: .ow (oput o p n) :: S := rfl
theorem sg13 {x0 : Sl} {x1 : Sl} {x2 : Sl} {x3 : Sl} {x4 : Sl} {x5 : Sl} {x6 : Sl} {x7 : Sl} {x8 : Sl} {x9 : Sl} {x10 : Sl} {x11 : Sl} {x12 : Sl} {o : O} {p : List Stp} : sget (x0 :: x1 :: x2 :: x3 :: x4 :: x5 :: x6 :: x7 :: x8 :: x9 :: x10 :: x11 :: x12 :: .ow o :: S) 13 p = oget o p := rfl
theorem sp13 {x0 : Sl} {x1 : Sl} {x2 : Sl} {x3 : Sl} {x4 : Sl} {x5 : Sl} {x6 : Sl} {x7 : Sl} {x8 : Sl} {x9 : Sl} {x10 : Sl} {x11 : Sl} {x12 : Sl} {o n : O} {p : List Stp} : sput (x0 :: x1 :: x2 :: x3 :: x4 :: x5 :: x6 :: x7 :: x8 :: x9 :: x10 :: x11 :: x12 :: .ow o :: S) 13 p n = x0 :: x1 :: x2 :: x3 :: x4 :: x5 :: x6 :: x7 :: x8 :: x9 :: x10 :: x11 :: x12 :: .ow (oput o p n) :: S := rfl
theorem sg14 {x0 : Sl} {x1 : Sl} {x2 : Sl} {x3 : Sl} {x4 : Sl} {x5 : Sl} {x6 : Sl} {x7 : Sl} {x8 : Sl} {x9 : Sl} {x10 : Sl} {x11 : Sl} {x12 : Sl} {x13 : Sl} {o : O} {p : List Stp} : sget (x0 :: x1 :: x2 :: x3 :: x4 :: x5 :: x6 :: x7 :: x8 :: x9 :: x10 :: x11 :: x12 :: x13 :: .ow o :: S) 14 p = oget o p := rfl
theorem sp14 {x0 : Sl} {x1 : Sl} {x2 : Sl} {x3 : Sl} {x4 : Sl} {x5 : Sl} {x6 : Sl} {x7 : Sl} {x8 : Sl} {x9 : Sl} {x10 : Sl} {x11 : Sl} {x12 : Sl} {x13 : Sl} {o n : O} {p : List Stp} : sput (x0 :: x1 :: x2 :: x3 :: x4 :: x5 :: x6 :: x7 :: x8 :: x9 :: x10 :: x11 :: x12 :: x13 :: .ow o :: S) 14 p n = x0 :: x1 :: x2 :: x3 :: x4 :: x5 :: x6 :: x7 :: x8 :: x9 :: x10 :: x11 :: x12 :: x13 :: .ow (oput o p n) :: S := rfl
theorem sg15 {x0 : Sl} {x1 : Sl} {x2 : Sl} {x3 : Sl} {x4 : Sl} {x5 : Sl} {x6 : Sl} {x7 : Sl} {x8 : Sl} {x9 : Sl} {x10 : Sl} {x11 : Sl} {x12 : Sl} {x13 : Sl} {x14 : Sl} {o : O} {p : List Stp} : sget (x0 :: x1 :: x2 :: x3 :: x4 :: x5 :: x6 :: x7 :: x8 :: x9 :: x10 :: x11 :: x12 :: x13 :: x14 :: .ow o :: S) 15 p = oget o p := rfl
theorem sp15 {x0 : Sl} {x1 : Sl} {x2 : Sl} {x3 : Sl} {x4 : Sl} {x5 : Sl} {x6 : Sl} {x7 : Sl} {x8 : Sl} {x9 : Sl} {x10 : Sl} {x11 : Sl} {x12 : Sl} {x13 : Sl} {x14 : Sl} {o n : O} {p : List Stp} : sput (x0 :: x1 :: x2 :: x3 :: x4 :: x5 :: x6 :: x7 :: x8 :: x9 :: x10 :: x11 :: x12 :: x13 :: x14 :: .ow o :: S) 15 p n = x0 :: x1 :: x2 :: x3 :: x4 :: x5 :: x6 :: x7 :: x8 :: x9 :: x10 :: x11 :: x12 :: x13 :: x14 :: .ow (oput o p n) :: S := rfl
theorem og_nil {o : O} : oget o [] = some o := rfl
theorem og_lst {os : List O} {j : Nat} {p : List Stp} : oget (.lst os) (.ix j :: p) = os[j]?.bind fun o => oget o p := by
  show (match os[j]? with | some o' => oget o' p | none => none) = _
  cases os[j]? <;> rfl
theorem op_nil {o n : O} : oput o [] n = n := rfl
theorem w_set {i : Nat} {p : List Stp} {n : Int} {o : O} {P : List Sl → Prop} : wSet i p (.int n) o S P = wSet' (sget S i p) n fun os j => P (sput S i p (.lst (os.set j o))) := by
  unfold wSet wSet'
  cases sget S i p with
  | none => rfl
  | some x => cases x <;> rfl
theorem w_set' {os : List O} {n : Int} {P : List O → Nat → Prop} : wSet' (some (.lst os)) n P = wF (ixN os.length n) (P os) := propext Iff.rfl
theorem w_get {i : Nat} {p : List Stp} {n : Int} {P : D → Prop} : wF (getL i p (.int n) S) P = wSet' (sget S i p) n fun os j => wL os[j]? P := by
  unfold getL wSet'
  cases sget S i p with
  | none => rfl
  | some x =>
    cases x with
    | lst os =>
      simp only
      cases ixN os.length n with
      | none => rfl
      | some j =>
        simp only
        show wF (match os[j]? with | some (.sh x) => some x | _ => none) P = wL os[j]? P
        cases os[j]? with
        | none => rfl
        | some o => cases o <;> rfl
    | _ => rfl
end
end Z

/-! Y2: calls, loops, comprehensions, lists of ints: what they come to. -/
namespace Z
open PySem PySem.Spec PyProof.Rows L2
section
variable {α β γ : Type} {S : List Sl} {k : Ks}
theorem wO_mono {x : Out α} {P Q : α → List Sl → Prop} (h : wO x P) (f : ∀ a S, P a S → Q a S) : wO x Q := by
  cases x with
  | ok a S => exact f a S h
  | exc _ _ _ _ => exact h
  | bad => exact h
theorem wM_mono {m : M α} {P Q : α → List Sl → Prop} (h : wM m S P) (f : ∀ a S, P a S → Q a S) : wM m S Q := wO_mono h f
theorem wF_mono {x : Option α} {P Q : α → Prop} (h : wF x P) (f : ∀ a, P a → Q a) : wF x Q := by
  cases x with
  | some a => exact f a h
  | none => exact h
/-! calls -/
def wC (n : Nat) (io : List Nat) (as : List Av) (S : List Sl) (P : List Sl → Prop) : Prop := match callOk n io as, argsOf S as with
  | true, some args => P args
  | _, _ => False
theorem wO_call {n : Nat} {io : List Nat} {f : Fn} {as : List Av} {Q : O → List Sl → Prop} : wO (callV n io f as S) Q = wC n io as S fun args => wO (f args) fun o S2 => ((shown as).isEmpty || (clO o && io.all fun p => clS S2[p]?)) = true ∧ Q o (backS S2 (lentAt 0 as) S) := by
  unfold callV wC
  cases callOk n io as with
  | false => cases argsOf S as <;> rfl
  | true =>
    cases argsOf S as with
    | none => rfl
    | some args =>
      simp only
      cases f args with
      | ok o S2 =>
        simp only
        cases h : (shown as).isEmpty || (clO o && io.all fun p => clS S2[p]?) with
        | true =>
          show Q o _ = ((_ : Bool) = true ∧ Q o _)
          rw [h]
          simp
        | false =>
          show False = ((_ : Bool) = true ∧ Q o _)
          rw [h]
          simp
      | exc C fs ds S2 =>
        simp only
        cases (shown as).isEmpty || (ds.all isScal && io.all fun p => clS S2[p]?) <;> rfl
      | bad => rfl
theorem w_call {n : Nat} {io : List Nat} {f : Fn} {m : M (List Av)} {Q : O → List Sl → Prop} : wM (mCall n io f m) S Q = wM m S fun as S1 => wC n io as S1 fun args => wO (f args) fun o S2 => ((shown as).isEmpty || (clO o && io.all fun p => clS S2[p]?)) = true ∧ Q o (backS S2 (lentAt 0 as) S1) := by
  unfold wM mCall
  simp only [wO_bd, wO_call]
theorem w_aD {m : M D} {Q : Av → List Sl → Prop} : wM (aD m) S Q = wM m S fun d S1 => Q (.d d) S1 := by
  unfold wM aD
  rw [wO_bd]
  rfl
theorem w_aS {i : Nat} {Q : Av → List Sl → Prop} : wM (aS i) S Q = isOwS S[i]? (Q (.s i) S) := by
  unfold wM aS isOwS isOw
  cases S[i]? with
  | none => rfl
  | some s => cases s <;> rfl
theorem w_aB {i : Nat} {Q : Av → List Sl → Prop} : wM (aB i) S Q = isOwS S[i]? (Q (.b i) S) := by
  unfold wM aB isOwS isOw
  cases S[i]? with
  | none => rfl
  | some s => cases s <;> rfl
/-! for -/
theorem s_for {m : M (List D)} {g : Tg} {b : MS} : wS (sFor m g b) S k = wM m S fun ds S1 => wOS (forGo g b ds S1) k := by
  unfold wS wM sFor
  rw [wOS_sd]
theorem for_go {g : Tg} {b : MS} (I : Nat → List Sl → Prop) : ∀ (ds : List D) (n : Nat) (S : List Sl), I n S → (∀ (i : Nat) (d : D) (S : List Sl), ds[i]? = some d → I (n + i) S → wF (g d S) fun S1 => wS b S1 ⟨I (n + i + 1), k.r, k.n, I (n + i + 1)⟩) → (∀ S, I (n + ds.length) S → k.n S) → wOS (forGo g b ds S) k
  | [], n, S, h, _, e => e S h
  | d :: ds, n, S, h, st, e => by
    have h1 := st 0 d S rfl h
    unfold forGo
    cases hg : g d S with
    | none => rw [hg] at h1; exact h1
    | some S1 =>
      rw [hg] at h1
      have h2 : wOS (b S1) ⟨I (n + 1), k.r, k.n, I (n + 1)⟩ := h1
      have next : ∀ S2, I (n + 1) S2 → wOS (forGo g b ds S2) k := fun S2 h3 => for_go I ds (n + 1) S2 h3 (fun i d' S' hd hi => by
        have := st (i + 1) d' S' hd (by rw [show n + (i + 1) = n + 1 + i by omega]; exact hi)
        rw [show n + (i + 1) = n + 1 + i by omega] at this
        exact this) fun S' h4 => e S' (by rw [List.length_cons, show n + (ds.length + 1) = n + 1 + ds.length by omega]; exact h4)
      simp only
      cases hb : b S1 with
      | next S2 => rw [hb] at h2; exact next S2 h2
      | cont S2 => rw [hb] at h2; exact next S2 h2
      | brk S2 => rw [hb] at h2; exact h2
      | ret o S2 => rw [hb] at h2; exact h2
      | exc C fs es S2 => rw [hb] at h2; exact h2
      | bad => rw [hb] at h2; exact h2
theorem for_inv {g : Tg} {b : MS} {ds : List D} (I : Nat → List Sl → Prop) (h : I 0 S) (st : ∀ (i : Nat) (d : D) (S : List Sl), ds[i]? = some d → I i S → wF (g d S) fun S1 => wS b S1 ⟨I (i + 1), k.r, k.n, I (i + 1)⟩) (e : ∀ S, I ds.length S → k.n S) : wOS (forGo g b ds S) k :=
  for_go I ds 0 S h (fun i d S hd hi => by
    rw [Nat.zero_add] at hi ⊢
    exact st i d S hd hi) fun S h => e S (by rw [Nat.zero_add] at h; exact h)
/-! while -/
/-! comprehensions -/
theorem wO_bn {x : Out α} {f : α → List Sl → Out β} {Q : β → List Sl → Prop} : wO (x.bn f) Q = wO x fun a S1 => wO (f a S1) Q := by cases x <;> rfl
theorem w_comp0 {mi : M (List D)} {g : Tg} {t : M Bool} {e : M D} {vs : List Nat} {Q : O → List Sl → Prop} : wM (mComp mi g t e vs) S Q = wM mi S fun ds S1 => (ds.length ≤ 16777216 ∧ (vs.all fun v => notOw S1[v]?) = true) ∧ wO (cmpGo g t e vs ds (wipeS S1 vs)) fun xs S2 => Q (.lst (xs.map .sh)) (restS S1 S2 vs) := by
  unfold wM mComp
  rw [wO_bd]
  congr
  funext ds S1
  by_cases h : ds.length ≤ 16777216
  · cases h2 : vs.all fun v => notOw S1[v]? with
    | true =>
      have hd := decide_eq_true h
      rw [hd]
      show wO (Out.bn _ _) Q = _
      rw [wO_bn]
      simp only [h, true_and]
      rfl
    | false => simp [h, wO]
  · simp [h, wO]
theorem cmp_go {g : Tg} {t : M Bool} {e : M D} {vs : List Nat} (I : Nat → List D → List Sl → Prop) : ∀ (ds : List D) (n : Nat) (acc : List D) (S : List Sl) (Q : List D → List Sl → Prop), I n acc S →
    (∀ (i : Nat) (d : D) (acc : List D) (S : List Sl), ds[i]? = some d → I (n + i) acc S → wF (g d S) fun S1 => wM t S1 fun b S2 => (b = true → wM e S2 fun x S3 => I (n + i + 1) (acc ++ [x]) (wipeS S3 vs)) ∧ (b = false → I (n + i + 1) acc (wipeS S2 vs))) →
    (∀ ys S, I (n + ds.length) (acc ++ ys) S → Q ys S) → wO (cmpGo g t e vs ds S) Q
  | [], n, acc, S, Q, h, _, en => en [] S (by rw [List.append_nil]; exact h)
  | d :: ds, n, acc, S, Q, h, st, en => by
    have h1 := st 0 d acc S rfl h
    unfold cmpGo
    cases hg : g d S with
    | none => rw [hg] at h1; exact h1
    | some S1 =>
      rw [hg] at h1
      simp only [wO_bn]
      have st' : ∀ (i : Nat) (d : D) (acc : List D) (S : List Sl), ds[i]? = some d → I (n + 1 + i) acc S → wF (g d S) fun S1 => wM t S1 fun b S2 => (b = true → wM e S2 fun x S3 => I (n + 1 + i + 1) (acc ++ [x]) (wipeS S3 vs)) ∧ (b = false → I (n + 1 + i + 1) acc (wipeS S2 vs)) := fun i d' acc' S' hd hi => by
        have := st (i + 1) d' acc' S' hd (by rw [show n + (i + 1) = n + 1 + i by omega]; exact hi)
        rw [show n + (i + 1) = n + 1 + i by omega] at this
        exact this
      refine wO_mono (show wO (t S1) _ from h1) fun b S2 ⟨h2, h3⟩ => ?_
      cases b with
      | false =>
        exact cmp_go I ds (n + 1) acc (wipeS S2 vs) Q (h3 rfl) st' fun ys S' h4 => en ys S' (by rw [List.length_cons, show n + (ds.length + 1) = n + 1 + ds.length by omega]; exact h4)
      | true =>
        simp only [wO_bn]
        refine wO_mono (show wO (e S2) _ from h2 rfl) fun x S3 h4 => ?_
        refine cmp_go I ds (n + 1) (acc ++ [x]) (wipeS S3 vs) _ h4 st' fun ys S' h5 => ?_
        refine en (x :: ys) S' ?_
        rw [List.length_cons, show n + (ds.length + 1) = n + 1 + ds.length by omega]
        rw [List.append_assoc] at h5
        exact h5
theorem comp_inv {g : Tg} {t : M Bool} {e : M D} {vs : List Nat} {ds : List D} {Q : List D → List Sl → Prop} (I : Nat → List D → List Sl → Prop) (h : I 0 [] S)
    (st : ∀ (i : Nat) (d : D) (acc : List D) (S : List Sl), ds[i]? = some d → I i acc S → wF (g d S) fun S1 => wM t S1 fun b S2 => (b = true → wM e S2 fun x S3 => I (i + 1) (acc ++ [x]) (wipeS S3 vs)) ∧ (b = false → I (i + 1) acc (wipeS S2 vs))) (en : ∀ ys S, I ds.length ys S → Q ys S) : wO (cmpGo g t e vs ds S) Q :=
  cmp_go I ds 0 [] S Q h (fun i d acc S hd hi => by
    rw [Nat.zero_add] at hi ⊢
    exact st i d acc S hd hi) fun ys S h => en ys S (by rw [Nat.zero_add] at h; exact h)
/-- a comprehension that leaves all else as it is -/
theorem comp_pure {g : Tg} {t : M Bool} {e : M D} {vs : List Nat} {ds : List D} {Q : List D → List Sl → Prop} (p : D → Bool) (f : D → D)
    (st : ∀ d ∈ ds, wF (g d S) fun S1 => wM t S1 fun b S2 => b = p d ∧ (b = true → wM e S2 fun x S3 => x = f d ∧ wipeS S3 vs = S) ∧ (b = false → wipeS S2 vs = S)) (en : Q ((ds.filter p).map f) S) : wO (cmpGo g t e vs ds S) Q := by
  refine comp_inv (fun i acc S' => S' = S ∧ acc = ((ds.take i).filter p).map f) ⟨rfl, rfl⟩ (fun i d acc S' hd ⟨h1, h2⟩ => ?_) fun ys S' ⟨h1, h2⟩ => ?_
  · subst h1
    have hm := List.mem_of_getElem? hd
    have e1 : ds.take (i + 1) = ds.take i ++ [d] := by
      obtain ⟨hl, he⟩ := List.getElem?_eq_some_iff.mp hd
      rw [List.take_succ_eq_append_getElem hl, he]
    refine wF_mono (st d hm) fun S1 h3 => wM_mono h3 fun b S2 ⟨h4, h5, h6⟩ => ⟨fun hb => wM_mono (h5 hb) fun x S3 ⟨h7, h8⟩ => ⟨h8, ?_⟩, fun hb => ⟨h6 hb, ?_⟩⟩
    · rw [e1, List.filter_append, List.map_append, ← h2, h7]
      rw [hb] at h4
      simp [← h4]
    · rw [e1, List.filter_append, List.map_append, ← h2]
      rw [hb] at h4
      simp [← h4]
  · subst h1
    rw [List.take_length] at h2
    rw [h2]
    exact en
/-! lists of ints -/
theorem intsD_map : ∀ ns : List Int, intsD (ns.map D.int) = some ns
  | [] => rfl
  | n :: ns => by
    show (intsD (ns.map D.int)).map (n :: ·) = _
    rw [intsD_map ns]
    rfl
theorem intsO_map : ∀ ns : List Int, intsO (ns.map fun n => O.sh (.int n)) = some ns
  | [] => rfl
  | n :: ns => by
    show (intsO (ns.map fun n => O.sh (.int n))).map (n :: ·) = _
    rw [intsO_map ns]
    rfl
theorem pairsD_map : ∀ ps : List (Int × Int), pairsD (ps.map pairD) = some ps
  | [] => rfl
  | p :: ps => by
    show (pairsD (ps.map pairD)).map ((p.1, p.2) :: ·) = _
    rw [pairsD_map ps]
    rfl
theorem bsD_map : ∀ ns : List Bool, bsD (ns.map D.bl) = some ns
  | [] => rfl
  | n :: ns => by
    show (bsD (ns.map D.bl)).map (n :: ·) = _
    rw [bsD_map ns]
    rfl
theorem frL_sh : ∀ ds : List D, frL (ds.map O.sh) = ds
  | [] => rfl
  | d :: ds => by
    show d :: frL (ds.map O.sh) = _
    rw [frL_sh ds]
theorem all_scal : ∀ ns : List Int, (ns.map D.int).all isScal = true
  | [] => rfl
  | n :: ns => all_scal ns
theorem inB_ints {n : Int} {ns : List Int} : inB (.int n) (.lst (ns.map D.int)) = some (decide (n ∈ ns)) := by
  have e : ∀ ms : List Int, ((ms.map D.int).any fun y => eqS y (.int n)) = decide (n ∈ ms) := by
    intro ms
    induction ms with
    | nil => rfl
    | cons m ms ih =>
      rw [List.map_cons, List.any_cons, ih]
      have e1 : eqS (.int m) (.int n) = decide (n = m) := by
        show (m == n) = _
        by_cases h : m = n
        · rw [h]; simp
        · rw [beq_eq_false_iff_ne.mpr h, decide_eq_false fun z => h z.symm]
      rw [e1]
      simp only [List.mem_cons, Bool.decide_or]
  have e2 := e ns
  unfold inB
  simp only
  rw [all_scal]
  show some _ = _
  rw [e2]
end
end Z

set_option maxHeartbeats 4000000
namespace Z
open PySem PySem.Spec PyProof.Rows L2
def bagO (a b c : Int) (cells : List Int) : O := .lst [.sh (.int a), .sh (.int b), .sh (.int c), .sh (.lst (cells.map .int))]
theorem atI_map {α β : Type} {f : α → β} {xs : List α} {n : Int} : atI (xs.map f) n = (atI xs n).map f := by
  unfold atI
  rw [List.length_map]
  cases ixN xs.length n with
  | none => rfl
  | some j => exact List.getElem?_map
theorem atI_ok {α : Type} {xs : List α} {n : Int} (h0 : 0 ≤ n) (h1 : n < xs.length) : ∃ x ∈ xs, atI xs n = some x := by
  have hj : n.toNat < xs.length := by omega
  refine ⟨xs[n.toNat], List.getElem_mem hj, ?_⟩
  unfold atI ixN
  rw [if_pos h0, if_pos h1]
  exact List.getElem?_eq_getElem hj
end Z
namespace W
open PySem PySem.Spec PyProof.Rows L2 Z
theorem take_ok {a b c m : Int} {cells : List Int} {Q : O → List Sl → Prop} (ha : 0 ≤ a) (hb : 0 ≤ b ∧ b < 2147483647) (hc : 0 ≤ c) (hcs : ∀ x ∈ cells, 0 ≤ x) (hm : 1 ≤ m ∧ m < 2 ^ 200)
    (k : ∀ (r a' b' c' : Int) (S : List Sl), 0 ≤ r → r < m → 0 ≤ a' → (0 ≤ b' ∧ b' < 2147483647) → 0 ≤ c' → S.getD 0 .no = .ow (bagO a' b' c' cells) → Q (.sh (.int r)) S) : wO (f__law_take [.ow (bagO a b c cells), .pl (.int m)]) Q := by
  unfold f__law_take
  rw [wO_mk]
  unfold m__law_take bagO
  simp only [s_seq, s_if, w_mTst, w_m2x, w_mRd, w_pIx, w_pVar, w_mC, s_asg, s_ret, w_mSh, w_mVar, s_setI, s_augI, w_m1x, w_mCons, s_next, w_set, w_get]
  simp [o_ow, sg0, sp0, og_nil, og_lst, op_nil, i_lst, ixN, wF_some, wF_map, l_sh, f_eq, f_gt, f_ge, f_lt, b_bl, g_nm, v_pl, f_mod, f_div, f_mul, f_add, f_len, f_ix, w_set', atI_map]
  have h1 : ∀ x : Int, 0 ≤ x % m ∧ x % m < m := fun x => ⟨Int.emod_nonneg x (by omega), Int.emod_lt_of_pos x (by omega)⟩
  have h2 : ∀ x : Int, 0 ≤ x → 0 ≤ x / m := fun x hx => Int.ediv_nonneg hx (by omega)
  have h3 : m < 2 ^ 200 := hm.2
  refine ⟨fun ha0 => ⟨fun hc1 => ?_, fun hc1 => ?_⟩, fun ha0 => ?_⟩
  · obtain ⟨x, hx, e⟩ := atI_ok hc hc1
    have hx0 := hcs x hx
    rw [e]
    simp only [wF_some]
    repeat' first
      | apply And.intro
      | intro _
    all_goals first
      | omega
      | exact k _ _ _ _ _ (h1 _).1 (h1 _).2 (by first | omega | exact h2 _ (by omega)) (by omega) (by omega) rfl
  · repeat' first
      | apply And.intro
      | intro _
    all_goals first
      | omega
      | exact k _ _ _ _ _ (h1 _).1 (h1 _).2 (by first | omega | exact h2 _ (by omega)) (by omega) (by omega) rfl
  · repeat' first
      | apply And.intro
      | intro _
    all_goals first
      | omega
      | exact k _ _ _ _ _ (h1 _).1 (h1 _).2 (by first | omega | exact h2 _ (by omega)) (by omega) (by omega) rfl
/-- the drawing of numbers goes on -/
def BagOk (o : O) : Prop := ∃ (a b c : Int) (cells : List Int), 0 ≤ a ∧ (0 ≤ b ∧ b < 2147483647) ∧ 0 ≤ c ∧ (∀ x ∈ cells, 0 ≤ x) ∧ o = bagO a b c cells
end W

namespace Z
open PySem PySem.Spec PyProof.Rows L2
abbrev shI (n : Int) : O := .sh (.int n)
theorem f_max2 {i j : Int} {P : D → Prop} : wF (fMax2 [.int i, .int j]) P = P (.int (if j > i then j else i)) := propext Iff.rfl
theorem f_min2 {i j : Int} {P : D → Prop} : wF (fMin2 [.int i, .int j]) P = P (.int (if j < i then j else i)) := propext Iff.rfl
end Z
namespace W
open PySem PySem.Spec PyProof.Rows L2 Z
/-- the parents: each ahead of its child -/
def ParOk (ps : List Int) : Prop := ∀ (i : Nat) (x : Int), ps[i]? = some x → 0 ≤ x ∧ x ≤ i
theorem ParOk.snoc {ps : List Int} {x : Int} (h : ParOk ps) (h0 : 0 ≤ x) (h1 : x ≤ ps.length) : ParOk (ps ++ [x]) := fun i y e => by
  by_cases hi : i < ps.length
  · rw [List.getElem?_append_left hi] at e
    exact h i y e
  · rw [List.getElem?_append_right (by omega)] at e
    have : i - ps.length = 0 := by
      have := (List.getElem?_eq_some_iff.mp e).1
      simp at this
      omega
    rw [this] at e
    cases e
    omega
end W

namespace Z
open PySem PySem.Spec PyProof.Rows L2
theorem f_neg {n : Int} {P : D → Prop} : wF (dNeg (.int n)) P = P (.int (-n)) := propext Iff.rfl
theorem w_m2N {md : Bool} {f : D → D → Option (List D)} {a b : M D} {S : List Sl} {Q : O → List Sl → Prop} : wM (m2N md f a b) S Q = wM a S fun x S1 => wM b S1 fun y S2 => wF (f x y) fun z => wF (mkL md z) fun o => Q o S2 := by
  unfold m2N
  rw [w_m2x]
  congr
  funext x S1
  congr
  funext y S2
  cases f x y <;> rfl
theorem w_m1N {md : Bool} {f : D → Option (List D)} {a : M D} {S : List Sl} {Q : O → List Sl → Prop} : wM (m1N md f a) S Q = wM a S fun x S1 => wF (f x) fun z => wF (mkL md z) fun o => Q o S1 := by
  unfold m1N
  rw [w_m1x]
  congr
  funext x S1
  cases f x <;> rfl
theorem f_mkT {ds : List D} {P : O → Prop} : wF (mkL true ds) P = P (.lst (ds.map .sh)) := propext Iff.rfl
theorem ixN_ok {n : Nat} {k : Int} (h0 : 0 ≤ k) (h1 : k < n) : ixN n k = some k.toNat := by
  unfold ixN
  rw [if_pos h0, if_pos h1]
end Z
namespace W
open PySem PySem.Spec PyProof.Rows L2 Z
def upto (n : Nat) : List Int := (List.range n).map fun i : Nat => (i : Int)
theorem upto_len (i : Nat) : (upto i).length = i := by
  unfold upto
  rw [List.length_map, List.length_range]
def tupO (q : Int × Int) : O := .tup [shI q.1, shI q.2]
theorem fr_tups : ∀ ts : List (Int × Int), frL (ts.map tupO) = ts.map Z.pairD
  | [] => rfl
  | t :: ts => by
    show fr (tupO t) :: frL (ts.map tupO) = _
    rw [fr_tups ts]
    rfl
end W

namespace Z
open PySem PySem.Spec PyProof.Rows L2
theorem w_mYes {S : List Sl} {Q : Bool → List Sl → Prop} : wM mYes S Q = Q true S := propext Iff.rfl
theorem f_tp {n : Nat} {ds : List D} {r : Tgs} {S : List Sl} {P : List Sl → Prop} : wF (gTp n r (.tup ds) S) P = (ds.length = n ∧ wF (r ds S) P) := by
  unfold gTp
  by_cases h : ds.length = n
  · simp [h]
  · simp [h, wF]
theorem g_cons {g : Tg} {r : Tgs} {d : D} {ds : List D} {S : List Sl} {P : List Sl → Prop} : wF (gsCons g r (d :: ds) S) P = wF (g d S) fun S1 => wF (r ds S1) P := by
  show wF (match g d S with | some S1 => r ds S1 | none => none) P = _
  cases g d S <;> rfl
theorem g_nil {S : List Sl} {P : List Sl → Prop} : wF (gsNil [] S) P = P S := propext Iff.rfl
end Z
namespace W
open PySem PySem.Spec PyProof.Rows L2 Z
/-- ties between posts of n, the lesser one first -/
def TieOk (n : Nat) (ts : List (Int × Int)) : Prop := ∀ t ∈ ts, 0 ≤ t.1 ∧ t.1 < t.2 ∧ t.2 < n
end W

namespace Z
open PySem PySem.Spec PyProof.Rows L2
theorem c_pure1 {f : Fn} {me : M D} {S : List Sl} {Q : O → List Sl → Prop} {d : D} (hm : wM me S fun d' S1 => d' = d ∧ S1 = S) (h : wO (f [.pl d]) fun o _ => Q o S) : wM (mCall 1 [] f (mCons (aD me) (mC []))) S Q := by
  rw [w_call, w_mCons, w_aD]
  refine wM_mono hm fun d' S1 ⟨h1, h2⟩ => ?_
  subst h1 h2
  show wO (f [.pl d']) _
  exact wO_mono h fun o S2 q => ⟨rfl, q⟩
theorem c_pure2 {f : Fn} {me mf : M D} {S : List Sl} {Q : O → List Sl → Prop} {d e : D} (hm : wM me S fun d' S1 => d' = d ∧ S1 = S) (hm2 : wM mf S fun d' S1 => d' = e ∧ S1 = S) (h : wO (f [.pl d, .pl e]) fun o _ => Q o S) : wM (mCall 2 [] f (mCons (aD me) (mCons (aD mf) (mC [])))) S Q := by
  rw [w_call, w_mCons, w_aD]
  refine wM_mono hm fun d' S1 ⟨h1, h2⟩ => ?_
  subst h1 h2
  rw [w_mCons, w_aD]
  refine wM_mono hm2 fun d2 S2 ⟨h1, h2⟩ => ?_
  subst h1 h2
  show wO (f [.pl d', .pl d2]) _
  exact wO_mono h fun o S2 q => ⟨rfl, q⟩
theorem isi_int {n : Int} {P : D → Prop} : wF (dIsi (isT .int) noO (.int n)) P = P (.bl true) := propext Iff.rfl
theorem isi_int_bl {n : Int} {P : D → Prop} : wF (dIsi (isT .bl) noO (.int n)) P = P (.bl false) := propext Iff.rfl
theorem isi_tup {ds : List D} {P : D → Prop} : wF (dIsi (isT .tup) noO (.tup ds)) P = P (.bl true) := propext Iff.rfl
theorem isi_lst {ds : List D} {P : D → Prop} : wF (dIsi (isT .lst) noO (.lst ds)) P = P (.bl true) := propext Iff.rfl
theorem isi_lt {ds : List D} {P : D → Prop} : wF (dIsi (isT2 .lst .tup) noO (.lst ds)) P = P (.bl true) := propext Iff.rfl
theorem w_mCh {f g : D → D → Option D} {a b c : M D} {S : List Sl} {Q : D → List Sl → Prop} : wM (mCh f g a b c) S Q = wM a S fun x S1 => wM b S1 fun y S2 => wF (f x y) fun r => wB r fun t => (t = true → wM c S2 fun z S3 => wF (g y z) fun d => Q d S3) ∧ (t = false → Q (.bl false) S2) := by
  unfold wM mCh
  simp only [wO_bd]
  congr
  funext x S1
  congr
  funext y S2
  cases f x y with
  | none => rfl
  | some d =>
    cases d with
    | bl t =>
      cases t with
      | true =>
        simp only [wO_bd, wO_oo]
        show _ = ((true = true → _) ∧ (true = false → _))
        simp
      | false =>
        show _ = ((false = true → _) ∧ (false = false → _))
        simp
        rfl
    | _ => rfl
theorem f_lent {ds : List D} {P : D → Prop} : wF (fLen [.tup ds]) P = P (.int ds.length) := propext Iff.rfl
end Z
namespace W
open PySem PySem.Spec PyProof.Rows L2 Z
theorem is_integer_ok {n : Int} {Q : O → List Sl → Prop} (k : ∀ S, Q (.sh (.bl true)) S) : wO (f_is_integer [.pl (.int n)]) Q := by
  unfold f_is_integer
  rw [wO_mk]
  unfold m_is_integer
  simp only [s_ret, w_mSh, w_mBl, w_mAnd, w_mTst, w_m1x, w_mVar, w_mNot]
  simp [v_pl, isi_int, isi_int_bl, b_bl]
  exact k _
theorem is_post_ok {n size : Int} {Q : O → List Sl → Prop} (k : ∀ S, Q (.sh (.bl (decide (0 ≤ n ∧ n < size)))) S) : wO (f_is_post [.pl (.int n), .pl (.int size)]) Q := by
  unfold f_is_post
  rw [wO_mk]
  unfold m_is_post
  simp only [s_ret, w_mSh, w_mBl, w_mAnd, w_mTst, w_mFr]
  refine c_pure1 (d := .int n) (by simp [w_mVar, v_pl]) (is_integer_ok fun S => ?_)
  simp only [w_mCh, w_mVar, w_mC]
  simp [v_pl, fr, b_bl, f_le, f_lt]
  refine ⟨fun h => ?_, fun h => ?_⟩
  · have := k [Sl.pl (D.int n), Sl.pl (D.int size)]
    simpa [h] using this
  · have := k [Sl.pl (D.int n), Sl.pl (D.int size)]
    have h2 : ¬ 0 ≤ n := by omega
    simpa [h2] using this
end W

namespace Z
open PySem PySem.Spec PyProof.Rows L2
theorem f_itS {ds : List D} {P : List D → Prop} : wF (itS (.lst ds)) P = P ds := propext Iff.rfl
theorem f_all {bs : List Bool} {P : D → Prop} : wF (fAll [.lst (bs.map D.bl)]) P = P (.bl (bs.all id)) := by
  unfold fAll f1B
  simp only [lstD, Option.bind_some, bsD_map]
  rfl
theorem f_cnt {ns : List Int} {P : D → Prop} : wF (dCnt (.lst (ns.map D.int))) P = ((ns.length < 4000 ∨ (unl ns).length < 4000) ∧ P (.int (unl ns).length)) := by
  unfold dCnt
  simp only [seqD, Option.bind_some, intsD_map, isLst, true_and]
  by_cases h : ns.length < 4000 ∨ (unl ns).length < 4000
  · simp only [decide_eq_true h, h, true_and]
    rfl
  · simp only [decide_eq_false h, h, false_and]
    rfl
theorem f_leni {ns : List Int} {P : D → Prop} : wF (fLen [.lst (ns.map D.int)]) P = P (.int ns.length) := by
  rw [f_len, List.length_map]
end Z
namespace W
open PySem PySem.Spec PyProof.Rows L2 Z
def isPostD (size : Int) (d : D) : D := match d with
  | .int n => .bl (decide (0 ≤ n ∧ n < size))
  | _ => .non
end W

/-! T7: a tree's ties never join what is joined: labels. -/
namespace W
open PySem PySem.Spec PyProof.Rows L2 Z
theorem sub_len : ∀ {l m : List Int}, l.Nodup → (∀ x ∈ l, x ∈ m) → l.length ≤ m.length
  | [], m, _, _ => Nat.zero_le _
  | x :: l, m, nd, h => by
    have h1 := List.nodup_cons.mp nd
    have hx := h x List.mem_cons_self
    have h2 : l.length ≤ (m.erase x).length := sub_len h1.2 fun y hy => (List.mem_erase_of_ne (show y ≠ x from fun e => h1.1 (e ▸ hy))).mpr (h y (List.mem_cons_of_mem _ hy))
    rw [List.length_erase_of_mem hx] at h2
    have : 0 < m.length := List.length_pos_of_mem hx
    rw [List.length_cons]
    omega
end W

/-! T8: what a tree's ties are. -/
namespace W
open PySem PySem.Spec PyProof.Rows L2 Z
theorem upto_mem {n : Nat} {x : Int} : x ∈ upto n ↔ 0 ≤ x ∧ x < n := by
  unfold upto
  rw [List.mem_map]
  constructor
  · rintro ⟨i, hi, rfl⟩
    have := List.mem_range.mp hi
    omega
  · rintro ⟨h0, h1⟩
    exact ⟨x.toNat, List.mem_range.mpr (by omega), by omega⟩
end W

/-! T9: check_tree. -/
namespace W
open PySem PySem.Spec PyProof.Rows L2 Z
end W

/-! T10: rules for objects: a field set, an object made, a method called. -/
namespace Z
open PySem PySem.Spec PyProof.Rows L2
theorem w_make {cn : Str} {n : Nat} {io : List Nat} {f : Fn} {nn kn : Nat} {gA : List Av → List Av → List Av} {ma mk : M (List Av)} {S : List Sl} {Q : O → List Sl → Prop} : wM (mMake cn n io f nn kn gA ma mk) S Q = wM ma S fun as S1 => wM mk S1 fun zs S2 => (as.length = nn ∧ zs.length = kn) ∧ wO (makeV cn n io f (gA as zs) S2) Q := by
  unfold wM mMake
  simp only [wO_bd]
  congr
  funext as S1
  congr
  funext zs S2
  by_cases h : as.length = nn ∧ zs.length = kn
  · simp only [decide_eq_true h]
    simp [h]
  · simp only [decide_eq_false h]
    simp only [h, false_and]
    rfl
def wMk (o : O) (x : Option Sl) (P : O → Prop) : Prop := match isNonO o, x with
  | true, some (.ow o) => P o
  | _, _ => False
theorem wO_make {cn : Str} {n : Nat} {io : List Nat} {f : Fn} {as : List Av} {S : List Sl} {Q : O → List Sl → Prop} : wO (makeV cn n io f as S) Q = wO (callV n io f (.b S.length :: as) (S ++ [.ow (.obj cn [] [])])) fun r S2 => wMk r S2.getLast? fun o => Q o S2.dropLast := by
  unfold makeV
  rw [wO_bd]
  congr
  funext r S2
  unfold wMk
  cases isNonO r with
  | false => rfl
  | true =>
    cases S2.getLast? with
    | none => rfl
    | some x => cases x <;> rfl
end Z

set_option maxHeartbeats 2000000
/-! Y3: calls by what they give. -/
namespace Z
open PySem PySem.Spec PyProof.Rows L2
def rO (x : Out O) : Option O := match x with
  | .ok o _ => some o
  | _ => none
theorem wO_r {x : Out O} {P : O → Prop} : wO x (fun o _ => P o) = wF (rO x) P := by cases x <;> rfl
theorem rO_of {x : Out O} {r : O} (h : wO x fun o _ => o = r) : rO x = some r := by
  cases x with
  | ok o S => exact congrArg some h
  | exc _ _ _ _ => exact h.elim
  | bad => exact h.elim
/-- an own thing in a slot -/
def wOw (x : Option Sl) (P : O → Prop) : Prop := match x with
  | some (.ow o) => P o
  | _ => False
def wOb (cn m : Str) (d : D) (P : Prop) : Prop := match d with
  | .obj C fs _ => (C = cn ∧ fs.contains m = false) ∧ P
  | _ => False
theorem w_meth0 {C m : Str} {n : Nat} {io : List Nat} {f : Fn} {mo : M D} {ma : M (List Av)} {S : List Sl} {Q : O → List Sl → Prop} : wM (mMeth C m n io f mo ma) S Q = wM mo S fun d S1 => wOb C m d (wM ma S1 fun as S2 => wO (callV n io f (.d d :: as) S2) Q) := by
  unfold wM mMeth
  rw [wO_bd]
  congr
  funext d S1
  cases d with
  | obj C' fs ds =>
    unfold wOb
    simp only
    by_cases h : C' = C ∧ fs.contains m = false
    · have e : (decide (C' = C) && !fs.contains m) = true := by rw [h.2]; simp [h.1]
      rw [e]
      show wO (Out.bd _ _) Q = _
      rw [wO_bd]
      exact propext ⟨fun x => ⟨h, x⟩, fun x => x.2⟩
    · have e : (decide (C' = C) && !fs.contains m) = false := by
        cases hc : decide (C' = C) with
        | false => rfl
        | true =>
          cases hm : fs.contains m with
          | true => rfl
          | false => exact absurd ⟨of_decide_eq_true hc, hm⟩ h
      rw [e]
      have : ¬ (C' = C ∧ fs.contains m = false) := h
      simp only [this, false_and]
      rfl
  | _ => rfl
theorem o_own {o : O} {P : O → Prop} : wOw (some (.ow o)) P = P o := propext Iff.rfl

theorem x_call1 {f : Fn} {m0 : M D} {S : List Sl} {Q : O → List Sl → Prop} : wM (mCall 1 [] f (mCons (aD m0) (mC []))) S Q = (wM m0 S fun d0 S0 => wF (rO (f [.pl d0])) fun o => Q o S0) := by
  rw [w_call]
  simp only [w_mCons, w_aD, w_aS, w_aB, w_mC]
  congr; funext d0 S0
  show wO (f [.pl d0]) (fun o _ => (true = true) ∧ Q o S0) = _
  simp only [true_and]
  exact wO_r (P := fun o => Q o S0)
theorem x_call2 {f : Fn} {m0 m1 : M D} {S : List Sl} {Q : O → List Sl → Prop} : wM (mCall 2 [] f (mCons (aD m0) (mCons (aD m1) (mC [])))) S Q = (wM m0 S fun d0 S0 => wM m1 S0 fun d1 S1 => wF (rO (f [.pl d0, .pl d1])) fun o => Q o S1) := by
  rw [w_call]
  simp only [w_mCons, w_aD, w_aS, w_aB, w_mC]
  congr; funext d0 S0
  congr; funext d1 S1
  show wO (f [.pl d0, .pl d1]) (fun o _ => (true = true) ∧ Q o S1) = _
  simp only [true_and]
  exact wO_r (P := fun o => Q o S1)
theorem x_call3 {f : Fn} {m0 m1 m2 : M D} {S : List Sl} {Q : O → List Sl → Prop} : wM (mCall 3 [] f (mCons (aD m0) (mCons (aD m1) (mCons (aD m2) (mC []))))) S Q = (wM m0 S fun d0 S0 => wM m1 S0 fun d1 S1 => wM m2 S1 fun d2 S2 => wF (rO (f [.pl d0, .pl d1, .pl d2])) fun o => Q o S2) := by
  rw [w_call]
  simp only [w_mCons, w_aD, w_aS, w_aB, w_mC]
  congr; funext d0 S0
  congr; funext d1 S1
  congr; funext d2 S2
  show wO (f [.pl d0, .pl d1, .pl d2]) (fun o _ => (true = true) ∧ Q o S2) = _
  simp only [true_and]
  exact wO_r (P := fun o => Q o S2)
theorem x_call4 {f : Fn} {m0 m1 m2 m3 : M D} {S : List Sl} {Q : O → List Sl → Prop} : wM (mCall 4 [] f (mCons (aD m0) (mCons (aD m1) (mCons (aD m2) (mCons (aD m3) (mC [])))))) S Q = (wM m0 S fun d0 S0 => wM m1 S0 fun d1 S1 => wM m2 S1 fun d2 S2 => wM m3 S2 fun d3 S3 => wF (rO (f [.pl d0, .pl d1, .pl d2, .pl d3])) fun o => Q o S3) := by
  rw [w_call]
  simp only [w_mCons, w_aD, w_aS, w_aB, w_mC]
  congr; funext d0 S0
  congr; funext d1 S1
  congr; funext d2 S2
  congr; funext d3 S3
  show wO (f [.pl d0, .pl d1, .pl d2, .pl d3]) (fun o _ => (true = true) ∧ Q o S3) = _
  simp only [true_and]
  exact wO_r (P := fun o => Q o S3)
theorem x_call5 {f : Fn} {m0 m1 m2 m3 m4 : M D} {S : List Sl} {Q : O → List Sl → Prop} : wM (mCall 5 [] f (mCons (aD m0) (mCons (aD m1) (mCons (aD m2) (mCons (aD m3) (mCons (aD m4) (mC []))))))) S Q = (wM m0 S fun d0 S0 => wM m1 S0 fun d1 S1 => wM m2 S1 fun d2 S2 => wM m3 S2 fun d3 S3 => wM m4 S3 fun d4 S4 => wF (rO (f [.pl d0, .pl d1, .pl d2, .pl d3, .pl d4])) fun o => Q o S4) := by
  rw [w_call]
  simp only [w_mCons, w_aD, w_aS, w_aB, w_mC]
  congr; funext d0 S0
  congr; funext d1 S1
  congr; funext d2 S2
  congr; funext d3 S3
  congr; funext d4 S4
  show wO (f [.pl d0, .pl d1, .pl d2, .pl d3, .pl d4]) (fun o _ => (true = true) ∧ Q o S4) = _
  simp only [true_and]
  exact wO_r (P := fun o => Q o S4)
theorem x_call1s {f : Fn} {j0 : Nat} {S : List Sl} {Q : O → List Sl → Prop} : wM (mCall 1 [] f (mCons (aS j0) (mC []))) S Q = (isOwS S[j0]? (wOw S[j0]? fun o0 => wF (rO (f [.pl (fr o0)])) fun o => clO o = true ∧ Q o S)) := by
  rw [w_call]
  simp only [w_mCons, w_aD, w_aS, w_aB, w_mC]
  congr 1
  cases e0 : S[j0]? with
  | none => simp [wC, argsOf, argOf, e0, wOw]
  | some x0 =>
  cases x0 with
  | no => simp [wC, argsOf, argOf, e0, wOw]
  | pl _ => simp [wC, argsOf, argOf, e0, wOw]
  | ow o0 =>
  simp only [wC, argsOf, argOf, e0, wOw]
  show wO (f [.pl (fr o0)]) (fun o _ => (false || (clO o && true)) = true ∧ Q o S) = _
  simp only [Bool.false_or, Bool.and_true]
  exact wO_r (P := fun o => clO o = true ∧ Q o S)
theorem x_call2s {f : Fn} {m1 : M D} {j0 : Nat} {S : List Sl} {Q : O → List Sl → Prop} : wM (mCall 2 [] f (mCons (aS j0) (mCons (aD m1) (mC [])))) S Q = (isOwS S[j0]? (wM m1 S fun d1 S1 => wOw S1[j0]? fun o0 => wF (rO (f [.pl (fr o0), .pl d1])) fun o => clO o = true ∧ Q o S1)) := by
  rw [w_call]
  simp only [w_mCons, w_aD, w_aS, w_aB, w_mC]
  congr 1
  congr; funext d1 S1
  cases e0 : S1[j0]? with
  | none => simp [wC, argsOf, argOf, e0, wOw]
  | some x0 =>
  cases x0 with
  | no => simp [wC, argsOf, argOf, e0, wOw]
  | pl _ => simp [wC, argsOf, argOf, e0, wOw]
  | ow o0 =>
  simp only [wC, argsOf, argOf, e0, wOw]
  show wO (f [.pl (fr o0), .pl d1]) (fun o _ => (false || (clO o && true)) = true ∧ Q o S1) = _
  simp only [Bool.false_or, Bool.and_true]
  exact wO_r (P := fun o => clO o = true ∧ Q o S1)
theorem x_call2t {f : Fn} {m0 : M D} {j1 : Nat} {S : List Sl} {Q : O → List Sl → Prop} : wM (mCall 2 [] f (mCons (aD m0) (mCons (aS j1) (mC [])))) S Q = (wM m0 S fun d0 S0 => isOwS S0[j1]? (wOw S0[j1]? fun o1 => wF (rO (f [.pl d0, .pl (fr o1)])) fun o => clO o = true ∧ Q o S0)) := by
  rw [w_call]
  simp only [w_mCons, w_aD, w_aS, w_aB, w_mC]
  congr; funext d0 S0
  congr 1
  cases e1 : S0[j1]? with
  | none => simp [wC, argsOf, argOf, e1, wOw]
  | some x1 =>
  cases x1 with
  | no => simp [wC, argsOf, argOf, e1, wOw]
  | pl _ => simp [wC, argsOf, argOf, e1, wOw]
  | ow o1 =>
  simp only [wC, argsOf, argOf, e1, wOw]
  show wO (f [.pl d0, .pl (fr o1)]) (fun o _ => (false || (clO o && true)) = true ∧ Q o S0) = _
  simp only [Bool.false_or, Bool.and_true]
  exact wO_r (P := fun o => clO o = true ∧ Q o S0)
theorem x_call3s {f : Fn} {m1 m2 : M D} {j0 : Nat} {S : List Sl} {Q : O → List Sl → Prop} : wM (mCall 3 [] f (mCons (aS j0) (mCons (aD m1) (mCons (aD m2) (mC []))))) S Q = (isOwS S[j0]? (wM m1 S fun d1 S1 => wM m2 S1 fun d2 S2 => wOw S2[j0]? fun o0 => wF (rO (f [.pl (fr o0), .pl d1, .pl d2])) fun o => clO o = true ∧ Q o S2)) := by
  rw [w_call]
  simp only [w_mCons, w_aD, w_aS, w_aB, w_mC]
  congr 1
  congr; funext d1 S1
  congr; funext d2 S2
  cases e0 : S2[j0]? with
  | none => simp [wC, argsOf, argOf, e0, wOw]
  | some x0 =>
  cases x0 with
  | no => simp [wC, argsOf, argOf, e0, wOw]
  | pl _ => simp [wC, argsOf, argOf, e0, wOw]
  | ow o0 =>
  simp only [wC, argsOf, argOf, e0, wOw]
  show wO (f [.pl (fr o0), .pl d1, .pl d2]) (fun o _ => (false || (clO o && true)) = true ∧ Q o S2) = _
  simp only [Bool.false_or, Bool.and_true]
  exact wO_r (P := fun o => clO o = true ∧ Q o S2)
theorem x_call3t {f : Fn} {m0 m1 : M D} {j2 : Nat} {S : List Sl} {Q : O → List Sl → Prop} : wM (mCall 3 [] f (mCons (aD m0) (mCons (aD m1) (mCons (aS j2) (mC []))))) S Q = (wM m0 S fun d0 S0 => wM m1 S0 fun d1 S1 => isOwS S1[j2]? (wOw S1[j2]? fun o2 => wF (rO (f [.pl d0, .pl d1, .pl (fr o2)])) fun o => clO o = true ∧ Q o S1)) := by
  rw [w_call]
  simp only [w_mCons, w_aD, w_aS, w_aB, w_mC]
  congr; funext d0 S0
  congr; funext d1 S1
  congr 1
  cases e2 : S1[j2]? with
  | none => simp [wC, argsOf, argOf, e2, wOw]
  | some x2 =>
  cases x2 with
  | no => simp [wC, argsOf, argOf, e2, wOw]
  | pl _ => simp [wC, argsOf, argOf, e2, wOw]
  | ow o2 =>
  simp only [wC, argsOf, argOf, e2, wOw]
  show wO (f [.pl d0, .pl d1, .pl (fr o2)]) (fun o _ => (false || (clO o && true)) = true ∧ Q o S1) = _
  simp only [Bool.false_or, Bool.and_true]
  exact wO_r (P := fun o => clO o = true ∧ Q o S1)
theorem x_call3u {f : Fn} {m0 m2 : M D} {j1 : Nat} {S : List Sl} {Q : O → List Sl → Prop} : wM (mCall 3 [] f (mCons (aD m0) (mCons (aS j1) (mCons (aD m2) (mC []))))) S Q = (wM m0 S fun d0 S0 => isOwS S0[j1]? (wM m2 S0 fun d2 S2 => wOw S2[j1]? fun o1 => wF (rO (f [.pl d0, .pl (fr o1), .pl d2])) fun o => clO o = true ∧ Q o S2)) := by
  rw [w_call]
  simp only [w_mCons, w_aD, w_aS, w_aB, w_mC]
  congr; funext d0 S0
  congr 1
  congr; funext d2 S2
  cases e1 : S2[j1]? with
  | none => simp [wC, argsOf, argOf, e1, wOw]
  | some x1 =>
  cases x1 with
  | no => simp [wC, argsOf, argOf, e1, wOw]
  | pl _ => simp [wC, argsOf, argOf, e1, wOw]
  | ow o1 =>
  simp only [wC, argsOf, argOf, e1, wOw]
  show wO (f [.pl d0, .pl (fr o1), .pl d2]) (fun o _ => (false || (clO o && true)) = true ∧ Q o S2) = _
  simp only [Bool.false_or, Bool.and_true]
  exact wO_r (P := fun o => clO o = true ∧ Q o S2)
theorem x_call1b {f : Fn} {j0 : Nat} {S : List Sl} {Q : O → List Sl → Prop} : wM (mCall 1 [0] f (mCons (aB j0) (mC []))) S Q = (isOwS S[j0]? (wOw S[j0]? fun o0 => wO (f [.ow o0]) fun o S8 => Q o (S.set j0 (S8.getD 0 .no)))) := by
  rw [w_call]
  simp only [w_mCons, w_aD, w_aS, w_aB, w_mC]
  congr 1
  cases e0 : S[j0]? with
  | none => simp [wC, argsOf, argOf, e0, wOw]
  | some x0 =>
  cases x0 with
  | no => simp [wC, argsOf, argOf, e0, wOw]
  | pl _ => simp [wC, argsOf, argOf, e0, wOw]
  | ow o0 =>
  simp only [wC, argsOf, argOf, e0, wOw]
  have e : callOk 1 [0] [.b j0] = true := by simp [callOk, lentAt, Z.shown]
  rw [e]
  show wO (f [.ow o0]) _ = _
  congr; funext o S8
  show (true = true ∧ _) = _
  simp only [true_and]
  rfl
theorem x_call2b {f : Fn} {m1 : M D} {j0 : Nat} {S : List Sl} {Q : O → List Sl → Prop} : wM (mCall 2 [0] f (mCons (aB j0) (mCons (aD m1) (mC [])))) S Q = (isOwS S[j0]? (wM m1 S fun d1 S1 => wOw S1[j0]? fun o0 => wO (f [.ow o0, .pl d1]) fun o S8 => Q o (S1.set j0 (S8.getD 0 .no)))) := by
  rw [w_call]
  simp only [w_mCons, w_aD, w_aS, w_aB, w_mC]
  congr 1
  congr; funext d1 S1
  cases e0 : S1[j0]? with
  | none => simp [wC, argsOf, argOf, e0, wOw]
  | some x0 =>
  cases x0 with
  | no => simp [wC, argsOf, argOf, e0, wOw]
  | pl _ => simp [wC, argsOf, argOf, e0, wOw]
  | ow o0 =>
  simp only [wC, argsOf, argOf, e0, wOw]
  have e : callOk 2 [0] [.b j0, .d d1] = true := by simp [callOk, lentAt, Z.shown]
  rw [e]
  show wO (f [.ow o0, .pl d1]) _ = _
  congr; funext o S8
  show (true = true ∧ _) = _
  simp only [true_and]
  rfl
theorem x_call3b {f : Fn} {m1 m2 : M D} {j0 : Nat} {S : List Sl} {Q : O → List Sl → Prop} : wM (mCall 3 [0] f (mCons (aB j0) (mCons (aD m1) (mCons (aD m2) (mC []))))) S Q = (isOwS S[j0]? (wM m1 S fun d1 S1 => wM m2 S1 fun d2 S2 => wOw S2[j0]? fun o0 => wO (f [.ow o0, .pl d1, .pl d2]) fun o S8 => Q o (S2.set j0 (S8.getD 0 .no)))) := by
  rw [w_call]
  simp only [w_mCons, w_aD, w_aS, w_aB, w_mC]
  congr 1
  congr; funext d1 S1
  congr; funext d2 S2
  cases e0 : S2[j0]? with
  | none => simp [wC, argsOf, argOf, e0, wOw]
  | some x0 =>
  cases x0 with
  | no => simp [wC, argsOf, argOf, e0, wOw]
  | pl _ => simp [wC, argsOf, argOf, e0, wOw]
  | ow o0 =>
  simp only [wC, argsOf, argOf, e0, wOw]
  have e : callOk 3 [0] [.b j0, .d d1, .d d2] = true := by simp [callOk, lentAt, Z.shown]
  rw [e]
  show wO (f [.ow o0, .pl d1, .pl d2]) _ = _
  congr; funext o S8
  show (true = true ∧ _) = _
  simp only [true_and]
  rfl
theorem x_call4b {f : Fn} {m1 m2 m3 : M D} {j0 : Nat} {S : List Sl} {Q : O → List Sl → Prop} : wM (mCall 4 [0] f (mCons (aB j0) (mCons (aD m1) (mCons (aD m2) (mCons (aD m3) (mC [])))))) S Q = (isOwS S[j0]? (wM m1 S fun d1 S1 => wM m2 S1 fun d2 S2 => wM m3 S2 fun d3 S3 => wOw S3[j0]? fun o0 => wO (f [.ow o0, .pl d1, .pl d2, .pl d3]) fun o S8 => Q o (S3.set j0 (S8.getD 0 .no)))) := by
  rw [w_call]
  simp only [w_mCons, w_aD, w_aS, w_aB, w_mC]
  congr 1
  congr; funext d1 S1
  congr; funext d2 S2
  congr; funext d3 S3
  cases e0 : S3[j0]? with
  | none => simp [wC, argsOf, argOf, e0, wOw]
  | some x0 =>
  cases x0 with
  | no => simp [wC, argsOf, argOf, e0, wOw]
  | pl _ => simp [wC, argsOf, argOf, e0, wOw]
  | ow o0 =>
  simp only [wC, argsOf, argOf, e0, wOw]
  have e : callOk 4 [0] [.b j0, .d d1, .d d2, .d d3] = true := by simp [callOk, lentAt, Z.shown]
  rw [e]
  show wO (f [.ow o0, .pl d1, .pl d2, .pl d3]) _ = _
  congr; funext o S8
  show (true = true ∧ _) = _
  simp only [true_and]
  rfl
theorem x_meth0 {C mt : Str} {mo : M D} {f : Fn} {S : List Sl} {Q : O → List Sl → Prop} : wM (mMeth C mt 1 [] f mo (mC [])) S Q = (wM mo S fun d S9 => wOb C mt d (wF (rO (f [.pl d])) fun o => Q o S9)) := by
  rw [w_meth0]
  simp only [w_mCons, w_aD, w_aS, w_aB, w_mC]
  congr; funext d S9; congr 1
  rw [wO_call]
  show wO (f [.pl d]) (fun o _ => (true = true) ∧ Q o S9) = _
  simp only [true_and]
  exact wO_r (P := fun o => Q o S9)
theorem x_meth1 {C mt : Str} {mo : M D} {f : Fn} {m0 : M D} {S : List Sl} {Q : O → List Sl → Prop} : wM (mMeth C mt 2 [] f mo (mCons (aD m0) (mC []))) S Q = (wM mo S fun d S9 => wOb C mt d (wM m0 S9 fun d0 S0 => wF (rO (f [.pl d, .pl d0])) fun o => Q o S0)) := by
  rw [w_meth0]
  simp only [w_mCons, w_aD, w_aS, w_aB, w_mC]
  congr; funext d S9; congr 1
  congr; funext d0 S0
  rw [wO_call]
  show wO (f [.pl d, .pl d0]) (fun o _ => (true = true) ∧ Q o S0) = _
  simp only [true_and]
  exact wO_r (P := fun o => Q o S0)
theorem x_meth2 {C mt : Str} {mo : M D} {f : Fn} {m0 m1 : M D} {S : List Sl} {Q : O → List Sl → Prop} : wM (mMeth C mt 3 [] f mo (mCons (aD m0) (mCons (aD m1) (mC [])))) S Q = (wM mo S fun d S9 => wOb C mt d (wM m0 S9 fun d0 S0 => wM m1 S0 fun d1 S1 => wF (rO (f [.pl d, .pl d0, .pl d1])) fun o => Q o S1)) := by
  rw [w_meth0]
  simp only [w_mCons, w_aD, w_aS, w_aB, w_mC]
  congr; funext d S9; congr 1
  congr; funext d0 S0
  congr; funext d1 S1
  rw [wO_call]
  show wO (f [.pl d, .pl d0, .pl d1]) (fun o _ => (true = true) ∧ Q o S1) = _
  simp only [true_and]
  exact wO_r (P := fun o => Q o S1)
theorem x_meth1s {C mt : Str} {mo : M D} {f : Fn} {j0 : Nat} {S : List Sl} {Q : O → List Sl → Prop} : wM (mMeth C mt 2 [] f mo (mCons (aS j0) (mC []))) S Q = (wM mo S fun d S9 => wOb C mt d (isOwS S9[j0]? (wOw S9[j0]? fun o0 => wF (rO (f [.pl d, .pl (fr o0)])) fun o => clO o = true ∧ Q o S9))) := by
  rw [w_meth0]
  simp only [w_mCons, w_aD, w_aS, w_aB, w_mC]
  congr; funext d S9; congr 1
  congr 1
  rw [wO_call]
  cases e0 : S9[j0]? with
  | none => simp [wC, argsOf, argOf, e0, wOw]
  | some x0 =>
  cases x0 with
  | no => simp [wC, argsOf, argOf, e0, wOw]
  | pl _ => simp [wC, argsOf, argOf, e0, wOw]
  | ow o0 =>
  simp only [wC, argsOf, argOf, e0, wOw]
  show wO (f [.pl d, .pl (fr o0)]) (fun o _ => (false || (clO o && true)) = true ∧ Q o S9) = _
  simp only [Bool.false_or, Bool.and_true]
  exact wO_r (P := fun o => clO o = true ∧ Q o S9)
end Z

/-! Y4: lists of ints, of pairs, of rows as wholes; rules for them. -/
namespace Z
open PySem PySem.Spec PyProof.Rows L2
/-- a list of ints; shared, own -/
def iD (ns : List Int) : D := .lst (ns.map .int)
def iO (ns : List Int) : O := .lst (ns.map fun n => .sh (.int n))
def pD (ts : List (Int × Int)) : D := .lst (ts.map Z.pairD)
def pO (ts : List (Int × Int)) : O := .lst (ts.map fun t => .sh (Z.pairD t))
/-- a list of lists of ints -/
def rD (nr : List (List Int)) : D := .lst (nr.map iD)
/-- an own list of shared ones -/
def rsO (nr : List (List Int)) : O := .lst (nr.map fun r => .sh (iD r))
def bD (bs : List Bool) : D := .lst (bs.map .bl)
def bO (bs : List Bool) : O := .lst (bs.map fun b => .sh (.bl b))
theorem frL_mapsh {α : Type} (f : α → D) : ∀ xs : List α, frL (xs.map fun x => .sh (f x)) = xs.map f
  | [] => rfl
  | x :: xs => by
    show f x :: frL (xs.map fun x => .sh (f x)) = _
    rw [frL_mapsh f xs]
    rfl
theorem fr_i {ns : List Int} : fr (iO ns) = iD ns := congrArg D.lst (frL_mapsh _ _)
theorem fr_p {ns : List (Int × Int)} : fr (pO ns) = pD ns := congrArg D.lst (frL_mapsh _ _)
theorem fr_rs {ns : List (List Int)} : fr (rsO ns) = rD ns := congrArg D.lst (frL_mapsh _ _)
theorem fr_b {ns : List Bool} : fr (bO ns) = bD ns := congrArg D.lst (frL_mapsh _ _)
theorem fr_sh {d : D} : fr (.sh d) = d := rfl
theorem sl_16 : sizeLine = 16777216 := sizeLine_eq
section
variable {α β γ : Type} {S : List Sl} {k : Ks}
theorem w_mLook {i : Nat} {Q : D → List Sl → Prop} : wM (mLook i) S Q = match S[i]? with
  | some (.pl d) => Q d S
  | some (.ow o) => Q (fr o) S
  | _ => False := by
  unfold wM mLook
  cases S[i]? with
  | none => rfl
  | some s => cases s <;> rfl
def wLook (x : Option Sl) (P : D → Prop) : Prop := match x with
  | some (.pl d) => P d
  | some (.ow o) => P (fr o)
  | _ => False
theorem x_mLook {i : Nat} {Q : D → List Sl → Prop} : wM (mLook i) S Q = wLook S[i]? fun d => Q d S := w_mLook
theorem k_pl {d : D} {P : D → Prop} : wLook (some (.pl d)) P = P d := propext Iff.rfl
theorem k_ow {o : O} {P : D → Prop} : wLook (some (.ow o)) P = P (fr o) := propext Iff.rfl
def wUse (i : Nat) (S : List Sl) (x : Option Sl) (P : D → List Sl → Prop) : Prop := match x with
  | some (.pl d) => P d S
  | some (.ow o) => P (fr o) (S.set i (.pl (fr o)))
  | _ => False
theorem x_mUse {i : Nat} {Q : D → List Sl → Prop} : wM (mUse i) S Q = wUse i S S[i]? Q := by
  unfold wM mUse wUse
  cases S[i]? with
  | none => rfl
  | some s => cases s <;> rfl
theorem u_pl {i : Nat} {d : D} {P : D → List Sl → Prop} : wUse i S (some (.pl d)) P = P d S := propext Iff.rfl
theorem u_ow {i : Nat} {o : O} {P : D → List Sl → Prop} : wUse i S (some (.ow o)) P = P (fr o) (S.set i (.pl (fr o))) := propext Iff.rfl
def wMov (i : Nat) (S : List Sl) (x : Option Sl) (P : O → List Sl → Prop) : Prop := match x with
  | some (.pl d) => P (.sh d) S
  | some (.ow o) => P o (S.set i .no)
  | _ => False
theorem x_mMov {i : Nat} {Q : O → List Sl → Prop} : wM (mMov i) S Q = wMov i S S[i]? Q := by
  unfold wM mMov wMov
  cases S[i]? with
  | none => rfl
  | some s => cases s <;> rfl
theorem mv_pl {i : Nat} {d : D} {P : O → List Sl → Prop} : wMov i S (some (.pl d)) P = P (.sh d) S := propext Iff.rfl
theorem mv_ow {i : Nat} {o : O} {P : O → List Sl → Prop} : wMov i S (some (.ow o)) P = P o (S.set i .no) := propext Iff.rfl
theorem w_mRv {i : Nat} {mp : M (List Stp)} {Q : D → List Sl → Prop} : wM (mRv i mp) S Q = wM mp S fun p S1 => wF (sget S1 i p) fun o => Q (fr o) S1 := by
  unfold wM mRv
  rw [wO_bd]
  congr
  funext p S1
  cases sget S1 i p <;> rfl
def wItV (x : Option Sl) (P : List D → Prop) : Prop := match x with
  | some (.ow (.lst os)) => wF (shO os) P
  | _ => False
theorem x_mItV {i : Nat} {Q : List D → List Sl → Prop} : wM (mItV i) S Q = wItV S[i]? fun ds => Q ds S := by
  unfold wM mItV wItV
  cases S[i]? with
  | none => rfl
  | some s =>
    cases s with
    | ow o =>
      cases o with
      | lst os =>
        simp only
        cases shO os <;> rfl
      | _ => rfl
    | _ => rfl
theorem shO_mapf (f : α → D) : ∀ xs : List α, shO (xs.map fun x => .sh (f x)) = some (xs.map f)
  | [] => rfl
  | x :: xs => by
    show (shO (xs.map fun x => .sh (f x))).map (f x :: ·) = _
    rw [shO_mapf f xs]
    rfl
theorem itv_i {ns : List Int} {P : List D → Prop} : wItV (some (.ow (iO ns))) P = P (ns.map .int) := by
  show wF (shO _) P = _
  rw [shO_mapf]
  rfl
theorem itv_rs {ns : List (List Int)} {P : List D → Prop} : wItV (some (.ow (rsO ns))) P = P (ns.map iD) := by
  show wF (shO _) P = _
  rw [shO_mapf]
  rfl
theorem itv_p {ns : List (Int × Int)} {P : List D → Prop} : wItV (some (.ow (pO ns))) P = P (ns.map Z.pairD) := by
  show wF (shO _) P = _
  rw [shO_mapf]
  rfl
theorem w_mStar {a : M D} {r : M (List D)} {Q : List D → List Sl → Prop} : wM (mStar a r) S Q = wM a S fun d S1 => wM r S1 fun ys S2 => wF (seqD d) fun xs => Q (xs ++ ys) S2 := by
  unfold wM mStar
  simp only [wO_bd]
  congr
  funext d S1
  congr
  funext ys S2
  cases seqD d <;> rfl
theorem w_mSeq {a : M D} {Q : D → List Sl → Prop} : wM (mSeq a) S Q = wM a S fun d S1 => isSeqD d = true ∧ Q d S1 := by
  unfold wM mSeq
  simp only [wO_bd]
  congr
  funext d S1
  cases isSeqD d <;> simp [wO]
theorem sq_i {ns : List Int} : seqD (iD ns) = some (ns.map .int) := rfl
theorem sq_p {ns : List (Int × Int)} : seqD (pD ns) = some (ns.map Z.pairD) := rfl
theorem sq_r {ns : List (List Int)} : seqD (rD ns) = some (ns.map iD) := rfl
theorem is_i {ns : List Int} : isSeqD (iD ns) = true := rfl
theorem is_p {ns : List (Int × Int)} : isSeqD (pD ns) = true := rfl
theorem is_r {ns : List (List Int)} : isSeqD (rD ns) = true := rfl
theorem w_mSl {md : Bool} {m : M D} {ml mh : M (Option Int)} {Q : O → List Sl → Prop} : wM (mSl md m ml mh) S Q = wM m S fun d S1 => wM ml S1 fun lo S2 => wM mh S2 fun hi S3 => wF (lstD d) fun ds => wF (mkL md (cutD ds lo hi)) fun o => Q o S3 := by
  unfold wM mSl
  simp only [wO_bd]
  congr
  funext d S1
  congr
  funext lo S2
  congr
  funext hi S3
  cases lstD d with
  | none => rfl
  | some ds =>
    simp only [wO_oo]
    rfl
def wI1 (d : D) (P : Int → Prop) : Prop := match d with
  | .int i => P i
  | _ => False
theorem w_mPart {m : M D} {Q : Option Int → List Sl → Prop} : wM (mPart m) S Q = wM m S fun d S1 => wI1 d fun i => Q (some i) S1 := by
  unfold wM mPart
  simp only [wO_bd]
  congr
  funext d S1
  cases d <;> rfl
theorem i1_int {i : Int} {P : Int → Prop} : wI1 (.int i) P = P i := propext Iff.rfl
/-! a changed list as a whole -/
def wMutO (f : MutF) (x : Option O) (os : List O) (P : D → O → Prop) : Prop := match x with
  | some (.lst xs) => match f xs os with
    | some (d, xs') => P d (.lst xs')
    | none => False
  | _ => False
theorem wO_mutO {f : MutF} {i : Nat} {p : List Stp} {os : List O} {Q : D → List Sl → Prop} : wO (mutL f i p os S) Q = wMutO f (sget S i p) os fun d o => Q d (sput S i p o) := by
  unfold mutL wMutO
  cases sget S i p with
  | none => rfl
  | some x =>
    cases x with
    | lst xs =>
      simp only
      cases f xs os with
      | none => rfl
      | some q => rfl
    | _ => rfl
theorem x_mut {f : MutF} {i : Nat} {mp : M (List Stp)} {ma : M (List O)} {Q : D → List Sl → Prop} : wM (mMut f i mp ma) S Q = wM mp S fun p S1 => isLstO (sget S1 i p) = true ∧ wM ma S1 fun os S2 => wMutO f (sget S2 i p) os fun d o => Q d (sput S2 i p o) := by
  unfold wM mMut
  rw [wO_bd]
  congr
  funext p S1
  cases isLstO (sget S1 i p) with
  | false => simp [wO]
  | true => simp only [wO_bd, wO_mutO, true_and]
theorem il_i {ns : List Int} : isLstO (some (iO ns)) = true := rfl
theorem il_p {ns : List (Int × Int)} : isLstO (some (pO ns)) = true := rfl
theorem il_rs {ns : List (List Int)} : isLstO (some (rsO ns)) = true := rfl
theorem il_b {ns : List Bool} : isLstO (some (bO ns)) = true := rfl
theorem app_map {f : α → O} {xs : List α} {x : α} {P : D → O → Prop} : wMutO fApp (some (.lst (xs.map f))) [f x] P = (xs.length < 16777216 ∧ P .non (.lst ((xs ++ [x]).map f))) := by
  have e : (xs.map f) ++ [f x] = (xs ++ [x]).map f := by rw [List.map_append]; rfl
  unfold wMutO fApp
  simp only [List.length_map, sl_16]
  by_cases h : xs.length < 16777216
  · simp only [decide_eq_true h]
    simp only [h, true_and, e]
  · simp only [decide_eq_false h]
    simp only [h, false_and]
theorem m_app_i {ns : List Int} {n : Int} {P : D → O → Prop} : wMutO fApp (some (iO ns)) [.sh (.int n)] P = (ns.length < 16777216 ∧ P .non (iO (ns ++ [n]))) := app_map (f := fun n => O.sh (.int n))
theorem m_app_p {ns : List (Int × Int)} {n : Int × Int} {P : D → O → Prop} : wMutO fApp (some (pO ns)) [.sh (Z.pairD n)] P = (ns.length < 16777216 ∧ P .non (pO (ns ++ [n]))) := app_map (f := fun n => O.sh (Z.pairD n))
theorem m_app_rs {ns : List (List Int)} {n : List Int} {P : D → O → Prop} : wMutO fApp (some (rsO ns)) [.sh (iD n)] P = (ns.length < 16777216 ∧ P .non (rsO (ns ++ [n]))) := app_map (f := fun n => O.sh (iD n))
theorem m_app_b {ns : List Bool} {n : Bool} {P : D → O → Prop} : wMutO fApp (some (bO ns)) [.sh (.bl n)] P = (ns.length < 16777216 ∧ P .non (bO (ns ++ [n]))) := app_map (f := fun n => O.sh (.bl n))
theorem m_rev_i {ns : List Int} {P : D → O → Prop} : wMutO fRev (some (iO ns)) [] P = P .non (iO ns.reverse) := by
  show P .non (.lst (ns.map _).reverse) = _
  rw [← List.map_reverse]
  rfl
theorem m_clr_i {ns : List Int} {P : D → O → Prop} : wMutO fClr (some (iO ns)) [] P = P .non (iO []) := propext Iff.rfl
theorem idxI_mem {k : Int} : ∀ {ns : List Int}, k ∈ ns → ∃ j, idxI k ns = some j ∧ ns.eraseIdx j = ns.erase k
  | n :: ns, h => by
    unfold idxI
    by_cases e : n = k
    · subst e
      refine ⟨0, if_pos rfl, ?_⟩
      rw [List.eraseIdx_zero, List.erase_cons_head]
      rfl
    · have hm : k ∈ ns := (List.mem_cons.mp h).elim (fun z => absurd z.symm e) id
      obtain ⟨j, h1, h2⟩ := idxI_mem hm
      refine ⟨j + 1, by rw [if_neg e, h1]; rfl, ?_⟩
      rw [List.eraseIdx_cons_succ, h2, List.erase_cons_tail (by simpa using e)]
theorem idxI_out {k : Int} : ∀ {ns : List Int}, k ∉ ns → idxI k ns = none
  | [], _ => rfl
  | n :: ns, h => by
    unfold idxI
    rw [if_neg (fun e : n = k => h (by rw [e]; exact List.mem_cons_self)), idxI_out (fun z => h (List.mem_cons_of_mem _ z))]
    rfl
theorem m_rem_i {ns : List Int} {k : Int} {P : D → O → Prop} : wMutO fRem (some (iO ns)) [.sh (.int k)] P = (k ∈ ns ∧ P .non (iO (ns.erase k))) := by
  unfold wMutO fRem iO
  simp only [intsO_map]
  by_cases h : k ∈ ns
  · obtain ⟨j, h1, h2⟩ := idxI_mem h
    simp only [h1, h2, h, true_and]
  · simp only [idxI_out h, h, false_and]
/-! operators -/
theorem f_len_i {ns : List Int} {P : D → Prop} : wF (fLen [iD ns]) P = P (.int ns.length) := by
  show P (.int (List.length (ns.map D.int))) = _
  rw [List.length_map]
theorem f_len_p {ns : List (Int × Int)} {P : D → Prop} : wF (fLen [pD ns]) P = P (.int ns.length) := by
  show P (.int (List.length (ns.map Z.pairD))) = _
  rw [List.length_map]
theorem f_len_r {ns : List (List Int)} {P : D → Prop} : wF (fLen [rD ns]) P = P (.int ns.length) := by
  show P (.int (List.length (ns.map iD))) = _
  rw [List.length_map]
theorem f_in_i {n : Int} {ns : List Int} {P : D → Prop} : wF (dIn (.int n) (iD ns)) P = P (.bl (decide (n ∈ ns))) := by
  unfold dIn iD
  rw [inB_ints]
  rfl
theorem f_ni_i {n : Int} {ns : List Int} {P : D → Prop} : wF (dNi (.int n) (iD ns)) P = P (.bl (!decide (n ∈ ns))) := by
  unfold dNi iD
  rw [inB_ints]
  rfl
theorem toPyL_i : ∀ ns : List Int, toPyL (ns.map D.int) = some (ns.map PyData.int)
  | [] => rfl
  | n :: ns => by
    show (match toPy (.int n), toPyL (ns.map D.int) with | some p, some ps => some (p :: ps) | _, _ => none) = _
    rw [toPyL_i ns]
    rfl
theorem toPy_i {ns : List Int} : toPy (iD ns) = some (.list (ns.map PyData.int)) := by
  show (toPyL (ns.map D.int)).map PyData.list = _
  rw [toPyL_i]
  rfl
theorem f_ix_i {ns : List Int} {i : Int} {P : D → Prop} : wF (dIx (iD ns) (.int i)) P = wF (atI ns i) fun n => P (.int n) := by
  show wF (atI (ns.map D.int) i) P = _
  unfold atI
  rw [List.length_map]
  cases ixN ns.length i with
  | none => rfl
  | some j =>
    simp only [Option.bind_some, List.getElem?_map, wF_map]
theorem f_ix_p {ns : List (Int × Int)} {i : Int} {P : D → Prop} : wF (dIx (pD ns) (.int i)) P = wF (atI ns i) fun n => P (Z.pairD n) := by
  show wF (atI (ns.map Z.pairD) i) P = _
  unfold atI
  rw [List.length_map]
  cases ixN ns.length i with
  | none => rfl
  | some j =>
    simp only [Option.bind_some, List.getElem?_map, wF_map]
theorem f_ix_r {ns : List (List Int)} {i : Int} {P : D → Prop} : wF (dIx (rD ns) (.int i)) P = wF (atI ns i) fun n => P (iD n) := by
  show wF (atI (ns.map iD) i) P = _
  unfold atI
  rw [List.length_map]
  cases ixN ns.length i with
  | none => rfl
  | some j =>
    simp only [Option.bind_some, List.getElem?_map, wF_map]
theorem f_ix_b {ns : List Bool} {i : Int} {P : D → Prop} : wF (dIx (bD ns) (.int i)) P = wF (atI ns i) fun n => P (.bl n) := by
  show wF (atI (ns.map D.bl) i) P = _
  unfold atI
  rw [List.length_map]
  cases ixN ns.length i with
  | none => rfl
  | some j =>
    simp only [Option.bind_some, List.getElem?_map, wF_map]
theorem p_fst {t : Int × Int} {P : D → Prop} : wF (dIx (Z.pairD t) (.int 0)) P = P (.int t.1) := propext Iff.rfl
theorem p_snd {t : Int × Int} {P : D → Prop} : wF (dIx (Z.pairD t) (.int 1)) P = P (.int t.2) := propext Iff.rfl
/-- an item that is there -/
theorem at_in {xs : List α} {i : Int} {d : α} (h0 : 0 ≤ i) (h1 : i < xs.length) : atI xs i = some (xs.getD i.toNat d) := by
  have hj : i.toNat < xs.length := by omega
  unfold atI ixN
  rw [if_pos h0, if_pos h1]
  simp only [Option.bind_some]
  rw [List.getD_eq_getElem?_getD, List.getElem?_eq_getElem hj]
  rfl
theorem f_list_i {md : Bool} {ns : List Int} {P : O → Prop} : wF (mNew md gList [iD ns]) P = P (iO ns) := by
  show wF (mkL md (ns.map D.int)) P = _
  unfold mkL
  rw [all_scal, Bool.or_true]
  show P (.lst ((ns.map D.int).map O.sh)) = _
  rw [List.map_map]
  rfl
theorem f_list_t {ns : List (Int × Int)} {P : O → Prop} : wF (mNew true gList [pD ns]) P = P (pO ns) := by
  show P (.lst ((ns.map Z.pairD).map O.sh)) = _
  rw [List.map_map]
  rfl
theorem f_list_r {ns : List (List Int)} {P : O → Prop} : wF (mNew true gList [rD ns]) P = P (rsO ns) := by
  show P (.lst ((ns.map iD).map O.sh)) = _
  rw [List.map_map]
  rfl
theorem mk_i {md : Bool} {ns : List Int} {P : O → Prop} : wF (mkL md (ns.map D.int)) P = P (iO ns) := f_list_i
theorem mk_p {ns : List (Int × Int)} {P : O → Prop} : wF (mkL true (ns.map Z.pairD)) P = P (pO ns) := f_list_t
theorem mk_r {ns : List (List Int)} {P : O → Prop} : wF (mkL true (ns.map iD)) P = P (rsO ns) := f_list_r
theorem f_srt_i {md : Bool} {ns : List Int} {P : O → Prop} : wF (mNew md gSort [iD ns]) P = P (iO (srtI ns)) := by
  have e : gSort [iD ns] = some ((srtI ns).map D.int) := by
    simp only [gSort, iD, lstD, Option.bind_some, intsD_map]
  unfold mNew
  rw [e, Option.bind_some]
  exact mk_i
theorem f_srt_p {ts : List (Int × Int)} {P : O → Prop} : wF (mNew true gSort [pD ts]) P = P (pO (srtP ts)) := by
  by_cases h : ts = []
  · subst h
    have e1 : srtP [] = [] := (srtP_perm []).eq_nil
    rw [e1]
    have e3 : srtI [] = [] := (srtI_perm []).eq_nil
    have := f_srt_i (md := true) (ns := []) (P := P)
    rw [e3] at this
    exact this
  · have e : gSort [pD ts] = some ((srtP ts).map Z.pairD) := by
      have e1 : intsD (ts.map Z.pairD) = none := by
        cases ts with
        | nil => exact absurd rfl h
        | cons p ps => rfl
      simp only [gSort, pD, lstD, Option.bind_some, e1, pairsD_map]
    unfold mNew
    rw [e, Option.bind_some]
    exact mk_p
theorem f_rev_i {ns : List Int} {P : List D → Prop} : wF (dRevL (iD ns)) P = P (ns.reverse.map .int) := by
  show P (ns.map D.int).reverse = _
  rw [← List.map_reverse]
theorem f_rev_p {ns : List (Int × Int)} {P : List D → Prop} : wF (dRevL (pD ns)) P = P (ns.reverse.map Z.pairD) := by
  show P (ns.map Z.pairD).reverse = _
  rw [← List.map_reverse]
theorem f_cat_i {a b : List Int} {P : List D → Prop} : wF (dCat (iD a) (iD b)) P = (a.length + b.length ≤ 16777216 ∧ P ((a ++ b).map .int)) := by
  unfold dCat iD
  simp only [List.length_map, sl_16]
  by_cases h : a.length + b.length ≤ 16777216
  · simp only [decide_eq_true h]
    simp only [h, true_and, wF_some, List.map_append]
  · simp only [decide_eq_false h]
    simp only [h, false_and]
    rfl
theorem f_cat_r {a b : List (List Int)} {P : List D → Prop} : wF (dCat (rD a) (rD b)) P = (a.length + b.length ≤ 16777216 ∧ P ((a ++ b).map iD)) := by
  unfold dCat rD
  simp only [List.length_map, sl_16]
  by_cases h : a.length + b.length ≤ 16777216
  · simp only [decide_eq_true h]
    simp only [h, true_and, wF_some, List.map_append]
  · simp only [decide_eq_false h]
    simp only [h, false_and]
    rfl
theorem f_cat_p {a b : List (Int × Int)} {P : List D → Prop} : wF (dCat (pD a) (pD b)) P = (a.length + b.length ≤ 16777216 ∧ P ((a ++ b).map Z.pairD)) := by
  unfold dCat pD
  simp only [List.length_map, sl_16]
  by_cases h : a.length + b.length ≤ 16777216
  · simp only [decide_eq_true h]
    simp only [h, true_and, wF_some, List.map_append]
  · simp only [decide_eq_false h]
    simp only [h, false_and]
    rfl
theorem f_rep_i {a : List Int} {n : Int} {P : List D → Prop} : wF (dRep (iD a) (.int n)) P = ((-(2 ^ 63) ≤ n ∧ n < 2 ^ 63 ∧ a.length * n.toNat ≤ 16777216) ∧ P ((List.replicate n.toNat a).flatten.map .int)) := by
  unfold dRep iD
  simp only [List.length_map, sl_16]
  by_cases h : -(2 ^ 63) ≤ n ∧ n < 2 ^ 63 ∧ a.length * n.toNat ≤ 16777216
  · simp only [decide_eq_true h]
    simp only [h, and_self, true_and, wF_some, List.map_flatten, List.map_replicate]
  · simp only [decide_eq_false h]
    simp only [h, false_and]
    rfl
theorem minL_map {ns : List Int} {P : D → Prop} : wF (fMinL [iD ns]) P = wF (minL ns) fun n => P (.int n) := by
  unfold fMinL f1L iD
  simp only [lstD, seqD, Option.bind_some, intsD_map, wF_map]
theorem maxL_map {ns : List Int} {P : D → Prop} : wF (fMaxL [iD ns]) P = wF (maxL ns) fun n => P (.int n) := by
  unfold fMaxL f1L iD
  simp only [lstD, seqD, Option.bind_some, intsD_map, wF_map]
theorem sum_map {ns : List Int} {P : D → Prop} : wF (fSum [iD ns]) P = P (.int ns.sum) := by
  unfold fSum f1L iD
  simp only [lstD, seqD, Option.bind_some, intsD_map, wF_some]
theorem all_map {bs : List Bool} {P : D → Prop} : wF (fAll [bD bs]) P = P (.bl (bs.all id)) := by
  unfold fAll f1B bD
  simp only [lstD, Option.bind_some, bsD_map, wF_some]
theorem any_map {bs : List Bool} {P : D → Prop} : wF (fAny [bD bs]) P = P (.bl (bs.any id)) := by
  unfold fAny f1B bD
  simp only [lstD, Option.bind_some, bsD_map, wF_some]
theorem f_int1 {i : Int} {P : D → Prop} : wF (fInt [.int i]) P = P (.int i) := propext Iff.rfl
theorem f_intB {b : Bool} {P : D → Prop} : wF (fInt [.bl b]) P = P (.int (if b then 1 else 0)) := propext Iff.rfl
/-! walks -/
def rng (lo hi : Int) : List Int := (List.range (hi - lo).toNat).map fun i : Nat => lo + i
theorem rng_len {lo hi : Int} : (rng lo hi).length = (hi - lo).toNat := by unfold rng; rw [List.length_map, List.length_range]
theorem rng_mem {lo hi x : Int} : x ∈ rng lo hi ↔ lo ≤ x ∧ x < hi := by
  unfold rng
  rw [List.mem_map]
  constructor
  · rintro ⟨i, hi', rfl⟩
    have := List.mem_range.mp hi'
    omega
  · rintro ⟨h0, h1⟩
    exact ⟨(x - lo).toNat, List.mem_range.mpr (by omega), by omega⟩
theorem rng_sorted {lo hi : Int} : (rng lo hi).Pairwise (· < ·) := by
  unfold rng
  exact List.Pairwise.map (R := fun a b : Nat => a < b) _ (fun a b h => by omega) List.pairwise_lt_range
theorem it_r1 {j : Int} {P : List D → Prop} : wF (itR1 [.int j]) P = ((-(2 ^ 62) ≤ j ∧ j < 2 ^ 62) ∧ P ((rng 0 j).map .int)) := by
  have e2 : rangeD 0 j.toNat = (rng 0 j).map .int := by
    unfold rangeD rng
    rw [List.map_map]
    congr 2
    omega
  by_cases h : -(2 ^ 62) ≤ j ∧ j < 2 ^ 62
  · have e : itR1 [.int j] = some (rangeD 0 j.toNat) := by unfold itR1; simp only [decide_eq_true h]
    rw [e, e2]; simp only [h, and_self, true_and, wF]
  · have e : itR1 [.int j] = none := by unfold itR1; simp only [decide_eq_false h]
    rw [e]; simp only [h, false_and, wF]
theorem it_r2 {i j : Int} {P : List D → Prop} : wF (itR2 [.int i, .int j]) P = ((-(2 ^ 62) ≤ i ∧ i < 2 ^ 62 ∧ -(2 ^ 62) ≤ j ∧ j < 2 ^ 62) ∧ P ((rng i j).map .int)) := by
  have e2 : rangeD i (j - i).toNat = (rng i j).map .int := by
    unfold rangeD rng
    rw [List.map_map]
    rfl
  by_cases h : -(2 ^ 62) ≤ i ∧ i < 2 ^ 62 ∧ -(2 ^ 62) ≤ j ∧ j < 2 ^ 62
  · have e : itR2 [.int i, .int j] = some (rangeD i (j - i).toNat) := by unfold itR2; simp only [decide_eq_true h]
    rw [e, e2]; simp only [h, and_self, true_and, wF]
  · have e : itR2 [.int i, .int j] = none := by unfold itR2; simp only [decide_eq_false h]
    rw [e]; simp only [h, false_and, wF]
theorem f_rg {i j : Int} {P : List D → Prop} : wF (dRg (.int i) (.int j)) P = ((-(2 ^ 62) ≤ i ∧ i < 2 ^ 62 ∧ -(2 ^ 62) ≤ j ∧ j < 2 ^ 62 ∧ (j - i).toNat ≤ 2 ^ 24) ∧ P ((rng i j).map .int)) := by
  have e2 : rgD i j = (rng i j).map .int := by
    unfold rgD rng
    rw [List.map_map]
    rfl
  unfold dRg rgOk
  by_cases h : -(2 ^ 62) ≤ i ∧ i < 2 ^ 62 ∧ -(2 ^ 62) ≤ j ∧ j < 2 ^ 62 ∧ (j - i).toNat ≤ 2 ^ 24
  · simp only [decide_eq_true h]
    rw [e2]; simp only [h, and_self, true_and, wF]
  · simp only [decide_eq_false h]
    simp only [h, false_and, wF]
theorem itL_i {ns : List Int} {P : List D → Prop} : wF (itL (iD ns)) P = P (ns.map .int) := propext Iff.rfl
theorem itL_p {ns : List (Int × Int)} {P : List D → Prop} : wF (itL (pD ns)) P = P (ns.map Z.pairD) := propext Iff.rfl
theorem itL_r {ns : List (List Int)} {P : List D → Prop} : wF (itL (rD ns)) P = P (ns.map iD) := propext Iff.rfl
theorem itL_b {ns : List Bool} {P : List D → Prop} : wF (itL (bD ns)) P = P (ns.map .bl) := propext Iff.rfl
theorem itS_i {ns : List Int} {P : List D → Prop} : wF (itS (iD ns)) P = P (ns.map .int) := propext Iff.rfl
theorem itS_r {ns : List (List Int)} {P : List D → Prop} : wF (itS (rD ns)) P = P (ns.map iD) := propext Iff.rfl
theorem for_map {g : Tg} {b : MS} {f : α → D} {xs : List α} (I : Nat → List Sl → Prop) (h : I 0 S) (st : ∀ (i : Nat) (x : α) (S : List Sl), xs[i]? = some x → I i S → wF (g (f x) S) fun S1 => wS b S1 ⟨I (i + 1), k.r, k.n, I (i + 1)⟩) (e : ∀ S, I xs.length S → k.n S) : wOS (forGo g b (xs.map f) S) k :=
  for_inv I h (fun i d S hd hi => by
    rw [List.getElem?_map] at hd
    cases hx : xs[i]? with
    | none => rw [hx] at hd; cases hd
    | some x =>
      rw [hx] at hd
      cases hd
      exact st i x S hx hi) fun S h => e S (by rw [List.length_map] at h; exact h)
/-- a loop whose turns keep I -/
theorem for_keep {g : Tg} {b : MS} {f : α → D} {xs : List α} (I : List Sl → Prop) (h : I S) (st : ∀ x ∈ xs, ∀ S, I S → wF (g (f x) S) fun S1 => wS b S1 ⟨I, k.r, k.n, I⟩) (e : ∀ S, I S → k.n S) : wOS (forGo g b (xs.map f) S) k :=
  for_map (fun _ => I) h (fun i x S hx hi => st x (List.mem_of_getElem? hx) S hi) e
/-- a comprehension's turns -/
def wCmp (g : Tg) (t : M Bool) (e : M D) (vs : List Nat) (ds : List D) (S0 S : List Sl) (Q : O → List Sl → Prop) : Prop := wO (cmpGo g t e vs ds S) fun ys S2 => Q (.lst (ys.map .sh)) (restS S0 S2 vs)
theorem x_comp {mi : M (List D)} {g : Tg} {t : M Bool} {e : M D} {vs : List Nat} {Q : O → List Sl → Prop} : wM (mComp mi g t e vs) S Q = wM mi S fun ds S1 => (ds.length ≤ 16777216 ∧ (vs.all fun v => notOw S1[v]?) = true) ∧ wCmp g t e vs ds S1 (wipeS S1 vs) Q := w_comp0
theorem cmp_I {g : Tg} {t : M Bool} {e : M D} {vs : List Nat} {f : α → D} {xs : List α} {S0 : List Sl} {Q : O → List Sl → Prop} (I : Nat → List D → List Sl → Prop) (h : I 0 [] S)
    (st : ∀ (i : Nat) (x : α) (acc : List D) (S : List Sl), xs[i]? = some x → I i acc S → wF (g (f x) S) fun S1 => wM t S1 fun b S2 => (b = true → wM e S2 fun x S3 => I (i + 1) (acc ++ [x]) (wipeS S3 vs)) ∧ (b = false → I (i + 1) acc (wipeS S2 vs)))
    (en : ∀ ys S', I xs.length ys S' → Q (.lst (ys.map .sh)) (restS S0 S' vs)) : wCmp g t e vs (xs.map f) S0 S Q :=
  comp_inv I h (fun i d acc S hd hi => by
    rw [List.getElem?_map] at hd
    cases hx : xs[i]? with
    | none => rw [hx] at hd; cases hd
    | some x =>
      rw [hx] at hd
      cases hd
      exact st i x acc S hx hi) fun ys S' h => en ys S' (by rw [List.length_map] at h; exact h)
/-- a comprehension that changes nothing else -/
theorem cmp_map {g : Tg} {t : M Bool} {e : M D} {vs : List Nat} {f : α → D} {xs : List α} {Q : List D → List Sl → Prop} (p : α → Bool) (h : α → D)
    (st : ∀ x ∈ xs, wF (g (f x) S) fun S1 => wM t S1 fun b S2 => b = p x ∧ (p x = true → wM e S2 fun y S3 => y = h x ∧ wipeS S3 vs = S) ∧ (p x = false → wipeS S2 vs = S)) (en : Q ((xs.filter p).map h) S) : wO (cmpGo g t e vs (xs.map f) S) Q := by
  refine comp_inv (fun i acc S' => S' = S ∧ acc = ((xs.take i).filter p).map h) ⟨rfl, rfl⟩ (fun i d acc S' hd ⟨h1, h2⟩ => ?_) fun ys S' ⟨h1, h2⟩ => ?_
  · subst h1
    rw [List.getElem?_map] at hd
    cases hx : xs[i]? with
    | none => rw [hx] at hd; cases hd
    | some x =>
      rw [hx] at hd
      cases hd
      have hm := List.mem_of_getElem? hx
      have e1 : xs.take (i + 1) = xs.take i ++ [x] := by
        obtain ⟨hl, he⟩ := List.getElem?_eq_some_iff.mp hx
        rw [List.take_succ_eq_append_getElem hl, he]
      refine wF_mono (st x hm) fun S1 h3 => wM_mono h3 fun b S2 ⟨h4, h5, h6⟩ => ⟨fun hb => wM_mono (h5 (h4 ▸ hb)) fun y S3 ⟨h7, h8⟩ => ⟨h8, ?_⟩, fun hb => ⟨h6 (h4 ▸ hb), ?_⟩⟩
      · rw [e1, List.filter_append, List.map_append, ← h2, h7]
        rw [hb] at h4
        simp [← h4]
      · rw [e1, List.filter_append, List.map_append, ← h2]
        rw [hb] at h4
        simp [← h4]
  · subst h1
    rw [List.length_map, List.take_length] at h2
    rw [h2]
    exact en
theorem lst_sh_i {xs : List α} {h : α → Int} : O.lst ((xs.map fun x => D.int (h x)).map O.sh) = iO (xs.map h) := by
  unfold iO
  rw [List.map_map, List.map_map]
  rfl
/-- .. of ints -/
theorem cmp_i {g : Tg} {t : M Bool} {e : M D} {vs : List Nat} {f : α → D} {xs : List α} {S0 : List Sl} {Q : O → List Sl → Prop} (p : α → Bool) (h : α → Int)
    (st : ∀ x ∈ xs, wF (g (f x) S) fun S1 => wM t S1 fun b S2 => b = p x ∧ (p x = true → wM e S2 fun y S3 => y = .int (h x) ∧ wipeS S3 vs = S) ∧ (p x = false → wipeS S2 vs = S)) (en : Q (iO ((xs.filter p).map h)) (restS S0 S vs)) : wCmp g t e vs (xs.map f) S0 S Q :=
  cmp_map p (fun x => .int (h x)) st (by rw [lst_sh_i]; exact en)
/-- the ints that pass -/
theorem cmp_f {g : Tg} {t : M Bool} {e : M D} {vs : List Nat} {xs : List Int} {S0 : List Sl} {Q : O → List Sl → Prop} (p : Int → Bool)
    (st : ∀ x ∈ xs, wF (g (.int x) S) fun S1 => wM t S1 fun b S2 => b = p x ∧ (p x = true → wM e S2 fun y S3 => y = .int x ∧ wipeS S3 vs = S) ∧ (p x = false → wipeS S2 vs = S)) (en : Q (iO (xs.filter p)) (restS S0 S vs)) : wCmp g t e vs (xs.map .int) S0 S Q :=
  cmp_i p (fun x => x) st (by rw [List.map_id']; exact en)
theorem w_mYes' {Q : Bool → List Sl → Prop} : wM mYes S Q = Q true S := propext Iff.rfl
def wAug (x : Option Sl) (P : D → Prop) : Prop := match x with
  | some (.pl d) => P d
  | _ => False
theorem s_aug {i : Nat} {f : D → D → Option D} {m : M D} : wS (sAug i f m) S k = wAug S[i]? fun x => wM m S fun y S1 => wF (f x y) fun z => k.n (S1.set i (.pl z)) := by
  unfold wS sAug wAug
  cases S[i]? with
  | none => rfl
  | some s =>
    cases s with
    | pl x =>
      simp only [wOS_sd]
      show wO (m S) _ = wO (m S) _
      congr
      funext y S1
      cases f x y <;> rfl
    | _ => rfl
theorem a_pl {d : D} {P : D → Prop} : wAug (some (.pl d)) P = P d := propext Iff.rfl
theorem s_bad : wS sBad S k = False := propext Iff.rfl
theorem s_retN : wS sRetN S k = k.r (.sh .non) S := propext Iff.rfl
theorem s_brk : wS sBrk S k = k.b S := propext Iff.rfl
theorem s_cnt : wS sCnt S k = k.c S := propext Iff.rfl
theorem w_par {i j : Nat} {m : M (List O)} : wS (sPar i j m) S k = wM m S fun os S1 => match os with
  | [o1, o2] => k.n ((S1.set i (slOf o1)).set j (slOf o2))
  | _ => False := by
  unfold wS sPar
  rw [wOS_sd]
  congr
  funext os S1
  match os with
  | [] => rfl
  | [_] => rfl
  | [_, _] => rfl
  | _ :: _ :: _ :: _ => rfl
def par2 (os : List O) (P : O → O → Prop) : Prop := match os with
  | [a, b] => P a b
  | _ => False
theorem s_par {i j : Nat} {m : M (List O)} : wS (sPar i j m) S k = wM m S fun os S1 => par2 os fun o1 o2 => k.n ((S1.set i (slOf o1)).set j (slOf o2)) := by
  rw [w_par]
  rfl
theorem par2_ok {a b : O} {P : O → O → Prop} : par2 [a, b] P = P a b := propext Iff.rfl
theorem sl_i {ns : List Int} : slOf (iO ns) = .ow (iO ns) := rfl
theorem sl_p {ns : List (Int × Int)} : slOf (pO ns) = .ow (pO ns) := rfl
theorem sl_rs {ns : List (List Int)} : slOf (rsO ns) = .ow (rsO ns) := rfl
theorem sl_b {ns : List Bool} : slOf (bO ns) = .ow (bO ns) := rfl
theorem sl_sh {d : D} : slOf (.sh d) = .pl d := rfl
theorem f_lstM {md : Bool} {ds : List D} {P : O → Prop} : wF (dLstM md ds) P = (ds.length ≤ 16777216 ∧ wF (mkL md ds) P) := by
  unfold dLstM
  rw [sl_16]
  by_cases h : ds.length ≤ 16777216
  · simp only [decide_eq_true h]
    simp only [h, true_and]
  · simp only [decide_eq_false h]
    simp only [h, false_and]
    rfl
theorem f_lst0 {P : O → Prop} : wF (dLst []) P = P (iO []) := by
  unfold dLst
  rw [decide_eq_true (by rw [sl_16]; exact Nat.zero_le _)]
  rfl
theorem dlst_ok {ds : List D} (h : ds.length ≤ 16777216) {P : O → Prop} : wF (dLst ds) P = P (.lst (ds.map .sh)) := by
  unfold dLst
  rw [decide_eq_true (by rw [sl_16]; exact h)]
  rfl
theorem f_lst1 {a : Int} {P : O → Prop} : wF (dLst [.int a]) P = P (iO [a]) := dlst_ok (by simp)
theorem f_lst2 {a b : Int} {P : O → Prop} : wF (dLst [.int a, .int b]) P = P (iO [a, b]) := dlst_ok (by simp)
theorem f_lst3 {a b c : Int} {P : O → Prop} : wF (dLst [.int a, .int b, .int c]) P = P (iO [a, b, c]) := dlst_ok (by simp)
theorem f_lst4 {a b c d : Int} {P : O → Prop} : wF (dLst [.int a, .int b, .int c, .int d]) P = P (iO [a, b, c, d]) := dlst_ok (by simp)
theorem f_lst5 {a b c d e : Int} {P : O → Prop} : wF (dLst [.int a, .int b, .int c, .int d, .int e]) P = P (iO [a, b, c, d, e]) := dlst_ok (by simp)
theorem f_lst6 {a b c d e f : Int} {P : O → Prop} : wF (dLst [.int a, .int b, .int c, .int d, .int e, .int f]) P = P (iO [a, b, c, d, e, f]) := dlst_ok (by simp)
theorem f_lstr1 {a : List Int} {P : O → Prop} : wF (dLst [iD a]) P = P (rsO [a]) := dlst_ok (by simp)
theorem f_lstr2 {a b : List Int} {P : O → Prop} : wF (dLst [iD a, iD b]) P = P (rsO [a, b]) := dlst_ok (by simp)
end
end Z

/-! Y5: ==, repr of whole lists. -/
namespace Z
open PySem PySem.Spec PyProof.Rows L2
theorem can_i : ∀ ns : List Int, PyData.canLayAll0 (ns.map PyData.int) = true
  | [] => rfl
  | n :: ns => by
    show (true && PyData.canLayAll0 (ns.map PyData.int)) = true
    rw [can_i ns]
    rfl
theorem dep_i : ∀ ns : List Int, PyData.depthAll (ns.map PyData.int) = 0
  | [] => rfl
  | n :: ns => by
    show max 0 (PyData.depthAll (ns.map PyData.int)) = 0
    rw [dep_i ns]
    rfl
theorem eqv_i : ∀ a b : List Int, PyData.eqvAll (a.map PyData.int) (b.map PyData.int) = decide (a = b)
  | [], [] => by simp [PyData.eqvAll]
  | [], _ :: _ => by simp [PyData.eqvAll]
  | _ :: _, [] => by simp [PyData.eqvAll]
  | x :: a, y :: b => by
    simp only [List.map_cons, PyData.eqvAll, eqv_i a b, List.cons.injEq]
    rw [eqv_int]
    by_cases h : x = y <;> by_cases h2 : a = b <;> simp [h, h2]
theorem shp_i (ns : List Int) : SeqAt.shaped (.list (ns.map PyData.int)) = true := by
  unfold SeqAt.shaped
  have e1 : PyData.canLay0 (.list (ns.map PyData.int)) = true := can_i ns
  have e2 : PyData.depth (.list (ns.map PyData.int)) = 1 := by
    show PyData.depthAll (ns.map PyData.int) + 1 = 1
    rw [dep_i]
  rw [e1, e2]
  rfl
theorem eqB_of {x y : D} {p q : PyData} {b : Bool} (h1 : toPy x = some p) (h2 : toPy y = some q) (h3 : SeqAt.shaped p = true) (h4 : SeqAt.shaped q = true) (h5 : PyData.eqv p q = b) : eqB x y = some b := by
  unfold eqB
  rw [h1, h2]
  simp only [h3, h4, Bool.and_self, h5]
theorem eqB_i {a b : List Int} : eqB (iD a) (iD b) = some (decide (a = b)) :=
  eqB_of toPy_i toPy_i (shp_i a) (shp_i b) (by
    show PyData.eqvAll _ _ = _
    exact eqv_i a b)
theorem f_eq_i {a b : List Int} {P : D → Prop} : wF (dEq (iD a) (iD b)) P = P (.bl (decide (a = b))) := by
  unfold dEq
  rw [eqB_i]
  rfl
theorem f_ne_i {a b : List Int} {P : D → Prop} : wF (dNe (iD a) (iD b)) P = P (.bl (!decide (a = b))) := by
  unfold dNe
  rw [eqB_i]
  rfl
theorem toPyL_f {α : Type} (f : α → D) (g : α → PyData) (h : ∀ x, toPy (f x) = some (g x)) : ∀ xs : List α, toPyL (xs.map f) = some (xs.map g)
  | [] => rfl
  | n :: ns => by
    show (match toPy (f n), toPyL (ns.map f) with | some p, some ps => some (p :: ps) | _, _ => none) = _
    rw [toPyL_f f g h ns, h n]
    rfl
theorem can_f {α : Type} (g : α → PyData) (h : ∀ x, (g x).canLay0 = true) : ∀ ns : List α, PyData.canLayAll0 (ns.map g) = true
  | [] => rfl
  | n :: ns => by
    show ((g n).canLay0 && PyData.canLayAll0 (ns.map g)) = true
    rw [can_f g h ns, h n]
    rfl
theorem dep_f {α : Type} (g : α → PyData) (k : Nat) (h : ∀ x, (g x).depth ≤ k) : ∀ ns : List α, PyData.depthAll (ns.map g) ≤ k
  | [] => Nat.zero_le _
  | n :: ns => by
    show max (g n).depth (PyData.depthAll (ns.map g)) ≤ k
    have h1 := dep_f g k h ns
    have h2 := h n
    omega
theorem eqv_f {α : Type} [DecidableEq α] (g : α → PyData) (h : ∀ x y, PyData.eqv (g x) (g y) = decide (x = y)) : ∀ a b : List α, PyData.eqvAll (a.map g) (b.map g) = decide (a = b)
  | [], [] => by simp [PyData.eqvAll]
  | [], _ :: _ => by simp [PyData.eqvAll]
  | _ :: _, [] => by simp [PyData.eqvAll]
  | x :: a, y :: b => by
    simp only [List.map_cons, PyData.eqvAll, eqv_f g h a b, List.cons.injEq, h]
    by_cases h : x = y <;> by_cases h2 : a = b <;> simp [h, h2]
def pyI (ns : List Int) : PyData := .list (ns.map PyData.int)
def pyP (t : Int × Int) : PyData := .tuple [.int t.1, .int t.2]
theorem toPy_p (t : Int × Int) : toPy (Z.pairD t) = some (pyP t) := rfl
theorem toPy_r (nr : List (List Int)) : toPy (rD nr) = some (.list (nr.map pyI)) := by
  show (toPyL (nr.map iD)).map PyData.list = _
  rw [toPyL_f iD pyI (fun x => toPy_i)]
  rfl
theorem toPy_pl (ts : List (Int × Int)) : toPy (pD ts) = some (.list (ts.map pyP)) := by
  show (toPyL (ts.map Z.pairD)).map PyData.list = _
  rw [toPyL_f Z.pairD pyP toPy_p]
  rfl
theorem shp_f {α : Type} (g : α → PyData) (k : Nat) (hk : k < 60) (h : ∀ x, (g x).canLay0 = true) (h2 : ∀ x, (g x).depth ≤ k) (ns : List α) : SeqAt.shaped (.list (ns.map g)) = true := by
  unfold SeqAt.shaped
  have e1 : PyData.canLay0 (.list (ns.map g)) = true := can_f g h ns
  have e2 : PyData.depth (.list (ns.map g)) ≤ 64 := by
    show PyData.depthAll (ns.map g) + 1 ≤ 64
    have := dep_f g k h2 ns
    omega
  rw [e1, decide_eq_true e2]
  rfl
theorem pyI_dep (ns : List Int) : (pyI ns).depth ≤ 1 := by
  show PyData.depthAll (ns.map PyData.int) + 1 ≤ 1
  rw [dep_i]
  omega
theorem pyP_dep (t : Int × Int) : (pyP t).depth ≤ 1 := Nat.le_refl _
theorem pyP_eqv (s t : Int × Int) : PyData.eqv (pyP s) (pyP t) = decide (s = t) := by
  show (PyData.eqv (.int s.1) (.int t.1) && (PyData.eqv (.int s.2) (.int t.2) && PyData.eqvAll [] [])) = _
  rw [eqv_int, eqv_int]
  obtain ⟨a, b⟩ := s
  obtain ⟨c, d⟩ := t
  simp only [PyData.eqvAll, Bool.and_true, Prod.mk.injEq, Bool.decide_and]
theorem eqB_r {a b : List (List Int)} : eqB (rD a) (rD b) = some (decide (a = b)) :=
  eqB_of (toPy_r a) (toPy_r b) (shp_f pyI 1 (by omega) can_i pyI_dep a) (shp_f pyI 1 (by omega) can_i pyI_dep b) (by
    show PyData.eqvAll _ _ = _
    exact eqv_f pyI (fun x y => eqv_i x y) a b)
theorem eqB_p {a b : List (Int × Int)} : eqB (pD a) (pD b) = some (decide (a = b)) :=
  eqB_of (toPy_pl a) (toPy_pl b) (shp_f pyP 1 (by omega) (fun _ => rfl) pyP_dep a) (shp_f pyP 1 (by omega) (fun _ => rfl) pyP_dep b) (by
    show PyData.eqvAll _ _ = _
    exact eqv_f pyP pyP_eqv a b)
theorem f_eq_r {a b : List (List Int)} {P : D → Prop} : wF (dEq (rD a) (rD b)) P = P (.bl (decide (a = b))) := by
  unfold dEq
  rw [eqB_r]
  rfl
theorem f_ne_r {a b : List (List Int)} {P : D → Prop} : wF (dNe (rD a) (rD b)) P = P (.bl (!decide (a = b))) := by
  unfold dNe
  rw [eqB_r]
  rfl
theorem f_eq_p {a b : List (Int × Int)} {P : D → Prop} : wF (dEq (pD a) (pD b)) P = P (.bl (decide (a = b))) := by
  unfold dEq
  rw [eqB_p]
  rfl
theorem f_ne_p {a b : List (Int × Int)} {P : D → Prop} : wF (dNe (pD a) (pD b)) P = P (.bl (!decide (a = b))) := by
  unfold dNe
  rw [eqB_p]
  rfl
theorem f_eq_bl {a b : Bool} {P : D → Prop} : wF (dEq (.bl a) (.bl b)) P = P (.bl (a == b)) := by cases a <;> cases b <;> rfl
theorem f_ne_bl {a b : Bool} {P : D → Prop} : wF (dNe (.bl a) (.bl b)) P = P (.bl (a != b)) := by cases a <;> cases b <;> rfl
/-! repr -/
/-- small ints -/
def Small (ns : List Int) : Prop := ∀ n ∈ ns, n.natAbs < 10 ^ 12
/-! what is shown is a text -/
def OkS (x : Str) : Prop := ∀ c ∈ x.cps.toList, c < 0x110000
theorem okS_strOk {x : Str} (h : OkS x) : PyData.strOk x = true := by
  unfold PyData.strOk
  rw [Array.all_eq_true_iff_forall_mem]
  intro c hc
  exact decide_eq_true (h c (Array.mem_toList_iff.mpr hc))
theorem okS_app {a b : Str} (h : OkS a) (k : OkS b) : OkS (a ++ b) := fun c hc => by
  have e : (a ++ b).cps = a.cps ++ b.cps := rfl
  rw [e, Array.toList_append, List.mem_append] at hc
  exact hc.elim (h c) (k c)
theorem okS_of (s : String) : OkS (Str.ofString s) := fun c hc => by
  rw [Str.ofString_eq_toList] at hc
  have hc' : c ∈ s.toList.map Char.toNat := by simpa using hc
  obtain ⟨ch, _, rfl⟩ := List.mem_map.mp hc'
  have := ch.valid
  unfold UInt32.isValidChar Nat.isValidChar at this
  show ch.val.toNat < 0x110000
  omega
theorem okS_from : ∀ (ts : List Str) (k : Nat) (acc : Str), (∀ t ∈ ts, OkS t) → OkS acc → OkS (textFrom k acc ts)
  | [], _, _, _, h => h
  | t :: ts, k, acc, h, ha => okS_from ts (k + 1) _ (fun x hx => h x (List.mem_cons_of_mem _ hx)) (okS_app (okS_app ha (okS_of _)) (h t List.mem_cons_self))
theorem okS_join : ∀ (ts : List Str) (s : String), (∀ t ∈ ts, OkS t) → OkS (Str.join s ts)
  | [], s, _ => fun c hc => by simp [Str.join, Str.empty] at hc
  | [x], s, h => h x List.mem_cons_self
  | x :: y :: r, s, h => okS_app (okS_app (h x List.mem_cons_self) (okS_of s)) (okS_join (y :: r) s fun t ht => h t (List.mem_cons_of_mem _ ht))
/-! read and set in own lists -/
theorem rdL_map {α : Type} {f : α → D} {xs : List α} {r : Int} {P : D → Prop} : wI (some (.lst (xs.map fun x => O.sh (f x)))) (.int r) (fun j => wL (oget (.lst (xs.map fun x => O.sh (f x))) [.ix j]) P) = wF (atI xs r) fun x => P (f x) := by
  show wF (ixN (xs.map fun x => O.sh (f x)).length r) _ = _
  unfold atI
  rw [List.length_map]
  cases ixN xs.length r with
  | none => rfl
  | some j =>
    show wL (oget (.lst (xs.map fun x => O.sh (f x))) [.ix j]) P = wF xs[j]? _
    rw [og_lst, List.getElem?_map]
    cases xs[j]? <;> rfl
theorem rd_i {ns : List Int} {r : Int} {P : D → Prop} : wI (some (iO ns)) (.int r) (fun j => wL (oget (iO ns) [.ix j]) P) = wF (atI ns r) fun n => P (.int n) := rdL_map
theorem rd_b {ns : List Bool} {r : Int} {P : D → Prop} : wI (some (bO ns)) (.int r) (fun j => wL (oget (bO ns) [.ix j]) P) = wF (atI ns r) fun n => P (.bl n) := rdL_map
theorem rd_p {ns : List (Int × Int)} {r : Int} {P : D → Prop} : wI (some (pO ns)) (.int r) (fun j => wL (oget (pO ns) [.ix j]) P) = wF (atI ns r) fun n => P (Z.pairD n) := rdL_map
theorem rd_rs {ns : List (List Int)} {r : Int} {P : D → Prop} : wI (some (rsO ns)) (.int r) (fun j => wL (oget (rsO ns) [.ix j]) P) = wF (atI ns r) fun n => P (iD n) := rdL_map
end Z

/-! Y6: objects made. -/
namespace Z
open PySem PySem.Spec PyProof.Rows L2
theorem x_mk {cn : Str} {f : Fn} {a b c : M D} {S : List Sl} {Q : O → List Sl → Prop} : wM (mMake cn 4 [0] f 2 1 (· ++ ·) (mCons (aD a) (mCons (aD b) (mC []))) (mCons (aD c) (mC []))) S Q = wM a S fun d S1 => wM b S1 fun e S2 => wM c S2 fun g S3 => wO (f [.ow (.obj cn [] []), .pl d, .pl e, .pl g]) fun r S4 => wMk r (some (S4.getD 0 .no)) fun o => Q o S3 := by
  rw [w_make]
  simp only [w_mCons, w_aD, w_mC]
  congr; funext d S1
  congr; funext e S2
  congr; funext g S3
  have h0 : argOf (S3 ++ [.ow (.obj cn [] [])]) (.b S3.length) = some (.ow (.obj cn [] [])) := by
    show (match (S3 ++ [Sl.ow (.obj cn [] [])])[S3.length]? with | some (.ow o) => some (Sl.ow o) | _ => none) = _
    rw [List.getElem?_append_right (Nat.le_refl _), Nat.sub_self]
    rfl
  rw [wO_make, wO_call]
  have h1 : argsOf (S3 ++ [.ow (.obj cn [] [])]) [.b S3.length, .d d, .d e, .d g] = some [.ow (.obj cn [] []), .pl d, .pl e, .pl g] := by
    unfold argsOf
    rw [h0]
    rfl
  have h2 : callOk 4 [0] [.b S3.length, .d d, .d e, .d g] = true := by simp [callOk, lentAt, Z.shown]
  unfold wC
  show ((2 = 2 ∧ 1 = 1) ∧ match callOk 4 [0] [.b S3.length, .d d, .d e, .d g], argsOf (S3 ++ [.ow (.obj cn [] [])]) [.b S3.length, .d d, .d e, .d g] with | true, some args => _ | _, _ => False) = _
  rw [h1, h2]
  simp only [and_self, true_and]
  congr; funext r S4
  show ((true = true) ∧ wMk r ((S3 ++ [Sl.ow (.obj cn [] [])]).set S3.length (S4.getD 0 .no)).getLast? fun o => Q o ((S3 ++ [Sl.ow (.obj cn [] [])]).set S3.length (S4.getD 0 .no)).dropLast) = _
  have h3 : (S3 ++ [Sl.ow (.obj cn [] [])]).set S3.length (S4.getD 0 .no) = S3 ++ [S4.getD 0 .no] := by
    rw [List.set_append_right _ _ (Nat.le_refl _), Nat.sub_self]
    rfl
  rw [h3, List.getLast?_concat, List.dropLast_concat]
  simp only [true_and]
theorem mk_ok {o : O} {P : O → Prop} : wMk (.sh .non) (some (.ow o)) P = P o := propext Iff.rfl
theorem at_mem {α : Type} {xs : List α} {r : Int} (h0 : 0 ≤ r) (h1 : r < xs.length) : ∃ x, x ∈ xs ∧ atI xs r = some x := by
  have hj : r.toNat < xs.length := by omega
  refine ⟨xs[r.toNat], List.getElem_mem hj, ?_⟩
  unfold atI ixN
  rw [if_pos h0, if_pos h1]
  exact List.getElem?_eq_getElem hj
theorem rO_ex {x : Out O} {P : O → Prop} (h : wO x fun o _ => P o) : ∃ o, rO x = some o ∧ P o := by
  cases x with
  | ok o S => exact ⟨o, rfl, h⟩
  | exc _ _ _ _ => exact h.elim
  | bad => exact h.elim
/-! slices -/
def cutL {α : Type} (xs : List α) (lo hi : Option Int) : List α := (xs.drop (HT.sIx xs.length 0 lo)).take (HT.sIx xs.length xs.length hi - HT.sIx xs.length 0 lo)
theorem cut_map {α : Type} {f : α → D} {xs : List α} {lo hi : Option Int} : Z.cutD (xs.map f) lo hi = (cutL xs lo hi).map f := by
  unfold Z.cutD cutL
  rw [List.length_map, List.map_take, List.map_drop]
theorem ls_i {ns : List Int} : lstD (iD ns) = some (ns.map .int) := rfl
theorem ls_r {ns : List (List Int)} : lstD (rD ns) = some (ns.map iD) := rfl
theorem ls_p {ns : List (Int × Int)} : lstD (pD ns) = some (ns.map Z.pairD) := rfl
theorem lst_rs {ns : List (List Int)} : O.lst ((ns.map iD).map O.sh) = rsO ns := by
  unfold rsO
  rw [List.map_map]
  rfl
theorem lst_is {ns : List Int} : O.lst ((ns.map D.int).map O.sh) = iO ns := by
  unfold iO
  rw [List.map_map]
  rfl
/-! items set in own lists -/
def wSetO (x : Option O) (d : D) (o : O) (P : O → Prop) : Prop := match x, d with
  | some (.lst os), .int n => wF (ixN os.length n) fun j => P (.lst (os.set j o))
  | _, _ => False
theorem x_set {i : Nat} {p : List Stp} {d : D} {o : O} {S : List Sl} {P : List Sl → Prop} : wSet i p d o S P = wSetO (sget S i p) d o fun o' => P (sput S i p o') := by
  unfold wSet wSetO
  cases sget S i p with
  | none => rfl
  | some x => cases x <;> cases d <;> rfl
theorem set_map {α : Type} {f : α → O} {xs : List α} {r : Int} {x : α} {P : O → Prop} : wSetO (some (.lst (xs.map f))) (.int r) (f x) P = wF (ixN xs.length r) fun j => P (.lst ((xs.set j x).map f)) := by
  show wF (ixN (xs.map f).length r) _ = _
  rw [List.length_map]
  congr
  funext j
  rw [List.map_set]
theorem set_i {ns : List Int} {r n : Int} {P : O → Prop} : wSetO (some (iO ns)) (.int r) (.sh (.int n)) P = wF (ixN ns.length r) fun j => P (iO (ns.set j n)) := set_map (f := fun n => O.sh (.int n))
theorem set_b {ns : List Bool} {r : Int} {n : Bool} {P : O → Prop} : wSetO (some (bO ns)) (.int r) (.sh (.bl n)) P = wF (ixN ns.length r) fun j => P (bO (ns.set j n)) := set_map (f := fun n => O.sh (.bl n))
theorem it_en {α : Type} {f : α → D} {xs : List α} {P : List D → Prop} (d : D) (h : lstD d = some (xs.map f)) : wF (itEn [d]) P = P ((xs.zipIdx).map fun q => D.tup [.int q.2, f q.1]) := by
  have e : ∀ (xs : List α) (n : Nat), enumFrom n (xs.map f) = (xs.zipIdx n).map fun q => D.tup [.int q.2, f q.1] := by
    intro xs
    induction xs with
    | nil => intro n; rfl
    | cons x xs ih =>
      intro n
      show D.tup [.int n, f x] :: enumFrom (n + 1) (xs.map f) = _
      rw [ih (n + 1)]
      rfl
  show wF ((lstD d).map enumD) P = _
  rw [h]
  show P (enumFrom 0 (xs.map f)) = _
  rw [e]
theorem en_i {ns : List Int} {P : List D → Prop} : wF (itEn [iD ns]) P = P ((ns.zipIdx).map fun q => D.tup [.int q.2, .int q.1]) := it_en _ rfl
theorem en_p {ns : List (Int × Int)} {P : List D → Prop} : wF (itEn [pD ns]) P = P ((ns.zipIdx).map fun q => D.tup [.int q.2, Z.pairD q.1]) := it_en _ rfl
theorem en_r {ns : List (List Int)} {P : List D → Prop} : wF (itEn [rD ns]) P = P ((ns.zipIdx).map fun q => D.tup [.int q.2, iD q.1]) := it_en _ rfl
theorem f_tupO {os : List O} {P : O → Prop} (h : os.length ≤ 16777216) : wF (dTupO os) P = P (.tup os) := by
  unfold dTupO
  rw [decide_eq_true (by rw [sl_16]; exact h)]
  rfl
theorem f_tupO2 {a b : O} {P : O → Prop} : wF (dTupO [a, b]) P = P (.tup [a, b]) := f_tupO (by simp)
theorem f_tupO3 {a b c : O} {P : O → Prop} : wF (dTupO [a, b, c]) P = P (.tup [a, b, c]) := f_tupO (by simp)
theorem f_tup2d {a b : D} {P : O → Prop} : wF (dTup [a, b]) P = P (.tup [.sh a, .sh b]) := by
  unfold dTup
  rw [decide_eq_true (by rw [sl_16]; simp)]
  rfl
theorem fr_t2 {a b : O} : fr (.tup [a, b]) = .tup [fr a, fr b] := rfl
theorem fr_t3 {a b c : O} : fr (.tup [a, b, c]) = .tup [fr a, fr b, fr c] := rfl
theorem slt_ow {os : List O} : slOf (.tup os) = .ow (.tup os) := rfl
theorem ix_t0 {a : D} {r : List D} {P : D → Prop} : wF (dIx (.tup (a :: r)) (.int 0)) P = P a := by
  show wF (atI (a :: r) 0) P = _
  rw [at_in (d := a) (by omega) (by simp)]
  rfl
theorem ix_t1 {a b : D} {r : List D} {P : D → Prop} : wF (dIx (.tup (a :: b :: r)) (.int 1)) P = P b := by
  show wF (atI (a :: b :: r) 1) P = _
  rw [at_in (d := a) (by omega) (by simp; omega)]
  rfl
theorem ix_t2 {a b c : D} {r : List D} {P : D → Prop} : wF (dIx (.tup (a :: b :: c :: r)) (.int 2)) P = P c := by
  show wF (atI (a :: b :: c :: r) 2) P = _
  rw [at_in (d := a) (by omega) (by simp; omega)]
  rfl
/-- an own tuple's parts -/
theorem wi_t0 {a : O} {r : List O} {P : Nat → Prop} : wI (some (.tup (a :: r))) (.int 0) P = P 0 := by
  show wF (ixN (a :: r).length 0) P = _
  rw [ixN_ok (by omega) (by simp)]
  rfl
theorem wi_t1 {a b : O} {r : List O} {P : Nat → Prop} : wI (some (.tup (a :: b :: r))) (.int 1) P = P 1 := by
  show wF (ixN (a :: b :: r).length 1) P = _
  rw [ixN_ok (by omega) (by simp; omega)]
  rfl
theorem og_t0 {a : O} {r : List O} : oget (.tup (a :: r)) [.ix 0] = some a := rfl
theorem og_t1 {a b : O} {r : List O} : oget (.tup (a :: b :: r)) [.ix 1] = some b := rfl
theorem op_t0 {a n : O} {r : List O} : oput (.tup (a :: r)) [.ix 0] n = .tup (n :: r) := rfl
theorem op_t1 {a b n : O} {r : List O} : oput (.tup (a :: b :: r)) [.ix 1] n = .tup (a :: n :: r) := rfl
/-! == of tuples of lists -/
theorem eqB_t2 {a b c d : List Int} : eqB (.tup [iD a, iD b]) (.tup [iD c, iD d]) = some (decide (a = c) && decide (b = d)) := by
  have sh : ∀ a b : List Int, SeqAt.shaped (.tuple [pyI a, pyI b]) = true := fun a b => by
    unfold SeqAt.shaped
    have e1 : PyData.canLay0 (.tuple [pyI a, pyI b]) = true := by
      show (PyData.canLay0 (pyI a) && (PyData.canLay0 (pyI b) && true)) = true
      rw [show PyData.canLay0 (pyI a) = true from can_i a, show PyData.canLay0 (pyI b) = true from can_i b]
      rfl
    have e2 : PyData.depth (.tuple [pyI a, pyI b]) ≤ 64 := by
      show max (PyData.depth (pyI a)) (max (PyData.depth (pyI b)) 0) + 1 ≤ 64
      have := pyI_dep a
      have := pyI_dep b
      omega
    rw [e1, decide_eq_true e2]
    rfl
  have tp : ∀ a b : List Int, toPy (.tup [iD a, iD b]) = some (.tuple [pyI a, pyI b]) := fun a b => by
    show (toPyL [iD a, iD b]).map PyData.tuple = _
    show (match toPy (iD a), (match toPy (iD b), some ([] : List PyData) with | some p, some ps => some (p :: ps) | _, _ => none) with | some p, some ps => some (p :: ps) | _, _ => none).map PyData.tuple = _
    rw [toPy_i, toPy_i]
    rfl
  refine eqB_of (tp a b) (tp c d) (sh a b) (sh c d) ?_
  show (PyData.eqvAll (a.map PyData.int) (c.map PyData.int) && (PyData.eqvAll (b.map PyData.int) (d.map PyData.int) && true)) = _
  rw [eqv_i, eqv_i, Bool.and_true]
theorem f_eq_t2 {a b c d : List Int} {P : D → Prop} : wF (dEq (.tup [iD a, iD b]) (.tup [iD c, iD d])) P = P (.bl (decide (a = c) && decide (b = d))) := by
  unfold dEq
  rw [eqB_t2]
  rfl
theorem f_ne_t2 {a b c d : List Int} {P : D → Prop} : wF (dNe (.tup [iD a, iD b]) (.tup [iD c, iD d])) P = P (.bl (!(decide (a = c) && decide (b = d)))) := by
  unfold dNe
  rw [eqB_t2]
  rfl
/-! range of a length: no cast of a length may stand in a bound -/
theorem r1_nat {n : Nat} {Q : List D → Prop} : wF (itR1 [.int (n : Int)]) Q = (n < 4611686018427387904 ∧ Q ((rng 0 (n : Int)).map .int)) := by
  rw [it_r1]
  have : (-(2 ^ 62) ≤ (n : Int) ∧ (n : Int) < 2 ^ 62) = (n < 4611686018427387904) := propext ⟨fun h => by omega, fun h => by omega⟩
  rw [this]
theorem len_r1i {ns : List Int} {Q : List D → Prop} : wF (fLen [iD ns]) (fun z => wF (itR1 [z]) Q) = (ns.length < 4611686018427387904 ∧ Q ((rng 0 (ns.length : Int)).map .int)) := f_len_i.trans r1_nat
theorem len_r1p {ns : List (Int × Int)} {Q : List D → Prop} : wF (fLen [pD ns]) (fun z => wF (itR1 [z]) Q) = (ns.length < 4611686018427387904 ∧ Q ((rng 0 (ns.length : Int)).map .int)) := f_len_p.trans r1_nat
theorem len_r1r {ns : List (List Int)} {Q : List D → Prop} : wF (fLen [rD ns]) (fun z => wF (itR1 [z]) Q) = (ns.length < 4611686018427387904 ∧ Q ((rng 0 (ns.length : Int)).map .int)) := f_len_r.trans r1_nat
/-! one statement after another, the rest kept whole -/
def kSeq (b : MS) (k : Ks) : Ks := ⟨fun S => wS b S k, k.r, k.b, k.c⟩
theorem q_seq {a b : MS} {S : List Sl} {k : Ks} : wS (sSeq a b) S k = wS a S (kSeq b k) := s_seq
theorem kq_n {b : MS} {S : List Sl} {k : Ks} : (kSeq b k).n S = wS b S k := propext Iff.rfl
theorem kq_r {b : MS} {k : Ks} : (kSeq b k).r = k.r := rfl
theorem kq_b {b : MS} {k : Ks} : (kSeq b k).b = k.b := rfl
theorem kq_c {b : MS} {k : Ks} : (kSeq b k).c = k.c := rfl
/-! own slots at any place -/
def sgetO (x : Option Sl) (p : List Stp) : Option O := match x with
  | some (.ow o) => oget o p
  | _ => none
def sputO (S : List Sl) (i : Nat) (x : Option Sl) (p : List Stp) (n : O) : List Sl := match x with
  | some (.ow o) => S.set i (.ow (oput o p n))
  | _ => S
theorem sgx {S : List Sl} {i : Nat} {p : List Stp} : sget S i p = sgetO S[i]? p := by
  unfold sget sgetO
  cases S[i]? with
  | none => rfl
  | some x => cases x <;> rfl
theorem spx {S : List Sl} {i : Nat} {p : List Stp} {n : O} : sput S i p n = sputO S i S[i]? p n := by
  unfold sput sputO
  cases S[i]? with
  | none => rfl
  | some x => cases x <;> rfl
theorem sgo {o : O} {p : List Stp} : sgetO (some (.ow o)) p = oget o p := rfl
theorem spo {S : List Sl} {i : Nat} {o n : O} {p : List Stp} : sputO S i (some (.ow o)) p n = S.set i (.ow (oput o p n)) := rfl
end Z

set_option maxHeartbeats 4000000
/-! T11: a yard made. -/
namespace W
open PySem PySem.Spec PyProof.Rows L2 Z
def yardF : List Str := ["kept_size", "kept_ties", "kept_wired", "kept_near"]
end W

/-! T12: a tree with a root: parents, ranks; connected sets have one top. -/
namespace W
open PySem PySem.Spec PyProof.Rows L2 Z
/-- tied -/
def Adj (ts : List (Int × Int)) (u v : Int) : Prop := (u, v) ∈ ts ∨ (v, u) ∈ ts
structure RT (n : Nat) (A : Int → Int → Prop) where
  root : Int
  par : Int → Int
  rk : Int → Nat
  rin : 0 ≤ root ∧ root < n
  up : ∀ v : Int, 0 ≤ v → v < n → v ≠ root → (0 ≤ par v ∧ par v < n) ∧ rk (par v) < rk v
  inj : ∀ u v : Int, 0 ≤ u → u < n → 0 ≤ v → v < n → rk u = rk v → u = v
  adj : ∀ u v : Int, 0 ≤ u → u < n → 0 ≤ v → v < n → (A u v ↔ (u ≠ root ∧ par u = v) ∨ (v ≠ root ∧ par v = u))
/-- posts of n -/
def InN (n : Nat) (L : List Int) : Prop := ∀ v ∈ L, 0 ≤ v ∧ v < (n : Int)
section
variable {n : Nat} {A : Int → Int → Prop} (T : RT n A)
end
/-! what near_of tells -/
/-- a post's neighbours -/
def nb (nr : List (List Int)) (v : Int) : List Int := nr.getD v.toNat []
end W

/-! T13: neighbours; what is given by small defs; a yard as a value. -/
namespace W
open PySem PySem.Spec PyProof.Rows L2 Z
local macro_rules | `(tactic| walk_at "w") => `(tactic| simp only [w_mC, w_mVar, w_m2x, w_m1x, w_mTst, w_mAnd, w_mOr, w_mNot, w_mIf, w_mBl, w_mFr, w_mSh, w_mCons, w_mRd, w_mRv, w_pVar, w_pIx, w_mCh, w_mYes', w_m2N, w_m1N, w_mStar, w_mSeq, w_mSl, w_mPart, x_mLook, x_mUse, x_mMov, x_mItV, x_mut, x_comp,
  s_next, s_seq, s_if, s_ret, s_asg, s_sto, s_own, s_drop, s_setI, s_augI, s_aug, s_bad, s_retN, s_brk, s_cnt, s_par, s_for,
  x_call1, x_call2, x_call3, x_call4, x_call5, x_call1s, x_call2s, x_call2t, x_call3s, x_call3t, x_call3u, x_call1b, x_call2b, x_call3b, x_call4b, x_meth0, x_meth1, x_meth2, x_meth1s,
  f_add, f_sub, f_lt, f_le, f_gt, f_ge, f_mod, f_div, f_mul, f_eq, f_ne, f_neg, b_bl, l_sh, v_pl, o_ow, o_own, a_pl, k_pl, k_ow, u_pl, u_ow, mv_pl, mv_ow, i1_int, par2_ok, wF_some, g_nm, f_tp, g_cons, g_nil, wF_map,
  fr_i, fr_p, fr_rs, fr_b, fr_sh, sl_i, sl_p, sl_rs, sl_b, sl_sh, itv_i, itv_p, itv_rs, sq_i, sq_p, sq_r, is_i, is_p, is_r, il_i, il_p, il_rs, il_b,
  m_app_i, m_app_p, m_app_rs, m_app_b, m_rev_i, m_clr_i, m_rem_i, f_len_i, f_len_p, f_len_r, f_in_i, f_ni_i, f_ix_i, f_ix_p, f_ix_r, f_ix_b, p_fst, p_snd, f_list_i, f_list_t, f_list_r, mk_i, mk_p, mk_r, f_srt_i, f_srt_p, f_rev_i, f_rev_p, f_cat_i, f_cat_r, f_cat_p, f_rep_i, minL_map, maxL_map, sum_map, all_map, any_map, f_int1, f_intB, f_max2, f_min2,
  it_r1, it_r2, f_rg, itL_i, itL_p, itL_r, itL_b, itS_i, itS_r, f_lstM, f_lst0, f_lst1, f_lst2, f_lst3, f_lst4, f_lst5, f_lst6, f_lstr1, f_lstr2, f_eq_i, f_ne_i, f_eq_r, f_ne_r, f_eq_p, f_ne_p, f_eq_bl, f_ne_bl, rd_i, rd_b, rd_p, rd_rs, 
  isi_int, isi_int_bl, isi_tup, isi_lst, isi_lt, sg0, sg1, sg2, sg3, sg4, sg5, sg6, sg7, sg8, sg9, sg10, sg11, sg12, sg13, sg14, sg15, sp0, sp1, sp2, sp3, sp4, sp5, sp6, sp7, sp8, sp9, sp10, sp11, sp12, sp13, sp14, sp15, og_nil, op_nil, restS, wipeS,
  List.getElem?_cons_zero, List.getElem?_cons_succ, List.set_cons_zero, List.set_cons_succ, List.getD_cons_zero, List.getD_cons_succ, List.cons_append, List.nil_append, List.append_nil, List.length_cons, List.length_nil, List.replicate_succ, List.replicate_zero, Nat.reduceSub, Nat.reduceAdd, true_and, and_true])
/-! neighbours -/
structure NearOk (n : Nat) (A : Int → Int → Prop) (nr : List (List Int)) : Prop where
  len : nr.length = n
  mem : ∀ v : Int, 0 ≤ v → v < n → ∀ u, u ∈ nb nr v ↔ A v u
  nd : ∀ v : Int, 0 ≤ v → v < n → (nb nr v).Nodup
  srt : ∀ v : Int, 0 ≤ v → v < n → (nb nr v).Pairwise (· ≤ ·)
  inn : ∀ v : Int, 0 ≤ v → v < n → InN n (nb nr v)
theorem sorted_lt {L : List Int} (h : L.Pairwise (· ≤ ·)) (nd : L.Nodup) : L.Pairwise (· < ·) := (h.and nd).imp fun h => by have := h.1; have := h.2; omega
theorem len_le_n {n : Nat} {L : List Int} (h : InN n L) (nd : L.Nodup) : L.length ≤ n := by
  have := sub_len (m := upto n) nd fun x hx => upto_mem.mpr (h x hx)
  rw [upto_len] at this
  exact this
/-! a yard -/
def yD (size : Int) (ts : List (Int × Int)) (ws : List Int) (nr : List (List Int)) : D := .obj "Yard" yardF [.int size, pD ts, iD ws, rD nr]
section
variable {size : Int} {ts : List (Int × Int)} {ws : List Int} {nr : List (List Int)}
theorem y_size {P : D → Prop} : wF (dAtC "Yard" "kept_size" (yD size ts ws nr)) P = P (.int size) := propext Iff.rfl
theorem y_ties {P : D → Prop} : wF (dAtC "Yard" "kept_ties" (yD size ts ws nr)) P = P (pD ts) := propext Iff.rfl
theorem y_wired {P : D → Prop} : wF (dAtC "Yard" "kept_wired" (yD size ts ws nr)) P = P (iD ws) := propext Iff.rfl
theorem y_near {P : D → Prop} : wF (dAtC "Yard" "kept_near" (yD size ts ws nr)) P = P (rD nr) := propext Iff.rfl
theorem o_neighbours {P : Prop} : wOb "Yard" "neighbours" (yD size ts ws nr) P = P := by
  show ((("Yard" : Str) = "Yard" ∧ yardF.contains "neighbours" = false) ∧ P) = P
  have : yardF.contains "neighbours" = false := by decide
  simp only [this, and_self, true_and]
end
/-! small defs by what they give -/
end W

/-! T14: sets of posts drawn. -/
namespace W
open PySem PySem.Spec PyProof.Rows L2 Z
local macro_rules | `(tactic| walk_at "w") => `(tactic| simp only [w_mC, w_mVar, w_m2x, w_m1x, w_mTst, w_mAnd, w_mOr, w_mNot, w_mIf, w_mBl, w_mFr, w_mSh, w_mCons, w_mRd, w_mRv, w_pVar, w_pIx, w_mCh, w_mYes', w_m2N, w_m1N, w_mStar, w_mSeq, w_mSl, w_mPart, x_mLook, x_mUse, x_mMov, x_mItV, x_mut, x_comp,
  s_next, s_seq, s_if, s_ret, s_asg, s_sto, s_own, s_drop, s_setI, s_augI, s_aug, s_bad, s_retN, s_brk, s_cnt, s_par, s_for,
  x_call1, x_call2, x_call3, x_call4, x_call5, x_call1s, x_call2s, x_call2t, x_call3s, x_call3t, x_call3u, x_call1b, x_call2b, x_call3b, x_call4b, x_meth0, x_meth1, x_meth2, x_meth1s,
  f_add, f_sub, f_lt, f_le, f_gt, f_ge, f_mod, f_div, f_mul, f_eq, f_ne, f_neg, b_bl, l_sh, v_pl, o_ow, o_own, a_pl, k_pl, k_ow, u_pl, u_ow, mv_pl, mv_ow, i1_int, par2_ok, wF_some, g_nm, f_tp, g_cons, g_nil, wF_map,
  fr_i, fr_p, fr_rs, fr_b, fr_sh, sl_i, sl_p, sl_rs, sl_b, sl_sh, itv_i, itv_p, itv_rs, sq_i, sq_p, sq_r, is_i, is_p, is_r, il_i, il_p, il_rs, il_b,
  m_app_i, m_app_p, m_app_rs, m_app_b, m_rev_i, m_clr_i, m_rem_i, f_len_i, f_len_p, f_len_r, f_in_i, f_ni_i, f_ix_i, f_ix_p, f_ix_r, f_ix_b, p_fst, p_snd, f_list_i, f_list_t, f_list_r, mk_i, mk_p, mk_r, f_srt_i, f_srt_p, f_rev_i, f_rev_p, f_cat_i, f_cat_r, f_cat_p, f_rep_i, minL_map, maxL_map, sum_map, all_map, any_map, f_int1, f_intB, f_max2, f_min2,
  it_r1, it_r2, f_rg, itL_i, itL_p, itL_r, itL_b, itS_i, itS_r, f_lstM, f_lst0, f_lst1, f_lst2, f_lst3, f_lst4, f_lst5, f_lst6, f_lstr1, f_lstr2, f_eq_i, f_ne_i, f_eq_r, f_ne_r, f_eq_p, f_ne_p, f_eq_bl, f_ne_bl, rd_i, rd_b, rd_p, rd_rs, y_size, y_ties, y_wired, y_near, o_neighbours,
  isi_int, isi_int_bl, isi_tup, isi_lst, isi_lt, sg0, sg1, sg2, sg3, sg4, sg5, sg6, sg7, sg8, sg9, sg10, sg11, sg12, sg13, sg14, sg15, sp0, sp1, sp2, sp3, sp4, sp5, sp6, sp7, sp8, sp9, sp10, sp11, sp12, sp13, sp14, sp15, og_nil, op_nil, restS, wipeS,
  List.getElem?_cons_zero, List.getElem?_cons_succ, List.set_cons_zero, List.set_cons_succ, List.getD_cons_zero, List.getD_cons_succ, List.cons_append, List.nil_append, List.append_nil, List.length_cons, List.length_nil, List.replicate_succ, List.replicate_zero, Nat.reduceSub, Nat.reduceAdd, true_and, and_true])
theorem t_take {B : O} {m : Int} {Q : O → List Sl → Prop} (hB : BagOk B) (hm : 1 ≤ m ∧ m < 2 ^ 200) (k : ∀ (r : Int) (B' : O) (S : List Sl), 0 ≤ r → r < m → BagOk B' → S.getD 0 .no = .ow B' → Q (.sh (.int r)) S) : wO (f__law_take [.ow B, .pl (.int m)]) Q := by
  obtain ⟨a, b, c, cells, ha, hb, hc, hcs, rfl⟩ := hB
  exact take_ok ha hb hc hcs hm fun r a' b' c' S h1 h2 h3 h4 h5 h6 => k r _ S h1 h2 ⟨a', b', c', cells, h3, h4, h5, hcs, rfl⟩ h6
/-- a position: different posts, ascending -/
def PosOk (n : Nat) (L : List Int) : Prop := InN n L ∧ L.Pairwise (· < ·)
theorem PosOk.nd {n : Nat} {L : List Int} (h : PosOk n L) : L.Nodup := h.2.imp fun h e => by omega
theorem PosOk.len {n : Nat} {L : List Int} (h : PosOk n L) : L.length ≤ n := len_le_n h.1 h.nd
theorem rng_take {lo hi : Int} {i : Nat} {x : Int} (h : (rng lo hi)[i]? = some x) : (rng lo hi).take (i + 1) = (rng lo hi).take i ++ [x] := by
  obtain ⟨hl, he⟩ := List.getElem?_eq_some_iff.mp h
  rw [List.take_succ_eq_append_getElem hl, he]
def someI (size : Int) (n : Nat) (a b : D) (i : Nat) (acc : List D) (S : List Sl) : Prop := ∃ (B : O) (L : List Int), S = [.ow B, .pl (.int size), .pl a, .pl b, .no] ∧ BagOk B ∧ acc = L.map D.int ∧ L.Sublist ((rng 0 size).take i)
theorem t_some {B : O} {size : Int} {n : Nat} {Q : O → List Sl → Prop} (hB : BagOk B) (hs : size = n) (h1 : 1 ≤ n) (h2 : n ≤ 60) (k : ∀ (L : List Int) (B' : O) (S : List Sl), PosOk n L → BagOk B' → S.getD 0 .no = .ow B' → Q (iO L) S) : wO (f__law_some [.ow B, .pl (.int size)]) Q := by
  unfold f__law_some
  rw [wO_mk]
  unfold m__law_some
  walk_at "w"
  refine t_take hB (by omega) fun way B1 S1 w0 w1 hB1 e1 => ?_
  simp only [e1]
  walk_at "w"
  refine ⟨fun _ => ?_, fun hw => ?_⟩
  · refine t_take hB1 (by omega) fun r B2 S2 r0 r1 hB2 e2 => ?_
    simp only [e2]
    walk_at "w"
    exact k [r] B2 _ ⟨fun v hv => by simp at hv; omega, by simp⟩ hB2 rfl
  · rw [at_in (d := 0) w0 (by simp; omega)]
    walk_at "w"
    refine ⟨by omega, ⟨by simp [rng_len]; omega, rfl⟩, ?_⟩
    generalize ([0, 4, 0, 1, 2, 3] : List Int).getD way.toNat 0 = part
    refine cmp_I (someI size n (.int way) (.int part)) ⟨B1, [], rfl, hB1, rfl, by simp⟩ ?_ ?_
    · rintro i x acc S hx ⟨B2, L, rfl, hB2, rfl, hL⟩
      walk_at "w"
      refine t_take hB2 (by omega) fun r B3 S3 r0 r1 hB3 e3 => ?_
      simp only [e3]
      walk_at "w"
      refine ⟨fun _ => ⟨B3, L ++ [x], rfl, hB3, by simp, ?_⟩, fun _ => ⟨B3, L, rfl, hB3, rfl, ?_⟩⟩
      · rw [rng_take hx]; exact hL.append (List.Sublist.refl _)
      · rw [rng_take hx]; exact hL.trans (List.sublist_append_left _ _)
    · rintro ys S ⟨B2, L, rfl, hB2, rfl, hL⟩
      have e : O.lst ((L.map D.int).map O.sh) = iO L := by unfold iO; rw [List.map_map]; rfl
      rw [e]
      have hL2 : L.Sublist (rng 0 size) := hL.trans (List.take_sublist _ _)
      exact k L B2 _ ⟨fun v hv => by have := rng_mem.mp (hL2.mem hv); omega, rng_sorted.sublist hL2⟩ hB2 rfl
end W

/-! T15: rows of groups. -/
namespace W
open PySem PySem.Spec PyProof.Rows L2 Z
local macro_rules | `(tactic| walk_at "w") => `(tactic| simp only [w_mC, w_mVar, w_m2x, w_m1x, w_mTst, w_mAnd, w_mOr, w_mNot, w_mIf, w_mBl, w_mFr, w_mSh, w_mCons, w_mRd, w_mRv, w_pVar, w_pIx, w_mCh, w_mYes', w_m2N, w_m1N, w_mStar, w_mSeq, w_mSl, w_mPart, x_mLook, x_mUse, x_mMov, x_mItV, x_mut, x_comp,
  s_next, s_seq, s_if, s_ret, s_asg, s_sto, s_own, s_drop, s_setI, s_augI, s_aug, s_bad, s_retN, s_brk, s_cnt, s_par, s_for,
  x_call1, x_call2, x_call3, x_call4, x_call5, x_call1s, x_call2s, x_call2t, x_call3s, x_call3t, x_call3u, x_call1b, x_call2b, x_call3b, x_call4b, x_meth0, x_meth1, x_meth2, x_meth1s,
  f_add, f_sub, f_lt, f_le, f_gt, f_ge, f_mod, f_div, f_mul, f_eq, f_ne, f_neg, b_bl, l_sh, v_pl, o_ow, o_own, a_pl, k_pl, k_ow, u_pl, u_ow, mv_pl, mv_ow, i1_int, par2_ok, wF_some, g_nm, f_tp, g_cons, g_nil, wF_map,
  fr_i, fr_p, fr_rs, fr_b, fr_sh, sl_i, sl_p, sl_rs, sl_b, sl_sh, itv_i, itv_p, itv_rs, sq_i, sq_p, sq_r, is_i, is_p, is_r, il_i, il_p, il_rs, il_b,
  m_app_i, m_app_p, m_app_rs, m_app_b, m_rev_i, m_clr_i, m_rem_i, f_len_i, f_len_p, f_len_r, f_in_i, f_ni_i, f_ix_i, f_ix_p, f_ix_r, f_ix_b, p_fst, p_snd, f_list_i, f_list_t, f_list_r, mk_i, mk_p, mk_r, f_srt_i, f_srt_p, f_rev_i, f_rev_p, f_cat_i, f_cat_r, f_cat_p, f_rep_i, minL_map, maxL_map, sum_map, all_map, any_map, f_int1, f_intB, f_max2, f_min2,
  it_r1, it_r2, f_rg, itL_i, itL_p, itL_r, itL_b, itS_i, itS_r, f_lstM, f_lst0, f_lst1, f_lst2, f_lst3, f_lst4, f_lst5, f_lst6, f_lstr1, f_lstr2, f_eq_i, f_ne_i, f_eq_r, f_ne_r, f_eq_p, f_ne_p, f_eq_bl, f_ne_bl, rd_i, rd_b, rd_p, rd_rs, y_size, y_ties, y_wired, y_near, o_neighbours,
  isi_int, isi_int_bl, isi_tup, isi_lst, isi_lt, sg0, sg1, sg2, sg3, sg4, sg5, sg6, sg7, sg8, sg9, sg10, sg11, sg12, sg13, sg14, sg15, sp0, sp1, sp2, sp3, sp4, sp5, sp6, sp7, sp8, sp9, sp10, sp11, sp12, sp13, sp14, sp15, og_nil, op_nil, restS, wipeS,
  List.getElem?_cons_zero, List.getElem?_cons_succ, List.set_cons_zero, List.set_cons_succ, List.getD_cons_zero, List.getD_cons_succ, List.cons_append, List.nil_append, List.append_nil, List.length_cons, List.length_nil, List.replicate_succ, List.replicate_zero, Nat.reduceSub, Nat.reduceAdd, true_and, and_true])
theorem head_mem {L : List Int} (hne : L ≠ []) : L.headD 0 ∈ L := by
  cases L with
  | nil => exact absurd rfl hne
  | cons a r => exact List.mem_cons_self
section
variable {n : Nat} {A : Int → Int → Prop} {nr : List (List Int)}
end
end W

/-! T16: the bag's making; two alike things. -/
namespace W
open PySem PySem.Spec PyProof.Rows L2 Z
local macro_rules | `(tactic| walk_at "w") => `(tactic| simp only [w_mC, w_mVar, w_m2x, w_m1x, w_mTst, w_mAnd, w_mOr, w_mNot, w_mIf, w_mBl, w_mFr, w_mSh, w_mCons, w_mRd, w_mRv, w_pVar, w_pIx, w_mCh, w_mYes', w_m2N, w_m1N, w_mStar, w_mSeq, w_mSl, w_mPart, x_mLook, x_mUse, x_mMov, x_mItV, x_mut, x_comp,
  s_next, s_seq, s_if, s_ret, s_asg, s_sto, s_own, s_drop, s_setI, s_augI, s_aug, s_bad, s_retN, s_brk, s_cnt, s_par, s_for,
  x_call1, x_call2, x_call3, x_call4, x_call5, x_call1s, x_call2s, x_call2t, x_call3s, x_call3t, x_call3u, x_call1b, x_call2b, x_call3b, x_call4b, x_meth0, x_meth1, x_meth2, x_meth1s,
  f_add, f_sub, f_lt, f_le, f_gt, f_ge, f_mod, f_div, f_mul, f_eq, f_ne, f_neg, b_bl, l_sh, v_pl, o_ow, o_own, a_pl, k_pl, k_ow, u_pl, u_ow, mv_pl, mv_ow, i1_int, par2_ok, wF_some, g_nm, f_tp, g_cons, g_nil, wF_map,
  fr_i, fr_p, fr_rs, fr_b, fr_sh, sl_i, sl_p, sl_rs, sl_b, sl_sh, itv_i, itv_p, itv_rs, sq_i, sq_p, sq_r, is_i, is_p, is_r, il_i, il_p, il_rs, il_b,
  m_app_i, m_app_p, m_app_rs, m_app_b, m_rev_i, m_clr_i, m_rem_i, f_len_i, f_len_p, f_len_r, f_in_i, f_ni_i, f_ix_i, f_ix_p, f_ix_r, f_ix_b, p_fst, p_snd, f_list_i, f_list_t, f_list_r, mk_i, mk_p, mk_r, f_srt_i, f_srt_p, f_rev_i, f_rev_p, f_cat_i, f_cat_r, f_cat_p, f_rep_i, minL_map, maxL_map, sum_map, all_map, any_map, f_int1, f_intB, f_max2, f_min2,
  it_r1, it_r2, f_rg, itL_i, itL_p, itL_r, itL_b, itS_i, itS_r, f_lstM, f_lst0, f_lst1, f_lst2, f_lst3, f_lst4, f_lst5, f_lst6, f_lstr1, f_lstr2, f_eq_i, f_ne_i, f_eq_r, f_ne_r, f_eq_p, f_ne_p, f_eq_bl, f_ne_bl, rd_i, rd_b, rd_p, rd_rs, y_size, y_ties, y_wired, y_near, o_neighbours,
  isi_int, isi_int_bl, isi_tup, isi_lst, isi_lt, sg0, sg1, sg2, sg3, sg4, sg5, sg6, sg7, sg8, sg9, sg10, sg11, sg12, sg13, sg14, sg15, sp0, sp1, sp2, sp3, sp4, sp5, sp6, sp7, sp8, sp9, sp10, sp11, sp12, sp13, sp14, sp15, og_nil, op_nil, restS, wipeS,
  List.getElem?_cons_zero, List.getElem?_cons_succ, List.set_cons_zero, List.set_cons_succ, List.getD_cons_zero, List.getD_cons_succ, List.cons_append, List.nil_append, List.append_nil, List.length_cons, List.length_nil, List.replicate_succ, List.replicate_zero, Nat.reduceSub, Nat.reduceAdd, true_and, and_true])
theorem cut63 {ds : List D} {P : O → Prop} : wF (mkL true (Z.cutD ds none (some 63))) P = P (.lst ((ds.take 63).map .sh)) := by
  have e : Z.cutD ds none (some 63) = ds.take 63 := by
    unfold Z.cutD
    have h1 : HT.sIx ds.length 0 none = 0 := rfl
    have h2 : HT.sIx ds.length ds.length (some 63) = min 63 ds.length := HT.sIx_nat _ _ 63
    rw [h1, h2, List.drop_zero, Nat.sub_zero]
    rcases Nat.le_total 63 ds.length with h | h
    · rw [Nat.min_eq_left h]
    · rw [Nat.min_eq_right h, List.take_length, List.take_of_length_le h]
  rw [e]
  rfl
theorem abs_i {n : Int} {P : D → Prop} : wF (fAbs [.int n]) P = P (.int n.natAbs) := by
  show P (.int (if n < 0 then -n else n)) = _
  congr 2
  split <;> omega
theorem t_bag {ns : List Int} {Q : O → List Sl → Prop} (k : ∀ (B : O) (S : List Sl), BagOk B → Q B S) : wO (f__law_bag [.pl (.fls (ns.map .int))]) Q := by
  unfold f__law_bag
  rw [wO_mk]
  unfold m__law_bag
  walk_at "w"
  have e0 : lstD (.fls (ns.map D.int)) = some (ns.map D.int) := rfl
  rw [e0]
  walk_at "w"
  rw [cut63]
  have e1 : fr (O.lst (((ns.map D.int).take 63).map O.sh)) = iD (ns.take 63) := by
    rw [← List.map_take, List.map_map]
    exact fr_i
  rw [e1]
  walk_at "w"
  refine ⟨⟨by simp; omega, rfl⟩, ?_⟩
  refine cmp_i (fun _ => true) (fun n => (n.natAbs : Int)) (fun x hx => ?_) ?_
  · walk_at "w"
    rw [abs_i]
    simp
  · walk_at "w"
    rw [List.filter_eq_self.mpr (fun _ _ => rfl)]
    have e2 : ∀ P : O → Prop, wF (dLst [D.int 0, D.int 1234567891, D.int 0, iD ((ns.take 63).map fun n => (n.natAbs : Int))]) P = P (bagO 0 1234567891 0 ((ns.take 63).map fun n => (n.natAbs : Int))) := fun P => by
      rw [dlst_ok (by simp)]
      rfl
    rw [e2]
    exact k _ _ ⟨0, 1234567891, 0, _, by omega, by omega, by omega, fun x hx => by obtain ⟨y, _, rfl⟩ := List.mem_map.mp hx; omega, rfl⟩
section
variable {n : Nat} {A : Int → Int → Prop} {nr : List (List Int)}
end
end W

/-! T17: the law k32. -/
namespace W
open PySem PySem.Spec PyProof.Rows L2 Z
local macro_rules | `(tactic| walk_at "w") => `(tactic| simp only [w_mC, w_mVar, w_m2x, w_m1x, w_mTst, w_mAnd, w_mOr, w_mNot, w_mIf, w_mBl, w_mFr, w_mSh, w_mCons, w_mRd, w_mRv, w_pVar, w_pIx, w_mCh, w_mYes', w_m2N, w_m1N, w_mStar, w_mSeq, w_mSl, w_mPart, x_mLook, x_mUse, x_mMov, x_mItV, x_mut, x_comp,
  s_next, s_seq, s_if, s_ret, s_asg, s_sto, s_own, s_drop, s_setI, s_augI, s_aug, s_bad, s_retN, s_brk, s_cnt, s_par, s_for,
  x_call1, x_call2, x_call3, x_call4, x_call5, x_call1s, x_call2s, x_call2t, x_call3s, x_call3t, x_call3u, x_call1b, x_call2b, x_call3b, x_call4b, x_meth0, x_meth1, x_meth2, x_meth1s, x_mk, mk_ok, cut_map, ls_i, ls_r, ls_p, lst_rs, lst_is,
  f_add, f_sub, f_lt, f_le, f_gt, f_ge, f_mod, f_div, f_mul, f_eq, f_ne, f_neg, b_bl, l_sh, v_pl, o_ow, o_own, a_pl, k_pl, k_ow, u_pl, u_ow, mv_pl, mv_ow, i1_int, par2_ok, wF_some, g_nm, f_tp, g_cons, g_nil, wF_map,
  fr_i, fr_p, fr_rs, fr_b, fr_sh, sl_i, sl_p, sl_rs, sl_b, sl_sh, itv_i, itv_p, itv_rs, sq_i, sq_p, sq_r, is_i, is_p, is_r, il_i, il_p, il_rs, il_b,
  m_app_i, m_app_p, m_app_rs, m_app_b, m_rev_i, m_clr_i, m_rem_i, f_len_i, f_len_p, f_len_r, f_in_i, f_ni_i, f_ix_i, f_ix_p, f_ix_r, f_ix_b, p_fst, p_snd, f_list_i, f_list_t, f_list_r, mk_i, mk_p, mk_r, f_srt_i, f_srt_p, f_rev_i, f_rev_p, f_cat_i, f_cat_r, f_cat_p, f_rep_i, minL_map, maxL_map, sum_map, all_map, any_map, f_int1, f_intB, f_max2, f_min2,
  it_r1, it_r2, f_rg, itL_i, itL_p, itL_r, itL_b, itS_i, itS_r, f_lstM, f_lst0, f_lst1, f_lst2, f_lst3, f_lst4, f_lst5, f_lst6, f_lstr1, f_lstr2, f_eq_i, f_ne_i, f_eq_r, f_ne_r, f_eq_p, f_ne_p, f_eq_bl, f_ne_bl, rd_i, rd_b, rd_p, rd_rs, y_size, y_ties, y_wired, y_near, o_neighbours,
  isi_int, isi_int_bl, isi_tup, isi_lst, isi_lt, sg0, sg1, sg2, sg3, sg4, sg5, sg6, sg7, sg8, sg9, sg10, sg11, sg12, sg13, sg14, sg15, sp0, sp1, sp2, sp3, sp4, sp5, sp6, sp7, sp8, sp9, sp10, sp11, sp12, sp13, sp14, sp15, og_nil, op_nil, restS, wipeS,
  List.getElem?_cons_zero, List.getElem?_cons_succ, List.set_cons_zero, List.set_cons_succ, List.getD_cons_zero, List.getD_cons_succ, List.cons_append, List.nil_append, List.append_nil, List.length_cons, List.length_nil, List.replicate_succ, List.replicate_zero, Nat.reduceSub, Nat.reduceAdd, true_and, and_true])
theorem bag_sl {B : O} (h : BagOk B) : slOf B = .ow B := by
  obtain ⟨a, b, c, cells, _, _, _, _, rfl⟩ := h
  rfl
end W

/-! T18: what a post sees; wires drawn; sums of sets. -/
namespace Z
open PySem PySem.Spec PyProof.Rows L2
end Z
namespace W
open PySem PySem.Spec PyProof.Rows L2 Z
local macro_rules | `(tactic| walk_at "w") => `(tactic| simp only [w_mC, w_mVar, w_m2x, w_m1x, w_mTst, w_mAnd, w_mOr, w_mNot, w_mIf, w_mBl, w_mFr, w_mSh, w_mCons, w_mRd, w_mRv, w_pVar, w_pIx, w_mCh, w_mYes', w_m2N, w_m1N, w_mStar, w_mSeq, w_mSl, w_mPart, x_mLook, x_mUse, x_mMov, x_mItV, x_mut, x_comp,
  s_next, s_seq, s_if, s_ret, s_asg, s_sto, s_own, s_drop, s_setI, s_augI, s_aug, s_bad, s_retN, s_brk, s_cnt, s_par, s_for,
  x_call1, x_call2, x_call3, x_call4, x_call5, x_call1s, x_call2s, x_call2t, x_call3s, x_call3t, x_call3u, x_call1b, x_call2b, x_call3b, x_call4b, x_meth0, x_meth1, x_meth2, x_meth1s, x_mk, mk_ok, cut_map, ls_i, ls_r, ls_p, lst_rs, lst_is,
  f_add, f_sub, f_lt, f_le, f_gt, f_ge, f_mod, f_div, f_mul, f_eq, f_ne, f_neg, b_bl, l_sh, v_pl, o_ow, o_own, a_pl, k_pl, k_ow, u_pl, u_ow, mv_pl, mv_ow, i1_int, par2_ok, wF_some, g_nm, f_tp, g_cons, g_nil, wF_map,
  fr_i, fr_p, fr_rs, fr_b, fr_sh, sl_i, sl_p, sl_rs, sl_b, sl_sh, itv_i, itv_p, itv_rs, sq_i, sq_p, sq_r, is_i, is_p, is_r, il_i, il_p, il_rs, il_b,
  m_app_i, m_app_p, m_app_rs, m_app_b, m_rev_i, m_clr_i, m_rem_i, f_len_i, f_len_p, f_len_r, f_in_i, f_ni_i, f_ix_i, f_ix_p, f_ix_r, f_ix_b, p_fst, p_snd, f_list_i, f_list_t, f_list_r, mk_i, mk_p, mk_r, f_srt_i, f_srt_p, f_rev_i, f_rev_p, f_cat_i, f_cat_r, f_cat_p, f_rep_i, minL_map, maxL_map, sum_map, all_map, any_map, f_int1, f_intB, f_max2, f_min2,
  it_r1, it_r2, f_rg, itL_i, itL_p, itL_r, itL_b, itS_i, itS_r, f_lstM, f_lst0, f_lst1, f_lst2, f_lst3, f_lst4, f_lst5, f_lst6, f_lstr1, f_lstr2, f_eq_i, f_ne_i, f_eq_r, f_ne_r, f_eq_p, f_ne_p, f_eq_bl, f_ne_bl, rd_i, rd_b, rd_p, rd_rs, y_size, y_ties, y_wired, y_near, o_neighbours,
  isi_int, isi_int_bl, isi_tup, isi_lst, isi_lt, sg0, sg1, sg2, sg3, sg4, sg5, sg6, sg7, sg8, sg9, sg10, sg11, sg12, sg13, sg14, sg15, sp0, sp1, sp2, sp3, sp4, sp5, sp6, sp7, sp8, sp9, sp10, sp11, sp12, sp13, sp14, sp15, og_nil, op_nil, restS, wipeS,
  List.getElem?_cons_zero, List.getElem?_cons_succ, List.set_cons_zero, List.set_cons_succ, List.getD_cons_zero, List.getD_cons_succ, List.cons_append, List.nil_append, List.append_nil, List.length_cons, List.length_nil, List.replicate_succ, List.replicate_zero, Nat.reduceSub, Nat.reduceAdd, true_and, and_true])
theorem srt_mem {L : List Int} {x : Int} : x ∈ srtI L ↔ x ∈ L := (srtI_perm L).mem_iff
theorem pos_ext {n m : Nat} {a b : List Int} (ha : PosOk n a) (hb : PosOk m b) (h : ∀ x, x ∈ a ↔ x ∈ b) : a = b :=
  List.Perm.eq_of_pairwise (le := (· < ·)) (fun x y _ _ h1 h2 => by omega) ha.2 hb.2 ((List.perm_ext_iff_of_nodup ha.nd hb.nd).mpr h)
theorem pos_filter {n : Nat} {L : List Int} (h : PosOk n L) (p : Int → Bool) : PosOk n (L.filter p) := ⟨fun v hv => h.1 v (List.mem_filter.mp hv).1, h.2.sublist List.filter_sublist⟩
theorem pos_rng {n : Nat} {size : Int} (hs : size = n) : PosOk n (rng 0 size) := ⟨fun v hv => by have := rng_mem.mp hv; omega, rng_sorted⟩
theorem o_size {size : Int} {ts : List (Int × Int)} {ws : List Int} {nr : List (List Int)} {P : Prop} : wOb "Yard" "size" (yD size ts ws nr) P = P := by
  show ((("Yard" : Str) = "Yard" ∧ yardF.contains "size" = false) ∧ P) = P
  have : yardF.contains "size" = false := by decide
  simp only [this, and_self, true_and]
theorem o_wired {size : Int} {ts : List (Int × Int)} {ws : List Int} {nr : List (List Int)} {P : Prop} : wOb "Yard" "wired" (yD size ts ws nr) P = P := by
  show ((("Yard" : Str) = "Yard" ∧ yardF.contains "wired" = false) ∧ P) = P
  have : yardF.contains "wired" = false := by decide
  simp only [this, and_self, true_and]
section
variable {n : Nat} {A : Int → Int → Prop} {nr : List (List Int)} {size : Int} {ts : List (Int × Int)} {ws up : List Int} {p : Int}
theorem r_size : rO (f_Yard_size [.pl (yD size ts ws nr)]) = some (.sh (.int size)) := by
  refine rO_of ?_
  unfold f_Yard_size
  rw [wO_mk]
  unfold m_Yard_size
  walk_at "w"
theorem r_wired : rO (f_Yard_wired [.pl (yD size ts ws nr)]) = some (iO ws) := by
  refine rO_of ?_
  unfold f_Yard_wired
  rw [wO_mk]
  unfold m_Yard_wired
  walk_at "w"
/-- the sum of two sets -/
def sumL (a b : List Int) : List Int := (srtI (a ++ b)).filter fun x => decide (x ∈ a) != decide (x ∈ b)
theorem sum_mem {a b : List Int} {x : Int} : x ∈ sumL a b ↔ ¬ (x ∈ a ↔ x ∈ b) := by
  unfold sumL
  rw [List.mem_filter, srt_mem, List.mem_append]
  by_cases h1 : x ∈ a <;> by_cases h2 : x ∈ b <;> simp [h1, h2]
theorem sum_nodup {a b : List Int} (ha : a.Nodup) (hb : b.Nodup) : (sumL a b).Nodup := by
  refine List.nodup_iff_count.mpr fun x => ?_
  by_cases hx : x ∈ sumL a b
  · have h := sum_mem.mp hx
    have h1 : List.count x (sumL a b) ≤ List.count x (srtI (a ++ b)) := List.Sublist.count_le x List.filter_sublist
    rw [(srtI_perm (a ++ b)).count_eq, List.count_append] at h1
    have h2 := List.nodup_iff_count.mp ha x
    have h3 := List.nodup_iff_count.mp hb x
    have h4 : x ∉ a → List.count x a = 0 := List.count_eq_zero_of_not_mem
    have h5 : x ∉ b → List.count x b = 0 := List.count_eq_zero_of_not_mem
    by_cases q1 : x ∈ a <;> by_cases q2 : x ∈ b
    · exact absurd (iff_of_true q1 q2) h
    · have := h5 q2; omega
    · have := h4 q1; omega
    · exact absurd (iff_of_false q1 q2) h
  · rw [List.count_eq_zero_of_not_mem hx]
    omega
theorem sum_pos {a b : List Int} (ha : PosOk n a) (hb : PosOk n b) : PosOk n (sumL a b) :=
  ⟨fun v hv => by
    have := sum_mem.mp hv
    by_cases h1 : v ∈ a
    · exact ha.1 v h1
    · by_cases h2 : v ∈ b
      · exact hb.1 v h2
      · exact absurd (iff_of_false h1 h2) this, sorted_lt ((srtI_sorted _).sublist List.filter_sublist) (sum_nodup ha.nd hb.nd)⟩
end
end W

/-! T19: presses, rows. -/
namespace W
open PySem PySem.Spec PyProof.Rows L2 Z
local macro_rules | `(tactic| walk_at "w") => `(tactic| simp only [w_mC, w_mVar, w_m2x, w_m1x, w_mTst, w_mAnd, w_mOr, w_mNot, w_mIf, w_mBl, w_mFr, w_mSh, w_mCons, w_mRd, w_mRv, w_pVar, w_pIx, w_mCh, w_mYes', w_m2N, w_m1N, w_mStar, w_mSeq, w_mSl, w_mPart, x_mLook, x_mUse, x_mMov, x_mItV, x_mut, x_comp,
  s_next, s_seq, s_if, s_ret, s_asg, s_sto, s_own, s_drop, s_setI, s_augI, s_aug, s_bad, s_retN, s_brk, s_cnt, s_par, s_for,
  x_call1, x_call2, x_call3, x_call4, x_call5, x_call1s, x_call2s, x_call2t, x_call3s, x_call3t, x_call3u, x_call1b, x_call2b, x_call3b, x_call4b, x_meth0, x_meth1, x_meth2, x_meth1s, x_set, set_i, set_b, en_i, en_p, en_r, f_tupO2, f_tupO3, f_tup2d, fr_t2, fr_t3, slt_ow, ix_t0, ix_t1, ix_t2, wi_t0, wi_t1, og_t0, og_t1, op_t0, op_t1, f_eq_t2, f_ne_t2, o_size, o_wired, r_size, r_wired, x_mk, mk_ok, cut_map, ls_i, ls_r, ls_p, lst_rs, lst_is,
  f_add, f_sub, f_lt, f_le, f_gt, f_ge, f_mod, f_div, f_mul, f_eq, f_ne, f_neg, b_bl, l_sh, v_pl, o_ow, o_own, a_pl, k_pl, k_ow, u_pl, u_ow, mv_pl, mv_ow, i1_int, par2_ok, wF_some, g_nm, f_tp, g_cons, g_nil, wF_map,
  fr_i, fr_p, fr_rs, fr_b, fr_sh, sl_i, sl_p, sl_rs, sl_b, sl_sh, itv_i, itv_p, itv_rs, sq_i, sq_p, sq_r, is_i, is_p, is_r, il_i, il_p, il_rs, il_b,
  m_app_i, m_app_p, m_app_rs, m_app_b, m_rev_i, m_clr_i, m_rem_i, f_len_i, f_len_p, f_len_r, f_in_i, f_ni_i, f_ix_i, f_ix_p, f_ix_r, f_ix_b, p_fst, p_snd, f_list_i, f_list_t, f_list_r, mk_i, mk_p, mk_r, f_srt_i, f_srt_p, f_rev_i, f_rev_p, f_cat_i, f_cat_r, f_cat_p, f_rep_i, minL_map, maxL_map, sum_map, all_map, any_map, f_int1, f_intB, f_max2, f_min2,
  it_r1, it_r2, f_rg, itL_i, itL_p, itL_r, itL_b, itS_i, itS_r, f_lstM, f_lst0, f_lst1, f_lst2, f_lst3, f_lst4, f_lst5, f_lst6, f_lstr1, f_lstr2, f_eq_i, f_ne_i, f_eq_r, f_ne_r, f_eq_p, f_ne_p, f_eq_bl, f_ne_bl, rd_i, rd_b, rd_p, rd_rs, y_size, y_ties, y_wired, y_near, o_neighbours,
  isi_int, isi_int_bl, isi_tup, isi_lst, isi_lt, sg0, sg1, sg2, sg3, sg4, sg5, sg6, sg7, sg8, sg9, sg10, sg11, sg12, sg13, sg14, sg15, sp0, sp1, sp2, sp3, sp4, sp5, sp6, sp7, sp8, sp9, sp10, sp11, sp12, sp13, sp14, sp15, og_nil, op_nil, restS, wipeS,
  List.getElem?_cons_zero, List.getElem?_cons_succ, List.set_cons_zero, List.set_cons_succ, List.getD_cons_zero, List.getD_cons_succ, List.cons_append, List.nil_append, List.append_nil, List.length_cons, List.length_nil, List.replicate_succ, List.replicate_zero, Nat.reduceSub, Nat.reduceAdd, true_and, and_true])
section
variable {n : Nat} {A : Int → Int → Prop} {nr : List (List Int)} {size : Int} {ts : List (Int × Int)} {ws up : List Int} {p : Int}
/-- flags as truths -/
def bl (size : Int) (up : List Int) : List Bool := (rng 0 size).map fun q => decide (q ∈ up)
end
end W

/-! Y7: sets of ints, is, isinstance of bools. -/
namespace W
open PySem PySem.Spec PyProof.Rows L2 Z
theorem f_setL {ns : List Int} {P : D → Prop} : wF (gSetL (iD ns)) P = (ns.length < 1000 ∧ P (iD ns)) := by
  unfold gSetL
  rw [show lstD (iD ns) = some (ns.map D.int) from rfl, Option.bind_some, intsD_map, Option.bind_some]
  by_cases h : ns.length < 1000
  · rw [decide_eq_true h]
    exact propext ⟨fun z => ⟨h, z⟩, fun z => z.2⟩
  · rw [decide_eq_false h]
    exact propext ⟨fun z => z.elim, fun z => h z.1⟩
theorem f_srtU {a b : List Int} {P : List D → Prop} : wF (dSrtU (iD a) (iD b)) P = ((a.length + b.length ≤ 120 ∧ (unl (a ++ b)).length < 64) ∧ P ((srtI (unl (a ++ b))).map .int)) := by
  unfold dSrtU
  rw [show lstD (iD a) = some (a.map D.int) from rfl, Option.bind_some, intsD_map, Option.bind_some, show lstD (iD b) = some (b.map D.int) from rfl, Option.bind_some, intsD_map, Option.bind_some]
  by_cases h : a.length + b.length ≤ 120 ∧ (unl (a ++ b)).length < 64
  · rw [decide_eq_true h]
    exact propext ⟨fun z => ⟨h, z⟩, fun z => z.2⟩
  · rw [decide_eq_false h]
    exact propext ⟨fun z => z.elim, fun z => h z.1⟩
theorem f_srtS {a : List Int} {P : List D → Prop} : wF (dSrtS (iD a)) P = ((a.length < 1000 ∧ (unl a).length < 64) ∧ P ((srtI (unl a)).map .int)) := by
  unfold dSrtS
  rw [show lstD (iD a) = some (a.map D.int) from rfl, Option.bind_some, intsD_map, Option.bind_some]
  by_cases h : a.length < 1000 ∧ (unl a).length < 64
  · rw [decide_eq_true h]
    exact propext ⟨fun z => ⟨h, z⟩, fun z => z.2⟩
  · rw [decide_eq_false h]
    exact propext ⟨fun z => z.elim, fun z => h z.1⟩
theorem f_is_bl {a b : Bool} {P : D → Prop} : wF (dIs (.bl a) (.bl b)) P = P (.bl (a == b)) := by cases a <;> cases b <;> rfl
theorem f_isn_bl {a b : Bool} {P : D → Prop} : wF (dIsn (.bl a) (.bl b)) P = P (.bl (!(a == b))) := by cases a <;> cases b <;> rfl
theorem isi_bl {b : Bool} {P : D → Prop} : wF (dIsi (isT .bl) noO (.bl b)) P = P (.bl true) := propext Iff.rfl
/-- where they differ -/
def dif (a b : List Int) (p : Int) : Bool := decide (p ∈ a) != decide (p ∈ b)
def addL (a b : List Int) : List Int := (srtI (unl (a ++ b))).filter (dif a b)
theorem pos_uni {n : Nat} {a b : List Int} (ha : PosOk n a) (hb : PosOk n b) : PosOk n (srtI (unl (a ++ b))) := by
  refine ⟨fun v hv => ?_, ?_⟩
  · rw [srt_mem, unl_mem, List.mem_append] at hv
    exact hv.elim (ha.1 v) (hb.1 v)
  · have h1 := srtI_sorted (unl (a ++ b))
    have h2 : (srtI (unl (a ++ b))).Nodup := (srtI_perm _).nodup_iff.mpr unl_nodup
    exact (h1.and h2).imp fun ⟨u, v⟩ => by omega
end W

/-! T20: odd and even; presses along a group's row. -/
namespace W
open PySem PySem.Spec PyProof.Rows L2 Z
/-- odd many pass -/
def xr {α : Type} (f : α → Bool) : List α → Bool
  | [] => false
  | x :: xs => f x != xr f xs
section
variable {α : Type} {f g : α → Bool}
theorem xr_xor {xs : List α} : xr (fun x => f x != g x) xs = (xr f xs != xr g xs) := by
  induction xs with
  | nil => rfl
  | cons x xs ih => simp only [xr, ih]; cases f x <;> cases g x <;> cases xr f xs <;> cases xr g xs <;> rfl
theorem xr_congr {xs : List α} (h : ∀ x ∈ xs, f x = g x) : xr f xs = xr g xs := by
  induction xs with
  | nil => rfl
  | cons x xs ih => simp only [xr, h x List.mem_cons_self, ih fun y hy => h y (List.mem_cons_of_mem _ hy)]
theorem xr_len {xs : List α} : (((xs.filter f).length : Int) % 2) = if xr f xs then 1 else 0 := by
  induction xs with
  | nil => rfl
  | cons x xs ih =>
    unfold xr
    rw [List.filter_cons]
    cases hf : f x with
    | true =>
      simp only [if_true, List.length_cons, Bool.true_bne]
      cases hx : xr f xs <;> rw [hx] at ih <;> simp at ih ⊢ <;> omega
    | false =>
      simp only [Bool.false_eq_true, if_false, Bool.false_bne]
      exact ih
end
theorem xr_one {xs : List Int} (nd : xs.Nodup) (c : Int) : xr (fun x => decide (x = c)) xs = decide (c ∈ xs) := by
  induction xs with
  | nil => rfl
  | cons x xs ih =>
    obtain ⟨h1, h2⟩ := List.nodup_cons.mp nd
    simp only [xr, ih h2]
    by_cases e : x = c
    · subst e
      simp [h1]
    · have : c ≠ x := fun z => e z.symm
      simp [e, this]
/-- lies in -/
def isIn (L : List Int) (x : Int) : Bool := decide (x ∈ L)
section
variable {n : Nat} {A : Int → Int → Prop} {nr : List (List Int)} {ws up G : List Int} {p : Int}
theorem sum_in {a b : List Int} {x : Int} : isIn (sumL a b) x = (isIn a x != isIn b x) := by
  unfold isIn
  have h := sum_mem (a := a) (b := b) (x := x)
  by_cases h1 : x ∈ a <;> by_cases h2 : x ∈ b <;> simp [h, h1, h2]
theorem xr_swap {a b : List Int} (ha : a.Nodup) (hb : b.Nodup) : xr (isIn b) a = xr (isIn a) b := by
  have h1 := xr_len (f := isIn b) (xs := a)
  have h2 := xr_len (f := isIn a) (xs := b)
  have p : (a.filter (isIn b)).Perm (b.filter (isIn a)) := by
    refine (List.perm_ext_iff_of_nodup (ha.sublist List.filter_sublist) (hb.sublist List.filter_sublist)).mpr fun x => ?_
    rw [List.mem_filter, List.mem_filter]
    unfold isIn
    rw [decide_eq_true_eq, decide_eq_true_eq]
    exact And.comm
  rw [p.length_eq, h2] at h1
  cases u : xr (isIn b) a <;> cases v : xr (isIn a) b <;> rw [u, v] at h1 <;> simp at h1 ⊢
end
end W

/-! T21: a position's sign stays. -/
namespace W
open PySem PySem.Spec PyProof.Rows L2 Z
section
variable {n : Nat} {ts : List (Int × Int)} {ws v : List Int} {p : Int}
end
theorem pos_add {n : Nat} {a b : List Int} (ha : PosOk n a) (hb : PosOk n b) : addL a b = sumL a b := by
  refine pos_ext (pos_filter (pos_uni ha hb) _) (sum_pos ha hb) fun x => ?_
  show x ∈ (srtI (unl (a ++ b))).filter (dif a b) ↔ _
  rw [List.mem_filter, srt_mem, unl_mem, List.mem_append, sum_mem]
  unfold dif
  by_cases h1 : x ∈ a <;> by_cases h2 : x ∈ b <;> simp [h1, h2]
theorem o_ties {size : Int} {ts : List (Int × Int)} {ws : List Int} {nr : List (List Int)} {P : Prop} : wOb "Yard" "ties" (yD size ts ws nr) P = P := by
  show ((("Yard" : Str) = "Yard" ∧ yardF.contains "ties" = false) ∧ P) = P
  have : yardF.contains "ties" = false := by decide
  simp only [this, and_self, true_and]
end W

/-! T22: pieces: what hangs together within a set. -/
namespace W
open PySem PySem.Spec PyProof.Rows L2 Z
/-- a way within U -/
inductive Con (A : Int → Int → Prop) (U : List Int) : Int → Int → Prop
  | refl {p : Int} : p ∈ U → Con A U p p
  | step {p q r : Int} : Con A U p q → A q r → r ∈ U → Con A U p r
section
variable {A : Int → Int → Prop} {U K L : List Int} {n : Nat} {p q r : Int}
theorem Con.right (h : Con A U p q) : q ∈ U := by
  cases h with
  | refl h => exact h
  | step _ _ h => exact h
theorem Con.left (h : Con A U p q) : p ∈ U := by
  induction h with
  | refl h => exact h
  | step _ _ _ ih => exact ih
theorem Con.trans (h : Con A U p q) (k : Con A U q r) : Con A U p r := by
  induction k with
  | refl _ => exact h
  | step _ a m ih => exact .step ih a m
theorem Con.symm (sym : ∀ u v, A u v → A v u) (h : Con A U p q) : Con A U q p := by
  induction h with
  | refl m => exact .refl m
  | step h a m ih => exact Con.trans (.step (.refl m) (sym _ _ a) h.right) ih
/-- closed within U -/
def Clo (A : Int → Int → Prop) (U K : List Int) : Prop := ∀ q ∈ K, ∀ r ∈ U, A q r → r ∈ K
theorem Clo.con (c : Clo A U K) (hq : p ∈ K) (h : Con A U p q) : q ∈ K := by
  induction h with
  | refl _ => exact hq
  | step h a m ih => exact c _ ih _ m a
open Classical in
noncomputable def comp (A : Int → Int → Prop) (U : List Int) (p : Int) : List Int := U.filter fun q => decide (Con A U p q)
theorem comp_mem : q ∈ comp A U p ↔ Con A U p q := by
  classical
  unfold comp
  rw [List.mem_filter]
  constructor
  · exact fun h => by simpa using h.2
  · exact fun h => ⟨h.right, by simpa using h⟩
theorem comp_pos (h : PosOk n U) : PosOk n (comp A U p) := by
  unfold comp
  exact pos_filter h _
theorem comp_clo : Clo A U (comp A U p) := fun q hq r hr a => comp_mem.mpr (.step (comp_mem.mp hq) a hr)
/-- one post more: its piece, if it is in none yet -/
noncomputable def pcStep (A : Int → Int → Prop) (U : List Int) (s : List (List Int) × List Int) (p : Int) : List (List Int) × List Int :=
  if p ∈ s.2 then s else (s.1 ++ [comp A U p], s.2 ++ comp A U p)
noncomputable def pcGo (A : Int → Int → Prop) (U ps : List Int) (s : List (List Int) × List Int) : List (List Int) × List Int := ps.foldl (pcStep A U) s
/-- the pieces -/
noncomputable def pcs (A : Int → Int → Prop) (U : List Int) : List (List Int) := (pcGo A U U ([], [])).1
theorem go_skip : ∀ {ps : List Int} {s : List (List Int) × List Int}, (∀ p ∈ ps, p ∈ s.2) → pcGo A U ps s = s
  | [], s, _ => rfl
  | p :: ps, s, h => by
    unfold pcGo
    rw [List.foldl_cons]
    have e : pcStep A U s p = s := if_pos (h p List.mem_cons_self)
    rw [e]
    exact go_skip (ps := ps) fun q hq => h q (List.mem_cons_of_mem _ hq)
theorem go_app {ps qs : List Int} {s : List (List Int) × List Int} : pcGo A U (ps ++ qs) s = pcGo A U qs (pcGo A U ps s) := List.foldl_append
/-- what is known so far -/
structure PcOk (n : Nat) (A : Int → Int → Prop) (U : List Int) (s : List (List Int) × List Int) : Prop where
  sub : ∀ q ∈ s.2, q ∈ U
  clo : Clo A U s.2
  nd : s.2.Nodup
  pos : ∀ L ∈ s.1, PosOk n L
  len : s.1.length ≤ s.2.length
theorem PcOk.nil : PcOk n A U ([], []) := ⟨(fun _ h => nomatch h), (fun _ h => nomatch h), List.nodup_nil, (fun _ h => nomatch h), Nat.le_refl _⟩
theorem PcOk.out (sym : ∀ u v, A u v → A v u) {s : List (List Int) × List Int} (h : PcOk n A U s) (hp : p ∉ s.2) (k : Con A U p q) : q ∉ s.2 := fun z => hp (h.clo.con z (k.symm sym))
theorem PcOk.step (sym : ∀ u v, A u v → A v u) (hU : PosOk n U) {s : List (List Int) × List Int} (h : PcOk n A U s) (hp : p ∈ U) : PcOk n A U (pcStep A U s p) := by
  unfold pcStep
  split
  · exact h
  · rename_i hk
    refine ⟨fun q hq => ?_, fun q hq r hr a => ?_, ?_, fun L hL => ?_, ?_⟩
    · rcases List.mem_append.mp hq with z | z
      · exact h.sub q z
      · exact (comp_mem.mp z).right
    · rcases List.mem_append.mp hq with z | z
      · exact List.mem_append_left _ (h.clo q z r hr a)
      · exact List.mem_append_right _ (comp_clo q z r hr a)
    · refine List.nodup_append.mpr ⟨h.nd, (comp_pos hU).nd, fun x hx y hy e => ?_⟩
      subst e
      exact h.out sym hk (comp_mem.mp hy) hx
    · rcases List.mem_append.mp hL with z | z
      · exact h.pos L z
      · simp only [List.mem_cons, List.not_mem_nil, or_false] at z
        rw [z]
        exact comp_pos hU
    · have : 0 < (comp A U p).length := List.length_pos_of_mem (comp_mem.mpr (Con.refl hp))
      have := h.len
      simp only [List.length_append, List.length_cons, List.length_nil]
      omega
theorem PcOk.go (sym : ∀ u v, A u v → A v u) (hU : PosOk n U) : ∀ {ps : List Int} {s : List (List Int) × List Int}, PcOk n A U s → (∀ p ∈ ps, p ∈ U) → PcOk n A U (pcGo A U ps s)
  | [], s, h, _ => h
  | p :: ps, s, h, hs => PcOk.go sym hU (ps := ps) (h.step sym hU (hs p List.mem_cons_self)) fun q hq => hs q (List.mem_cons_of_mem _ hq)
end
/-! their number -/
section
variable {n : Nat} {A : Int → Int → Prop} (T : RT n A) {U : List Int} {p q r : Int}
end
/-! the ties within a set -/
section
variable {n : Nat} {ts : List (Int × Int)} (T : RT n (Adj ts)) {U : List Int}
end
end W

/-! Y8: dicts with ints as keys; rows shown. -/
namespace W
open PySem PySem.Spec PyProof.Rows L2 Z
def dicO (L : List Int) (f : Int → D) : O := .dic (L.map .inl) (L.map fun x => .sh (f x))
def dicD (L : List Int) (f : Int → D) : D := .dic (L.map .inl) (L.map f)
theorem fr_dic {L : List Int} {f : Int → D} : fr (dicO L f) = dicD L f := by
  show D.dic (L.map .inl) (frL (L.map fun x => .sh (f x))) = _
  rw [frL_mapsh f L]
  rfl
theorem dic_nil : O.dic [] [] = dicO [] (fun _ => .non) := rfl
theorem sl_dic {L : List Int} {f : Int → D} : slOf (dicO L f) = .ow (dicO L f) := rfl
theorem inK_i {L : List Int} {x : Int} : inK (L.map Sum.inl) (Sum.inl x : Key) = decide (x ∈ L) := by
  induction L with
  | nil => rfl
  | cons y L ih =>
    have e : inK ((y :: L).map Sum.inl) (Sum.inl x : Key) = (decide ((Sum.inl y : Key) = Sum.inl x) || inK (L.map Sum.inl) (Sum.inl x)) := rfl
    rw [e, ih]
    by_cases h : y = x
    · subst h
      simp
    · have h' : ¬ x = y := fun z => h z.symm
      have h2 : ¬ (Sum.inl y : Key) = Sum.inl x := fun z => h (Sum.inl.inj z)
      simp [h', h2]
theorem atK_i {α : Type} {f : Int → α} {x : Int} : ∀ {L : List Int}, atK (L.map Sum.inl) (L.map f) (Sum.inl x : Key) = if x ∈ L then some (f x) else none
  | [] => rfl
  | y :: L => by
    have e : atK ((y :: L).map Sum.inl) ((y :: L).map f) (Sum.inl x : Key) = if (Sum.inl y : Key) = Sum.inl x then some (f y) else atK (L.map Sum.inl) (L.map f) (Sum.inl x) := rfl
    rw [e, atK_i (L := L)]
    by_cases h : y = x
    · subst h
      simp
    · have h' : ¬ x = y := fun z => h z.symm
      have h2 : ¬ (Sum.inl y : Key) = Sum.inl x := fun z => h (Sum.inl.inj z)
      simp [h', h2]
section
variable {S : List Sl} {k : Ks} {L : List Int} {f : Int → D} {x : Int} {i : Nat} {d : D}
theorem f_din {P : D → Prop} : wF (dDIn (.int x) (dicD L f)) P = P (.bl (decide (x ∈ L))) := by
  show wF (((some (Sum.inl x : Key)).map fun k => inK (L.map .inl) k).map D.bl) P = _
  rw [Option.map_some, Option.map_some, inK_i]
  rfl
theorem f_dni {P : D → Prop} : wF (dDNi (.int x) (dicD L f)) P = P (.bl (!decide (x ∈ L))) := by
  show wF (((some (Sum.inl x : Key)).map fun k => inK (L.map .inl) k).map fun b => D.bl (!b)) P = _
  rw [Option.map_some, Option.map_some, inK_i]
  rfl
theorem f_dix {P : D → Prop} : wF (dDIx (dicD L f) (.int x)) P = (x ∈ L ∧ P (f x)) := by
  show wF (atK (L.map .inl) (L.map f) (Sum.inl x : Key)) P = _
  rw [atK_i]
  by_cases h : x ∈ L
  · rw [if_pos h]
    exact propext ⟨fun z => ⟨h, z⟩, fun z => z.2⟩
  · rw [if_neg h]
    exact propext ⟨fun z => z.elim, fun z => h z.1⟩
theorem f_dic1 {P : O → Prop} : wF (dDic1 (.int x) d) P = P (dicO [x] fun _ => d) := propext Iff.rfl
def wRdD (o : Option O) (y : D) (P : D → Prop) : Prop := match o, keyD y with
  | some (.dic ks os), some k => match atK ks os k with
    | some (.sh d) => P d
    | _ => False
  | _, _ => False
theorem x_rdD {mp : M (List Stp)} {mi : M D} {Q : D → List Sl → Prop} : wM (mRdD i mp mi) S Q = wM mp S fun p S1 => wM mi S1 fun y S2 => wRdD (sget S2 i p) y fun d => Q d S2 := by
  unfold wM mRdD
  simp only [wO_bd]
  congr
  funext p S1
  congr
  funext y S2
  unfold wRdD
  cases sget S2 i p with
  | none => cases keyD y <;> rfl
  | some o =>
    cases o with
    | dic ks os =>
      cases keyD y with
      | none => rfl
      | some k =>
        simp only
        cases atK ks os k with
        | none => rfl
        | some o => cases o <;> rfl
    | _ => cases keyD y <;> rfl
theorem rd_dic {P : D → Prop} : wRdD (some (dicO L f)) (.int x) P = (x ∈ L ∧ P (f x)) := by
  show (match atK (L.map .inl) (L.map fun x => O.sh (f x)) (Sum.inl x : Key) with
    | some (.sh d) => P d
    | _ => False) = _
  rw [atK_i (f := fun x => O.sh (f x))]
  by_cases h : x ∈ L
  · rw [if_pos h]
    exact propext ⟨fun z => ⟨h, z⟩, fun z => z.2⟩
  · rw [if_neg h]
    exact propext ⟨fun z => z.elim, fun z => h z.1⟩
def wSetK (o : Option O) (y d : D) (P : O → Prop) : Prop := match o, keyD y with
  | some (.dic ks os), some k => ks.length < 16777216 ∧ P (putD ks os k d)
  | _, _ => False
theorem s_setD {me : M D} {mp : M (List Stp)} {mi : M D} : wS (sSetD i me mp mi) S k = wM me S fun d S1 => wM mp S1 fun p S2 => wM mi S2 fun y S3 => wSetK (sget S3 i p) y d fun o => k.n (sput S3 i p o) := by
  unfold wS wM sSetD
  simp only [wOS_sd]
  congr
  funext d S1
  congr
  funext p S2
  congr
  funext y S3
  unfold setK wSetK
  cases sget S3 i p with
  | none => cases keyD y <;> rfl
  | some o =>
    cases o with
    | dic ks os =>
      cases keyD y with
      | none => rfl
      | some k' =>
        simp only
        by_cases h : ks.length < 16777216
        · rw [decide_eq_true h]
          exact propext ⟨fun z => ⟨h, z⟩, fun z => z.2⟩
        · rw [decide_eq_false h]
          exact propext ⟨fun z => z.elim, fun z => h z.1⟩
    | _ => cases keyD y <;> rfl
def upF (f : Int → D) (x : Int) (d : D) : Int → D := fun y => if y = x then d else f y
theorem set_dic {P : O → Prop} : wSetK (some (dicO L f)) (.int x) d P = (L.length < 16777216 ∧ P (dicO (if x ∈ L then L else L ++ [x]) (upF f x d))) := by
  show ((L.map Sum.inl).length < 16777216 ∧ P (putD (L.map .inl) (L.map fun x => O.sh (f x)) (Sum.inl x : Key) d)) = _
  rw [List.length_map]
  congr 2
  unfold putD
  rw [inK_i]
  by_cases h : x ∈ L
  · rw [decide_eq_true h, if_pos h]
    show O.dic _ _ = O.dic _ _
    congr 1
    clear h
    induction L with
    | nil => rfl
    | cons y L ih =>
      rw [List.map_cons, List.map_cons, List.zipWith_cons_cons, List.map_cons, ih]
      congr 1
      unfold upF
      by_cases e : y = x
      · rw [if_pos e, if_pos (by rw [e])]
      · rw [if_neg e, if_neg fun z => e (Sum.inl.inj z)]
  · rw [decide_eq_false h, if_neg h]
    show O.dic _ _ = O.dic _ _
    congr 1
    · rw [List.map_append]
      rfl
    · rw [List.map_append]
      congr 1
      · refine List.map_congr_left fun y hy => ?_
        unfold upF
        rw [if_neg fun e : y = x => h (e ▸ hy)]
      · show [O.sh d] = [O.sh (upF f x d x)]
        unfold upF
        rw [if_pos rfl]
/-- all the same -/
theorem upF_const {d : D} {x : Int} : upF (fun _ => d) x d = fun _ => d := by
  funext y
  unfold upF
  split <;> rfl
end
/-! rows shown -/
end W

/-! Y9: the walk's rules, all. -/
namespace W
open PySem PySem.Spec PyProof.Rows L2 Z
section
variable {size : Int} {ts : List (Int × Int)} {ws : List Int} {nr : List (List Int)}
theorem r_ties : rO (f_Yard_ties [.pl (yD size ts ws nr)]) = some (pO ts) := by
  refine rO_of ?_
  unfold f_Yard_ties
  rw [wO_mk]
  unfold m_Yard_ties
  rw [s_ret, w_m1x]
  simp only [w_mCons, w_m1x, w_mVar, w_mC, v_pl, y_ties, f_list_t, List.cons_append, List.getElem?_cons_zero]
end
end W

/-! T23: pieces, by the program and by the law. -/
namespace W
open PySem PySem.Spec PyProof.Rows L2 Z
local macro_rules | `(tactic| walk_at "w") => `(tactic| simp only [↓len_r1i, ↓len_r1p, ↓len_r1r, w_mC, w_mVar, w_m2x, w_m1x, w_mTst, w_mAnd, w_mOr, w_mNot, w_mIf, w_mBl, w_mFr, w_mSh, w_mCons, w_mRd, w_mRv, w_pVar, w_pIx, w_mCh, w_mYes', w_m2N, w_m1N, w_mStar, w_mSeq, w_mSl, w_mPart, x_mLook, x_mUse, x_mMov, x_mItV, x_mut, x_comp,
  s_next, s_seq, s_if, s_ret, s_asg, s_sto, s_own, s_drop, s_setI, s_augI, s_aug, s_bad, s_retN, s_brk, s_cnt, s_par, s_for,
  x_call1, x_call2, x_call3, x_call4, x_call5, x_call1s, x_call2s, x_call2t, x_call3s, x_call3t, x_call3u, x_call1b, x_call2b, x_call3b, x_call4b, x_meth0, x_meth1, x_meth2, x_meth1s, x_set, set_i, set_b, en_i, en_p, en_r, f_tupO2, f_tupO3, f_tup2d, fr_t2, fr_t3, slt_ow, ix_t0, ix_t1, ix_t2, wi_t0, wi_t1, og_t0, og_t1, op_t0, op_t1, f_eq_t2, f_ne_t2, o_size, o_wired, r_size, r_wired, x_mk, mk_ok, cut_map, ls_i, ls_r, ls_p, lst_rs, lst_is,
  f_add, f_sub, f_lt, f_le, f_gt, f_ge, f_mod, f_div, f_mul, f_eq, f_ne, f_neg, b_bl, l_sh, v_pl, o_ow, o_own, a_pl, k_pl, k_ow, u_pl, u_ow, mv_pl, mv_ow, i1_int, par2_ok, wF_some, g_nm, f_tp, g_cons, g_nil, wF_map,
  fr_i, fr_p, fr_rs, fr_b, fr_sh, sl_i, sl_p, sl_rs, sl_b, sl_sh, itv_i, itv_p, itv_rs, sq_i, sq_p, sq_r, is_i, is_p, is_r, il_i, il_p, il_rs, il_b,
  m_app_i, m_app_p, m_app_rs, m_app_b, m_rev_i, m_clr_i, m_rem_i, f_len_i, f_len_p, f_len_r, f_in_i, f_ni_i, f_ix_i, f_ix_p, f_ix_r, f_ix_b, p_fst, p_snd, f_list_i, f_list_t, f_list_r, mk_i, mk_p, mk_r, f_srt_i, f_srt_p, f_rev_i, f_rev_p, f_cat_i, f_cat_r, f_cat_p, f_rep_i, minL_map, maxL_map, sum_map, all_map, any_map, f_int1, f_intB, f_max2, f_min2,
  it_r1, it_r2, f_rg, itL_i, itL_p, itL_r, itL_b, itS_i, itS_r, f_lstM, f_lst0, f_lst1, f_lst2, f_lst3, f_lst4, f_lst5, f_lst6, f_lstr1, f_lstr2, f_eq_i, f_ne_i, f_eq_r, f_ne_r, f_eq_p, f_ne_p, f_eq_bl, f_ne_bl, rd_i, rd_b, rd_p, rd_rs, y_size, y_ties, y_wired, y_near, o_neighbours,
  isi_int, f_setL, f_srtU, f_srtS, f_is_bl, f_isn_bl, isi_bl, fr_dic, dic_nil, sl_dic, f_din, f_dni, f_dix, f_dic1, x_rdD, rd_dic, s_setD, set_dic, upF_const, o_ties, r_ties, isi_int_bl, isi_tup, isi_lst, isi_lt, sgx, spx, sgo, spo, og_nil, op_nil, restS, wipeS,
  List.getElem?_cons_zero, List.getElem?_cons_succ, List.set_cons_zero, List.set_cons_succ, List.getD_cons_zero, List.getD_cons_succ, List.cons_append, List.nil_append, List.append_nil, List.length_cons, List.length_nil, List.replicate_succ, List.replicate_zero, Nat.reduceSub, Nat.reduceAdd, true_and, and_true])
local macro_rules | `(tactic| walk_at "v") => `(tactic| simp only [↓len_r1i, ↓len_r1p, ↓len_r1r, w_mC, w_mVar, w_m2x, w_m1x, w_mTst, w_mAnd, w_mOr, w_mNot, w_mIf, w_mBl, w_mFr, w_mSh, w_mCons, w_mRd, w_mRv, w_pVar, w_pIx, w_mCh, w_mYes', w_m2N, w_m1N, w_mStar, w_mSeq, w_mSl, w_mPart, x_mLook, x_mUse, x_mMov, x_mItV, x_mut, x_comp,
  s_next, q_seq, kq_n, kq_r, kq_b, kq_c, s_ret, s_asg, s_sto, s_own, s_drop, s_setI, s_augI, s_aug, s_bad, s_retN, s_brk, s_cnt, s_par, s_for,
  x_call1, x_call2, x_call3, x_call4, x_call5, x_call1s, x_call2s, x_call2t, x_call3s, x_call3t, x_call3u, x_call1b, x_call2b, x_call3b, x_call4b, x_meth0, x_meth1, x_meth2, x_meth1s, x_set, set_i, set_b, en_i, en_p, en_r, f_tupO2, f_tupO3, f_tup2d, fr_t2, fr_t3, slt_ow, ix_t0, ix_t1, ix_t2, wi_t0, wi_t1, og_t0, og_t1, op_t0, op_t1, f_eq_t2, f_ne_t2, o_size, o_wired, r_size, r_wired, x_mk, mk_ok, cut_map, ls_i, ls_r, ls_p, lst_rs, lst_is,
  f_add, f_sub, f_lt, f_le, f_gt, f_ge, f_mod, f_div, f_mul, f_eq, f_ne, f_neg, b_bl, l_sh, v_pl, o_ow, o_own, a_pl, k_pl, k_ow, u_pl, u_ow, mv_pl, mv_ow, i1_int, par2_ok, wF_some, g_nm, f_tp, g_cons, g_nil, wF_map,
  fr_i, fr_p, fr_rs, fr_b, fr_sh, sl_i, sl_p, sl_rs, sl_b, sl_sh, itv_i, itv_p, itv_rs, sq_i, sq_p, sq_r, is_i, is_p, is_r, il_i, il_p, il_rs, il_b,
  m_app_i, m_app_p, m_app_rs, m_app_b, m_rev_i, m_clr_i, m_rem_i, f_len_i, f_len_p, f_len_r, f_in_i, f_ni_i, f_ix_i, f_ix_p, f_ix_r, f_ix_b, p_fst, p_snd, f_list_i, f_list_t, f_list_r, mk_i, mk_p, mk_r, f_srt_i, f_srt_p, f_rev_i, f_rev_p, f_cat_i, f_cat_r, f_cat_p, f_rep_i, minL_map, maxL_map, sum_map, all_map, any_map, f_int1, f_intB, f_max2, f_min2,
  it_r1, it_r2, f_rg, itL_i, itL_p, itL_r, itL_b, itS_i, itS_r, f_lstM, f_lst0, f_lst1, f_lst2, f_lst3, f_lst4, f_lst5, f_lst6, f_lstr1, f_lstr2, f_eq_i, f_ne_i, f_eq_r, f_ne_r, f_eq_p, f_ne_p, f_eq_bl, f_ne_bl, rd_i, rd_b, rd_p, rd_rs, y_size, y_ties, y_wired, y_near, o_neighbours,
  isi_int, f_setL, f_srtU, f_srtS, f_is_bl, f_isn_bl, isi_bl, fr_dic, dic_nil, sl_dic, f_din, f_dni, f_dix, f_dic1, x_rdD, rd_dic, s_setD, set_dic, upF_const, o_ties, r_ties, isi_int_bl, isi_tup, isi_lst, isi_lt, sgx, spx, sgo, spo, og_nil, op_nil, restS, wipeS,
  List.getElem?_cons_zero, List.getElem?_cons_succ, List.set_cons_zero, List.set_cons_succ, List.getD_cons_zero, List.getD_cons_succ, List.cons_append, List.nil_append, List.append_nil, List.length_cons, List.length_nil, List.replicate_succ, List.replicate_zero, Nat.reduceSub, Nat.reduceAdd, true_and, and_true])
/-- own rows in an own list -/
def osO (nr : List (List Int)) : O := .lst (nr.map iO)
theorem fr_os {nr : List (List Int)} : fr (osO nr) = rD nr := by
  show D.lst (frL (nr.map iO)) = .lst (nr.map iD)
  congr 1
  induction nr with
  | nil => rfl
  | cons r nr ih =>
    show fr (iO r) :: frL (nr.map iO) = _
    rw [ih, fr_i]
    rfl
theorem il_os {nr : List (List Int)} : isLstO (some (osO nr)) = true := rfl
theorem sl_os {nr : List (List Int)} : slOf (osO nr) = .ow (osO nr) := rfl
theorem m_app_os {nr : List (List Int)} {r : List Int} {P : D → O → Prop} : wMutO fApp (some (osO nr)) [iO r] P = (nr.length < 16777216 ∧ P .non (osO (nr ++ [r]))) := app_map (f := iO)
section
variable {n : Nat} {A : Int → Int → Prop} {nr : List (List Int)} {size : Int} {ts : List (Int × Int)} {ws up U : List Int} {p : Int}
/-- growing: the piece so far, and what comes next -/
structure GrI (A : Int → Int → Prop) (U left : List Int) (p : Int) (piece more : List Int) : Prop where
  nd : (piece ++ more).Nodup
  sub : ∀ q ∈ piece ++ more, q ∈ left
  con : ∀ q ∈ piece ++ more, Con A U p q
  top : p ∈ piece ++ more
  clo : ∀ q ∈ piece, ∀ r ∈ left, A q r → r ∈ piece ++ more
def moreOf (nr : List (List Int)) (left piece : List Int) : List Int := left.filter fun q => !decide (q ∈ piece) && !decide ((nb nr q).filter (fun r => decide (r ∈ piece)) = [])
theorem GrI.next (hn : NearOk n A nr) (sym : ∀ u v, A u v → A v u) (hU : PosOk n U) {left piece more : List Int} (hl : ∀ q ∈ left, q ∈ U) (nl : left.Nodup) (h : GrI A U left p piece more) : GrI A U left p (piece ++ more) (moreOf nr left (piece ++ more)) := by
  have hm : ∀ q, q ∈ moreOf nr left (piece ++ more) ↔ q ∈ left ∧ q ∉ piece ++ more ∧ ∃ r ∈ piece ++ more, A q r := fun q => by
    unfold moreOf
    rw [List.mem_filter]
    constructor
    · rintro ⟨h1, h2⟩
      rw [Bool.and_eq_true, Bool.not_eq_true', Bool.not_eq_true', decide_eq_false_iff_not, decide_eq_false_iff_not] at h2
      refine ⟨h1, h2.1, ?_⟩
      obtain ⟨r, hr⟩ := List.exists_mem_of_ne_nil _ h2.2
      obtain ⟨h3, h4⟩ := List.mem_filter.mp hr
      have hq := hU.1 q (hl q h1)
      exact ⟨r, of_decide_eq_true h4, (hn.mem q hq.1 hq.2 r).mp h3⟩
    · rintro ⟨h1, h2, r, h3, h4⟩
      refine ⟨h1, ?_⟩
      rw [Bool.and_eq_true, Bool.not_eq_true', Bool.not_eq_true', decide_eq_false_iff_not, decide_eq_false_iff_not]
      refine ⟨h2, fun z => ?_⟩
      have hq := hU.1 q (hl q h1)
      have : r ∈ (nb nr q).filter (fun r => decide (r ∈ piece ++ more)) := List.mem_filter.mpr ⟨(hn.mem q hq.1 hq.2 r).mpr h4, decide_eq_true h3⟩
      rw [z] at this
      cases this
  refine ⟨?_, fun q hq => ?_, fun q hq => ?_, List.mem_append_left _ h.top, fun q hq r hr a => ?_⟩
  · refine List.nodup_append.mpr ⟨h.nd, nl.sublist List.filter_sublist, fun x hx y hy e => ?_⟩
    subst e
    exact ((hm _).mp hy).2.1 hx
  · rcases List.mem_append.mp hq with z | z
    · exact h.sub q z
    · exact ((hm q).mp z).1
  · rcases List.mem_append.mp hq with z | z
    · exact h.con q z
    · obtain ⟨h1, _, r, h3, h4⟩ := (hm q).mp z
      exact .step (h.con r h3) (sym _ _ h4) (hl q h1)
  · by_cases c : r ∈ piece ++ more
    · exact List.mem_append_left _ c
    · exact List.mem_append_right _ ((hm r).mpr ⟨hr, c, q, hq, sym _ _ a⟩)
/-- the rest, and that all comes to the pieces -/
structure LfI (n : Nat) (A : Int → Int → Prop) (U left : List Int) (s : List (List Int) × List Int) : Prop where
  ok : PcOk n A U s
  left : left = U.filter fun q => !decide (q ∈ s.2)
  all : pcGo A U U s = pcGo A U U ([], [])
theorem LfI.mem {left : List Int} {s : List (List Int) × List Int} (h : LfI n A U left s) {q : Int} : q ∈ left ↔ q ∈ U ∧ q ∉ s.2 := by
  rw [h.left, List.mem_filter, Bool.not_eq_true', decide_eq_false_iff_not]
theorem LfI.stop {s : List (List Int) × List Int} (h : LfI n A U [] s) : s.1 = pcs A U := by
  unfold pcs
  rw [← h.all, go_skip fun p hp => ?_]
  exact Classical.byContradiction fun z => absurd (h.mem.mpr ⟨hp, z⟩) (by simp)
theorem LfI.next (sym : ∀ u v, A u v → A v u) (hU : PosOk n U) {left : List Int} {s : List (List Int) × List Int} (h : LfI n A U left s) (hne : left ≠ []) (hp : p = left.headD 0) : LfI n A U (left.filter fun q => !decide (q ∈ comp A U p)) (s.1 ++ [comp A U p], s.2 ++ comp A U p) := by
  have hm : p ∈ left := hp ▸ head_mem hne
  obtain ⟨hpU, hpk⟩ := h.mem.mp hm
  have e1 : pcStep A U s p = (s.1 ++ [comp A U p], s.2 ++ comp A U p) := if_neg hpk
  refine ⟨e1 ▸ h.ok.step sym hU hpU, ?_, ?_⟩
  · rw [h.left, List.filter_filter]
    refine List.filter_congr fun q hq => ?_
    show (!decide (q ∈ comp A U p) && !decide (q ∈ s.2)) = !decide (q ∈ s.2 ++ comp A U p)
    by_cases a : q ∈ s.2 <;> by_cases b : q ∈ comp A U p <;> simp [a, b]
  · rw [← h.all]
    -- U = pre ++ p :: post
    obtain ⟨pre, post, eU⟩ := List.append_of_mem hpU
    have hpre : ∀ q ∈ pre, q ∈ s.2 := fun q hq => Classical.byContradiction fun z => by
      have hqU : q ∈ U := eU ▸ List.mem_append_left _ hq
      have hql : q ∈ left := h.mem.mpr ⟨hqU, z⟩
      have hlt : q < p := by
        have := hU.2
        rw [eU] at this
        exact (List.pairwise_append.mp this).2.2 q hq p List.mem_cons_self
      have hle : p ≤ q := by
        have hl : left.Pairwise (· < ·) := by
          rw [h.left]
          exact hU.2.sublist List.filter_sublist
        cases left with
        | nil => exact absurd rfl hne
        | cons x r =>
          have hx : p = x := hp
          rcases List.mem_cons.mp hql with e | e
          · omega
          · have := (List.pairwise_cons.mp hl).1 q e
            omega
      omega
    have k : ∀ s' : List (List Int) × List Int, (∀ q ∈ pre, q ∈ s'.2) → pcGo A U U s' = pcGo A U post (pcStep A U s' p) := fun s' hs' => by
      have : pcGo A U U s' = pcGo A U (pre ++ p :: post) s' := by rw [← eU]
      rw [this, go_app, go_skip hs']
      rfl
    rw [k s hpre, k _ fun q hq => List.mem_append_left _ (hpre q hq), e1]
    congr 1
    exact if_pos (List.mem_append_right _ (comp_mem.mpr (.refl hpU)))
/-- the search: the piece so far, the known ones -/
structure BfI (A : Int → Int → Prop) (U : List Int) (s : List (List Int) × List Int) (p : Int) (piece K : List Int) (at_ : Nat) : Prop where
  nd : piece.Nodup
  con : ∀ q ∈ piece, Con A U p q
  top : p ∈ piece
  kn : ∀ q, q ∈ K ↔ q ∈ s.2 ∨ q ∈ piece
  knd : K.Nodup
  le : at_ ≤ piece.length
  clo : ∀ (j : Nat) (q : Int), j < at_ → piece[j]? = some q → ∀ r ∈ U, A q r → r ∈ piece
end
end W

/-! T24: yards rewired. -/
namespace W
open PySem PySem.Spec PyProof.Rows L2 Z
local macro_rules | `(tactic| walk_at "w") => `(tactic| simp only [↓len_r1i, ↓len_r1p, ↓len_r1r, w_mC, w_mVar, w_m2x, w_m1x, w_mTst, w_mAnd, w_mOr, w_mNot, w_mIf, w_mBl, w_mFr, w_mSh, w_mCons, w_mRd, w_mRv, w_pVar, w_pIx, w_mCh, w_mYes', w_m2N, w_m1N, w_mStar, w_mSeq, w_mSl, w_mPart, x_mLook, x_mUse, x_mMov, x_mItV, x_mut, x_comp,
  s_next, s_seq, s_if, s_ret, s_asg, s_sto, s_own, s_drop, s_setI, s_augI, s_aug, s_bad, s_retN, s_brk, s_cnt, s_par, s_for,
  x_call1, x_call2, x_call3, x_call4, x_call5, x_call1s, x_call2s, x_call2t, x_call3s, x_call3t, x_call3u, x_call1b, x_call2b, x_call3b, x_call4b, x_meth0, x_meth1, x_meth2, x_meth1s, x_set, set_i, set_b, en_i, en_p, en_r, f_tupO2, f_tupO3, f_tup2d, fr_t2, fr_t3, slt_ow, ix_t0, ix_t1, ix_t2, wi_t0, wi_t1, og_t0, og_t1, op_t0, op_t1, f_eq_t2, f_ne_t2, o_size, o_wired, r_size, r_wired, x_mk, mk_ok, cut_map, ls_i, ls_r, ls_p, lst_rs, lst_is,
  f_add, f_sub, f_lt, f_le, f_gt, f_ge, f_mod, f_div, f_mul, f_eq, f_ne, f_neg, b_bl, l_sh, v_pl, o_ow, o_own, a_pl, k_pl, k_ow, u_pl, u_ow, mv_pl, mv_ow, i1_int, par2_ok, wF_some, g_nm, f_tp, g_cons, g_nil, wF_map,
  fr_i, fr_p, fr_rs, fr_b, fr_sh, sl_i, sl_p, sl_rs, sl_b, sl_sh, itv_i, itv_p, itv_rs, sq_i, sq_p, sq_r, is_i, is_p, is_r, il_i, il_p, il_rs, il_b,
  m_app_i, m_app_p, m_app_rs, m_app_b, m_rev_i, m_clr_i, m_rem_i, f_len_i, f_len_p, f_len_r, f_in_i, f_ni_i, f_ix_i, f_ix_p, f_ix_r, f_ix_b, p_fst, p_snd, f_list_i, f_list_t, f_list_r, mk_i, mk_p, mk_r, f_srt_i, f_srt_p, f_rev_i, f_rev_p, f_cat_i, f_cat_r, f_cat_p, f_rep_i, minL_map, maxL_map, sum_map, all_map, any_map, f_int1, f_intB, f_max2, f_min2,
  it_r1, it_r2, f_rg, itL_i, itL_p, itL_r, itL_b, itS_i, itS_r, f_lstM, f_lst0, f_lst1, f_lst2, f_lst3, f_lst4, f_lst5, f_lst6, f_lstr1, f_lstr2, f_eq_i, f_ne_i, f_eq_r, f_ne_r, f_eq_p, f_ne_p, f_eq_bl, f_ne_bl, rd_i, rd_b, rd_p, rd_rs, y_size, y_ties, y_wired, y_near, o_neighbours,
  isi_int, f_setL, f_srtU, f_srtS, f_is_bl, f_isn_bl, isi_bl, fr_dic, dic_nil, sl_dic, f_din, f_dni, f_dix, f_dic1, x_rdD, rd_dic, s_setD, set_dic, upF_const, o_ties, r_ties, isi_int_bl, isi_tup, isi_lst, isi_lt, sgx, spx, sgo, spo, og_nil, op_nil, restS, wipeS,
  List.getElem?_cons_zero, List.getElem?_cons_succ, List.set_cons_zero, List.set_cons_succ, List.getD_cons_zero, List.getD_cons_succ, List.cons_append, List.nil_append, List.append_nil, List.length_cons, List.length_nil, List.replicate_succ, List.replicate_zero, Nat.reduceSub, Nat.reduceAdd, true_and, and_true])
local macro_rules | `(tactic| walk_at "v") => `(tactic| simp only [↓len_r1i, ↓len_r1p, ↓len_r1r, w_mC, w_mVar, w_m2x, w_m1x, w_mTst, w_mAnd, w_mOr, w_mNot, w_mIf, w_mBl, w_mFr, w_mSh, w_mCons, w_mRd, w_mRv, w_pVar, w_pIx, w_mCh, w_mYes', w_m2N, w_m1N, w_mStar, w_mSeq, w_mSl, w_mPart, x_mLook, x_mUse, x_mMov, x_mItV, x_mut, x_comp,
  s_next, q_seq, kq_n, kq_r, kq_b, kq_c, s_ret, s_asg, s_sto, s_own, s_drop, s_setI, s_augI, s_aug, s_bad, s_retN, s_brk, s_cnt, s_par, s_for,
  x_call1, x_call2, x_call3, x_call4, x_call5, x_call1s, x_call2s, x_call2t, x_call3s, x_call3t, x_call3u, x_call1b, x_call2b, x_call3b, x_call4b, x_meth0, x_meth1, x_meth2, x_meth1s, x_set, set_i, set_b, en_i, en_p, en_r, f_tupO2, f_tupO3, f_tup2d, fr_t2, fr_t3, slt_ow, ix_t0, ix_t1, ix_t2, wi_t0, wi_t1, og_t0, og_t1, op_t0, op_t1, f_eq_t2, f_ne_t2, o_size, o_wired, r_size, r_wired, x_mk, mk_ok, cut_map, ls_i, ls_r, ls_p, lst_rs, lst_is,
  f_add, f_sub, f_lt, f_le, f_gt, f_ge, f_mod, f_div, f_mul, f_eq, f_ne, f_neg, b_bl, l_sh, v_pl, o_ow, o_own, a_pl, k_pl, k_ow, u_pl, u_ow, mv_pl, mv_ow, i1_int, par2_ok, wF_some, g_nm, f_tp, g_cons, g_nil, wF_map,
  fr_i, fr_p, fr_rs, fr_b, fr_sh, sl_i, sl_p, sl_rs, sl_b, sl_sh, itv_i, itv_p, itv_rs, sq_i, sq_p, sq_r, is_i, is_p, is_r, il_i, il_p, il_rs, il_b,
  m_app_i, m_app_p, m_app_rs, m_app_b, m_rev_i, m_clr_i, m_rem_i, f_len_i, f_len_p, f_len_r, f_in_i, f_ni_i, f_ix_i, f_ix_p, f_ix_r, f_ix_b, p_fst, p_snd, f_list_i, f_list_t, f_list_r, mk_i, mk_p, mk_r, f_srt_i, f_srt_p, f_rev_i, f_rev_p, f_cat_i, f_cat_r, f_cat_p, f_rep_i, minL_map, maxL_map, sum_map, all_map, any_map, f_int1, f_intB, f_max2, f_min2,
  it_r1, it_r2, f_rg, itL_i, itL_p, itL_r, itL_b, itS_i, itS_r, f_lstM, f_lst0, f_lst1, f_lst2, f_lst3, f_lst4, f_lst5, f_lst6, f_lstr1, f_lstr2, f_eq_i, f_ne_i, f_eq_r, f_ne_r, f_eq_p, f_ne_p, f_eq_bl, f_ne_bl, rd_i, rd_b, rd_p, rd_rs, y_size, y_ties, y_wired, y_near, o_neighbours,
  isi_int, f_setL, f_srtU, f_srtS, f_is_bl, f_isn_bl, isi_bl, fr_dic, dic_nil, sl_dic, f_din, f_dni, f_dix, f_dic1, x_rdD, rd_dic, s_setD, set_dic, upF_const, o_ties, r_ties, isi_int_bl, isi_tup, isi_lst, isi_lt, sgx, spx, sgo, spo, og_nil, op_nil, restS, wipeS,
  List.getElem?_cons_zero, List.getElem?_cons_succ, List.set_cons_zero, List.set_cons_succ, List.getD_cons_zero, List.getD_cons_succ, List.cons_append, List.nil_append, List.append_nil, List.length_cons, List.length_nil, List.replicate_succ, List.replicate_zero, Nat.reduceSub, Nat.reduceAdd, true_and, and_true])
section
variable {n : Nat} {size : Int} {ts tss : List (Int × Int)} {ws ws' up : List Int} {nr : List (List Int)}
theorem o_rewired {P : Prop} : wOb "Yard" "rewired" (yD size ts ws nr) P = P := by
  have : yardF.contains "rewired" = false := by decide
  show ((("Yard" : Str) = "Yard" ∧ yardF.contains "rewired" = false) ∧ P) = P
  rw [this]
  simp
end
theorem f_rev_r {nr : List (List Int)} {P : List D → Prop} : wF (dRevL (rD nr)) P = P (nr.reverse.map iD) := by
  show P (nr.map iD).reverse = _
  rw [← List.map_reverse]
theorem wi_l0 {a : O} {r : List O} {P : Nat → Prop} : wI (some (.lst (a :: r))) (.int 0) P = P 0 := by
  show wF (ixN (a :: r).length 0) P = _
  rw [ixN_ok (by omega) (by simp)]
  rfl
theorem og_l0 {a : O} {r : List O} : oget (.lst (a :: r)) [.ix 0] = some a := rfl
theorem op_l0 {a n : O} {r : List O} : oput (.lst (a :: r)) [.ix 0] n = .lst (n :: r) := rfl
theorem fr_t0 : fr (.tup []) = .tup [] := rfl
end W

/-! T25: loops that look for a first one; is None. -/
namespace W
open PySem PySem.Spec PyProof.Rows L2 Z
local macro_rules | `(tactic| walk_at "w") => `(tactic| simp only [↓len_r1i, ↓len_r1p, ↓len_r1r, w_mC, w_mVar, w_m2x, w_m1x, w_mTst, w_mAnd, w_mOr, w_mNot, w_mIf, w_mBl, w_mFr, w_mSh, w_mCons, w_mRd, w_mRv, w_pVar, w_pIx, w_mCh, w_mYes', w_m2N, w_m1N, w_mStar, w_mSeq, w_mSl, w_mPart, x_mLook, x_mUse, x_mMov, x_mItV, x_mut, x_comp,
  s_next, s_seq, s_if, s_ret, s_asg, s_sto, s_own, s_drop, s_setI, s_augI, s_aug, s_bad, s_retN, s_brk, s_cnt, s_par, s_for,
  x_call1, x_call2, x_call3, x_call4, x_call5, x_call1s, x_call2s, x_call2t, x_call3s, x_call3t, x_call3u, x_call1b, x_call2b, x_call3b, x_call4b, x_meth0, x_meth1, x_meth2, x_meth1s, x_set, set_i, set_b, en_i, en_p, en_r, f_tupO2, f_tupO3, f_tup2d, fr_t2, fr_t3, slt_ow, ix_t0, ix_t1, ix_t2, wi_t0, wi_t1, og_t0, og_t1, op_t0, op_t1, f_eq_t2, f_ne_t2, o_size, o_wired, r_size, r_wired, x_mk, mk_ok, cut_map, ls_i, ls_r, ls_p, lst_rs, lst_is,
  f_add, f_sub, f_lt, f_le, f_gt, f_ge, f_mod, f_div, f_mul, f_eq, f_ne, f_neg, b_bl, l_sh, v_pl, o_ow, o_own, a_pl, k_pl, k_ow, u_pl, u_ow, mv_pl, mv_ow, i1_int, par2_ok, wF_some, g_nm, f_tp, g_cons, g_nil, wF_map,
  fr_i, fr_p, fr_rs, fr_b, fr_sh, sl_i, sl_p, sl_rs, sl_b, sl_sh, itv_i, itv_p, itv_rs, sq_i, sq_p, sq_r, is_i, is_p, is_r, il_i, il_p, il_rs, il_b,
  m_app_i, m_app_p, m_app_rs, m_app_b, m_rev_i, m_clr_i, m_rem_i, f_len_i, f_len_p, f_len_r, f_in_i, f_ni_i, f_ix_i, f_ix_p, f_ix_r, f_ix_b, p_fst, p_snd, f_list_i, f_list_t, f_list_r, mk_i, mk_p, mk_r, f_srt_i, f_srt_p, f_rev_i, f_rev_p, f_cat_i, f_cat_r, f_cat_p, f_rep_i, minL_map, maxL_map, sum_map, all_map, any_map, f_int1, f_intB, f_max2, f_min2,
  it_r1, it_r2, f_rg, itL_i, itL_p, itL_r, itL_b, itS_i, itS_r, f_lstM, f_lst0, f_lst1, f_lst2, f_lst3, f_lst4, f_lst5, f_lst6, f_lstr1, f_lstr2, f_eq_i, f_ne_i, f_eq_r, f_ne_r, f_eq_p, f_ne_p, f_eq_bl, f_ne_bl, rd_i, rd_b, rd_p, rd_rs, y_size, y_ties, y_wired, y_near, o_neighbours,
  isi_int, f_setL, f_srtU, f_srtS, f_is_bl, f_isn_bl, isi_bl, fr_dic, dic_nil, sl_dic, f_din, f_dni, f_dix, f_dic1, x_rdD, rd_dic, s_setD, set_dic, upF_const, o_ties, r_ties, isi_int_bl, isi_tup, isi_lst, isi_lt, sgx, spx, sgo, spo, og_nil, op_nil, restS, wipeS,
  List.getElem?_cons_zero, List.getElem?_cons_succ, List.set_cons_zero, List.set_cons_succ, List.getD_cons_zero, List.getD_cons_succ, List.cons_append, List.nil_append, List.append_nil, List.length_cons, List.length_nil, List.replicate_succ, List.replicate_zero, Nat.reduceSub, Nat.reduceAdd, true_and, and_true])
local macro_rules | `(tactic| walk_at "v") => `(tactic| simp only [↓len_r1i, ↓len_r1p, ↓len_r1r, w_mC, w_mVar, w_m2x, w_m1x, w_mTst, w_mAnd, w_mOr, w_mNot, w_mIf, w_mBl, w_mFr, w_mSh, w_mCons, w_mRd, w_mRv, w_pVar, w_pIx, w_mCh, w_mYes', w_m2N, w_m1N, w_mStar, w_mSeq, w_mSl, w_mPart, x_mLook, x_mUse, x_mMov, x_mItV, x_mut, x_comp,
  s_next, q_seq, kq_n, kq_r, kq_b, kq_c, s_ret, s_asg, s_sto, s_own, s_drop, s_setI, s_augI, s_aug, s_bad, s_retN, s_brk, s_cnt, s_par, s_for,
  x_call1, x_call2, x_call3, x_call4, x_call5, x_call1s, x_call2s, x_call2t, x_call3s, x_call3t, x_call3u, x_call1b, x_call2b, x_call3b, x_call4b, x_meth0, x_meth1, x_meth2, x_meth1s, x_set, set_i, set_b, en_i, en_p, en_r, f_tupO2, f_tupO3, f_tup2d, fr_t2, fr_t3, slt_ow, ix_t0, ix_t1, ix_t2, wi_t0, wi_t1, og_t0, og_t1, op_t0, op_t1, f_eq_t2, f_ne_t2, o_size, o_wired, r_size, r_wired, x_mk, mk_ok, cut_map, ls_i, ls_r, ls_p, lst_rs, lst_is,
  f_add, f_sub, f_lt, f_le, f_gt, f_ge, f_mod, f_div, f_mul, f_eq, f_ne, f_neg, b_bl, l_sh, v_pl, o_ow, o_own, a_pl, k_pl, k_ow, u_pl, u_ow, mv_pl, mv_ow, i1_int, par2_ok, wF_some, g_nm, f_tp, g_cons, g_nil, wF_map,
  fr_i, fr_p, fr_rs, fr_b, fr_sh, sl_i, sl_p, sl_rs, sl_b, sl_sh, itv_i, itv_p, itv_rs, sq_i, sq_p, sq_r, is_i, is_p, is_r, il_i, il_p, il_rs, il_b,
  m_app_i, m_app_p, m_app_rs, m_app_b, m_rev_i, m_clr_i, m_rem_i, f_len_i, f_len_p, f_len_r, f_in_i, f_ni_i, f_ix_i, f_ix_p, f_ix_r, f_ix_b, p_fst, p_snd, f_list_i, f_list_t, f_list_r, mk_i, mk_p, mk_r, f_srt_i, f_srt_p, f_rev_i, f_rev_p, f_cat_i, f_cat_r, f_cat_p, f_rep_i, minL_map, maxL_map, sum_map, all_map, any_map, f_int1, f_intB, f_max2, f_min2,
  it_r1, it_r2, f_rg, itL_i, itL_p, itL_r, itL_b, itS_i, itS_r, f_lstM, f_lst0, f_lst1, f_lst2, f_lst3, f_lst4, f_lst5, f_lst6, f_lstr1, f_lstr2, f_eq_i, f_ne_i, f_eq_r, f_ne_r, f_eq_p, f_ne_p, f_eq_bl, f_ne_bl, rd_i, rd_b, rd_p, rd_rs, y_size, y_ties, y_wired, y_near, o_neighbours,
  isi_int, f_setL, f_srtU, f_srtS, f_is_bl, f_isn_bl, isi_bl, fr_dic, dic_nil, sl_dic, f_din, f_dni, f_dix, f_dic1, x_rdD, rd_dic, s_setD, set_dic, upF_const, o_ties, r_ties, isi_int_bl, isi_tup, isi_lst, isi_lt, sgx, spx, sgo, spo, og_nil, op_nil, restS, wipeS,
  List.getElem?_cons_zero, List.getElem?_cons_succ, List.set_cons_zero, List.set_cons_succ, List.getD_cons_zero, List.getD_cons_succ, List.cons_append, List.nil_append, List.append_nil, List.length_cons, List.length_nil, List.replicate_succ, List.replicate_zero, Nat.reduceSub, Nat.reduceAdd, true_and, and_true])
/-- a pair, or None -/
def pnO : Option (Int × Int) → O
  | some t => .tup [.sh (.int t.1), .sh (.int t.2)]
  | none => .sh .non
def pnD : Option (Int × Int) → D
  | some t => .tup [.int t.1, .int t.2]
  | none => .non
theorem fr_pn {t : Option (Int × Int)} : fr (pnO t) = pnD t := by cases t <;> rfl
/-- a list, or None -/
def lnO : Option (List Int) → O
  | some t => iO t
  | none => .sh .non
def lnD : Option (List Int) → D
  | some t => iD t
  | none => .non
theorem fr_ln {t : Option (List Int)} : fr (lnO t) = lnD t := by
  cases t with
  | none => rfl
  | some t => exact fr_i
/-! own tuples in an own list; insert -/
def otO (ts : List (Int × Int)) : O := .lst (ts.map tupO)
theorem fr_ot {ts : List (Int × Int)} : fr (otO ts) = pD ts := by
  show D.lst (frL (ts.map tupO)) = _
  rw [fr_tups]
  rfl
theorem il_ot {ts : List (Int × Int)} : isLstO (some (otO ts)) = true := rfl
end W

/-! T26: leaves, forks, unlike leaves; brooms drawn. -/
namespace W
open PySem PySem.Spec PyProof.Rows L2 Z
local macro_rules | `(tactic| walk_at "w") => `(tactic| simp only [↓len_r1i, ↓len_r1p, ↓len_r1r, w_mC, w_mVar, w_m2x, w_m1x, w_mTst, w_mAnd, w_mOr, w_mNot, w_mIf, w_mBl, w_mFr, w_mSh, w_mCons, w_mRd, w_mRv, w_pVar, w_pIx, w_mCh, w_mYes', w_m2N, w_m1N, w_mStar, w_mSeq, w_mSl, w_mPart, x_mLook, x_mUse, x_mMov, x_mItV, x_mut, x_comp,
  s_next, s_seq, s_if, s_ret, s_asg, s_sto, s_own, s_drop, s_setI, s_augI, s_aug, s_bad, s_retN, s_brk, s_cnt, s_par, s_for,
  x_call1, x_call2, x_call3, x_call4, x_call5, x_call1s, x_call2s, x_call2t, x_call3s, x_call3t, x_call3u, x_call1b, x_call2b, x_call3b, x_call4b, x_meth0, x_meth1, x_meth2, x_meth1s, x_set, set_i, set_b, en_i, en_p, en_r, f_tupO2, f_tupO3, f_tup2d, fr_t2, fr_t3, slt_ow, ix_t0, ix_t1, ix_t2, wi_t0, wi_t1, og_t0, og_t1, op_t0, op_t1, f_eq_t2, f_ne_t2, o_size, o_wired, r_size, r_wired, x_mk, mk_ok, cut_map, ls_i, ls_r, ls_p, lst_rs, lst_is,
  f_add, f_sub, f_lt, f_le, f_gt, f_ge, f_mod, f_div, f_mul, f_eq, f_ne, f_neg, b_bl, l_sh, v_pl, o_ow, o_own, a_pl, k_pl, k_ow, u_pl, u_ow, mv_pl, mv_ow, i1_int, par2_ok, wF_some, g_nm, f_tp, g_cons, g_nil, wF_map,
  fr_i, fr_p, fr_rs, fr_b, fr_sh, sl_i, sl_p, sl_rs, sl_b, sl_sh, itv_i, itv_p, itv_rs, sq_i, sq_p, sq_r, is_i, is_p, is_r, il_i, il_p, il_rs, il_b,
  m_app_i, m_app_p, m_app_rs, m_app_b, m_rev_i, m_clr_i, m_rem_i, f_len_i, f_len_p, f_len_r, f_in_i, f_ni_i, f_ix_i, f_ix_p, f_ix_r, f_ix_b, p_fst, p_snd, f_list_i, f_list_t, f_list_r, mk_i, mk_p, mk_r, f_srt_i, f_srt_p, f_rev_i, f_rev_p, f_cat_i, f_cat_r, f_cat_p, f_rep_i, minL_map, maxL_map, sum_map, all_map, any_map, f_int1, f_intB, f_max2, f_min2,
  it_r1, it_r2, f_rg, itL_i, itL_p, itL_r, itL_b, itS_i, itS_r, f_lstM, f_lst0, f_lst1, f_lst2, f_lst3, f_lst4, f_lst5, f_lst6, f_lstr1, f_lstr2, f_eq_i, f_ne_i, f_eq_r, f_ne_r, f_eq_p, f_ne_p, f_eq_bl, f_ne_bl, rd_i, rd_b, rd_p, rd_rs, y_size, y_ties, y_wired, y_near, o_neighbours,
  isi_int, f_setL, f_srtU, f_srtS, f_is_bl, f_isn_bl, isi_bl, fr_dic, dic_nil, sl_dic, f_din, f_dni, f_dix, f_dic1, x_rdD, rd_dic, s_setD, set_dic, upF_const, o_ties, r_ties, isi_int_bl, isi_tup, isi_lst, isi_lt, sgx, spx, sgo, spo, og_nil, op_nil, restS, wipeS,
  List.getElem?_cons_zero, List.getElem?_cons_succ, List.set_cons_zero, List.set_cons_succ, List.getD_cons_zero, List.getD_cons_succ, List.cons_append, List.nil_append, List.append_nil, List.length_cons, List.length_nil, List.replicate_succ, List.replicate_zero, Nat.reduceSub, Nat.reduceAdd, true_and, and_true])
local macro_rules | `(tactic| walk_at "v") => `(tactic| simp only [↓len_r1i, ↓len_r1p, ↓len_r1r, w_mC, w_mVar, w_m2x, w_m1x, w_mTst, w_mAnd, w_mOr, w_mNot, w_mIf, w_mBl, w_mFr, w_mSh, w_mCons, w_mRd, w_mRv, w_pVar, w_pIx, w_mCh, w_mYes', w_m2N, w_m1N, w_mStar, w_mSeq, w_mSl, w_mPart, x_mLook, x_mUse, x_mMov, x_mItV, x_mut, x_comp,
  s_next, q_seq, kq_n, kq_r, kq_b, kq_c, s_ret, s_asg, s_sto, s_own, s_drop, s_setI, s_augI, s_aug, s_bad, s_retN, s_brk, s_cnt, s_par, s_for,
  x_call1, x_call2, x_call3, x_call4, x_call5, x_call1s, x_call2s, x_call2t, x_call3s, x_call3t, x_call3u, x_call1b, x_call2b, x_call3b, x_call4b, x_meth0, x_meth1, x_meth2, x_meth1s, x_set, set_i, set_b, en_i, en_p, en_r, f_tupO2, f_tupO3, f_tup2d, fr_t2, fr_t3, slt_ow, ix_t0, ix_t1, ix_t2, wi_t0, wi_t1, og_t0, og_t1, op_t0, op_t1, f_eq_t2, f_ne_t2, o_size, o_wired, r_size, r_wired, x_mk, mk_ok, cut_map, ls_i, ls_r, ls_p, lst_rs, lst_is,
  f_add, f_sub, f_lt, f_le, f_gt, f_ge, f_mod, f_div, f_mul, f_eq, f_ne, f_neg, b_bl, l_sh, v_pl, o_ow, o_own, a_pl, k_pl, k_ow, u_pl, u_ow, mv_pl, mv_ow, i1_int, par2_ok, wF_some, g_nm, f_tp, g_cons, g_nil, wF_map,
  fr_i, fr_p, fr_rs, fr_b, fr_sh, sl_i, sl_p, sl_rs, sl_b, sl_sh, itv_i, itv_p, itv_rs, sq_i, sq_p, sq_r, is_i, is_p, is_r, il_i, il_p, il_rs, il_b,
  m_app_i, m_app_p, m_app_rs, m_app_b, m_rev_i, m_clr_i, m_rem_i, f_len_i, f_len_p, f_len_r, f_in_i, f_ni_i, f_ix_i, f_ix_p, f_ix_r, f_ix_b, p_fst, p_snd, f_list_i, f_list_t, f_list_r, mk_i, mk_p, mk_r, f_srt_i, f_srt_p, f_rev_i, f_rev_p, f_cat_i, f_cat_r, f_cat_p, f_rep_i, minL_map, maxL_map, sum_map, all_map, any_map, f_int1, f_intB, f_max2, f_min2,
  it_r1, it_r2, f_rg, itL_i, itL_p, itL_r, itL_b, itS_i, itS_r, f_lstM, f_lst0, f_lst1, f_lst2, f_lst3, f_lst4, f_lst5, f_lst6, f_lstr1, f_lstr2, f_eq_i, f_ne_i, f_eq_r, f_ne_r, f_eq_p, f_ne_p, f_eq_bl, f_ne_bl, rd_i, rd_b, rd_p, rd_rs, y_size, y_ties, y_wired, y_near, o_neighbours,
  isi_int, f_setL, f_srtU, f_srtS, f_is_bl, f_isn_bl, isi_bl, fr_dic, dic_nil, sl_dic, f_din, f_dni, f_dix, f_dic1, x_rdD, rd_dic, s_setD, set_dic, upF_const, o_ties, r_ties, isi_int_bl, isi_tup, isi_lst, isi_lt, sgx, spx, sgo, spo, og_nil, op_nil, restS, wipeS,
  List.getElem?_cons_zero, List.getElem?_cons_succ, List.set_cons_zero, List.set_cons_succ, List.getD_cons_zero, List.getD_cons_succ, List.cons_append, List.nil_append, List.append_nil, List.length_cons, List.length_nil, List.replicate_succ, List.replicate_zero, Nat.reduceSub, Nat.reduceAdd, true_and, and_true])
section
variable {n : Nat} {A : Int → Int → Prop} {nr : List (List Int)} {size : Int} {ts : List (Int × Int)} {ws up : List Int} {p m : Int}
theorem o_leaves {P : Prop} : wOb "Yard" "leaves" (yD size ts ws nr) P = P := by
  have : yardF.contains "leaves" = false := by decide
  show ((("Yard" : Str) = "Yard" ∧ yardF.contains "leaves" = false) ∧ P) = P
  rw [this]
  simp
/-- what lies beyond -/
def byd (nr : List (List Int)) (p m : Int) : List Int := (nb nr p).filter fun q => !decide (q = m)
def lngOf (nr : List (List Int)) (m : Int) : List Int := (nb nr m).filter fun p => !decide (byd nr p m = [])
def isFk (nr : List (List Int)) (m : Int) : Bool := decide ((2 : Int) < ((nb nr m).length : Int)) && decide ((1 : Int) < ((lngOf nr m).length : Int))
def fkAt (nr : List (List Int)) (m : Int) : List Int :=
  [m, ((nb nr m).filter fun p => !decide (p = (lngOf nr m).getD 0 0) && !decide (p = (lngOf nr m).getD 1 0)).headD 0, (lngOf nr m).getD 0 0, (byd nr ((lngOf nr m).getD 0 0) m).headD 0, (lngOf nr m).getD 1 0, (byd nr ((lngOf nr m).getD 1 0) m).headD 0]
/-- a fork, or None -/
def fkOf (size : Int) (nr : List (List Int)) : Option (List Int) := ((rng 0 size).find? (isFk nr)).map (fkAt nr)
/-- the law's look for a fork -/
theorem byd_ne (hn : NearOk n A nr) (sym : ∀ u v, A u v → A v u) (hm : 0 ≤ m ∧ m < n) (hp : p ∈ nb nr m) : (byd nr p m ≠ []) ↔ (1 : Int) < ((nb nr p).length : Int) := by
  have hpn := hn.inn m hm.1 hm.2 p hp
  have hmp : m ∈ nb nr p := (hn.mem p hpn.1 hpn.2 m).mpr (sym _ _ ((hn.mem m hm.1 hm.2 p).mp hp))
  have nd := hn.nd p hpn.1 hpn.2
  constructor
  · intro h
    obtain ⟨q, hq⟩ := List.exists_mem_of_ne_nil _ h
    obtain ⟨h1, h2⟩ := List.mem_filter.mp hq
    have h3 : q ≠ m := by simpa using h2
    have := sub_len (l := [q, m]) (m := nb nr p) (by simp [h3]) fun x hx => by
      simp only [List.mem_cons, List.not_mem_nil, or_false] at hx
      rcases hx with rfl | rfl <;> assumption
    simp only [List.length_cons, List.length_nil] at this
    omega
  · intro h z
    have hs : ∀ x ∈ nb nr p, x ∈ [m] := fun x hx => Classical.byContradiction fun hne => by
      have : x ∈ byd nr p m := List.mem_filter.mpr ⟨hx, by simp at hne; simp [hne]⟩
      rw [z] at this
      cases this
    have := sub_len nd hs
    simp at this
    omega
/-! unlike leaves -/
end
end W

/-! T27: brooms drawn. -/
namespace W
open PySem PySem.Spec PyProof.Rows L2 Z
local macro_rules | `(tactic| walk_at "w") => `(tactic| simp only [↓len_r1i, ↓len_r1p, ↓len_r1r, w_mC, w_mVar, w_m2x, w_m1x, w_mTst, w_mAnd, w_mOr, w_mNot, w_mIf, w_mBl, w_mFr, w_mSh, w_mCons, w_mRd, w_mRv, w_pVar, w_pIx, w_mCh, w_mYes', w_m2N, w_m1N, w_mStar, w_mSeq, w_mSl, w_mPart, x_mLook, x_mUse, x_mMov, x_mItV, x_mut, x_comp,
  s_next, s_seq, s_if, s_ret, s_asg, s_sto, s_own, s_drop, s_setI, s_augI, s_aug, s_bad, s_retN, s_brk, s_cnt, s_par, s_for,
  x_call1, x_call2, x_call3, x_call4, x_call5, x_call1s, x_call2s, x_call2t, x_call3s, x_call3t, x_call3u, x_call1b, x_call2b, x_call3b, x_call4b, x_meth0, x_meth1, x_meth2, x_meth1s, x_set, set_i, set_b, en_i, en_p, en_r, f_tupO2, f_tupO3, f_tup2d, fr_t2, fr_t3, slt_ow, ix_t0, ix_t1, ix_t2, wi_t0, wi_t1, og_t0, og_t1, op_t0, op_t1, f_eq_t2, f_ne_t2, o_size, o_wired, r_size, r_wired, x_mk, mk_ok, cut_map, ls_i, ls_r, ls_p, lst_rs, lst_is,
  f_add, f_sub, f_lt, f_le, f_gt, f_ge, f_mod, f_div, f_mul, f_eq, f_ne, f_neg, b_bl, l_sh, v_pl, o_ow, o_own, a_pl, k_pl, k_ow, u_pl, u_ow, mv_pl, mv_ow, i1_int, par2_ok, wF_some, g_nm, f_tp, g_cons, g_nil, wF_map,
  fr_i, fr_p, fr_rs, fr_b, fr_sh, sl_i, sl_p, sl_rs, sl_b, sl_sh, itv_i, itv_p, itv_rs, sq_i, sq_p, sq_r, is_i, is_p, is_r, il_i, il_p, il_rs, il_b,
  m_app_i, m_app_p, m_app_rs, m_app_b, m_rev_i, m_clr_i, m_rem_i, f_len_i, f_len_p, f_len_r, f_in_i, f_ni_i, f_ix_i, f_ix_p, f_ix_r, f_ix_b, p_fst, p_snd, f_list_i, f_list_t, f_list_r, mk_i, mk_p, mk_r, f_srt_i, f_srt_p, f_rev_i, f_rev_p, f_cat_i, f_cat_r, f_cat_p, f_rep_i, minL_map, maxL_map, sum_map, all_map, any_map, f_int1, f_intB, f_max2, f_min2,
  it_r1, it_r2, f_rg, itL_i, itL_p, itL_r, itL_b, itS_i, itS_r, f_lstM, f_lst0, f_lst1, f_lst2, f_lst3, f_lst4, f_lst5, f_lst6, f_lstr1, f_lstr2, f_eq_i, f_ne_i, f_eq_r, f_ne_r, f_eq_p, f_ne_p, f_eq_bl, f_ne_bl, rd_i, rd_b, rd_p, rd_rs, y_size, y_ties, y_wired, y_near, o_neighbours,
  isi_int, f_setL, f_srtU, f_srtS, f_is_bl, f_isn_bl, isi_bl, fr_dic, dic_nil, sl_dic, f_din, f_dni, f_dix, f_dic1, x_rdD, rd_dic, s_setD, set_dic, upF_const, o_ties, r_ties, isi_int_bl, isi_tup, isi_lst, isi_lt, sgx, spx, sgo, spo, og_nil, op_nil, restS, wipeS,
  List.getElem?_cons_zero, List.getElem?_cons_succ, List.set_cons_zero, List.set_cons_succ, List.getD_cons_zero, List.getD_cons_succ, List.cons_append, List.nil_append, List.append_nil, List.length_cons, List.length_nil, List.replicate_succ, List.replicate_zero, Nat.reduceSub, Nat.reduceAdd, true_and, and_true])
local macro_rules | `(tactic| walk_at "v") => `(tactic| simp only [↓len_r1i, ↓len_r1p, ↓len_r1r, w_mC, w_mVar, w_m2x, w_m1x, w_mTst, w_mAnd, w_mOr, w_mNot, w_mIf, w_mBl, w_mFr, w_mSh, w_mCons, w_mRd, w_mRv, w_pVar, w_pIx, w_mCh, w_mYes', w_m2N, w_m1N, w_mStar, w_mSeq, w_mSl, w_mPart, x_mLook, x_mUse, x_mMov, x_mItV, x_mut, x_comp,
  s_next, q_seq, kq_n, kq_r, kq_b, kq_c, s_ret, s_asg, s_sto, s_own, s_drop, s_setI, s_augI, s_aug, s_bad, s_retN, s_brk, s_cnt, s_par, s_for,
  x_call1, x_call2, x_call3, x_call4, x_call5, x_call1s, x_call2s, x_call2t, x_call3s, x_call3t, x_call3u, x_call1b, x_call2b, x_call3b, x_call4b, x_meth0, x_meth1, x_meth2, x_meth1s, x_set, set_i, set_b, en_i, en_p, en_r, f_tupO2, f_tupO3, f_tup2d, fr_t2, fr_t3, slt_ow, ix_t0, ix_t1, ix_t2, wi_t0, wi_t1, og_t0, og_t1, op_t0, op_t1, f_eq_t2, f_ne_t2, o_size, o_wired, r_size, r_wired, x_mk, mk_ok, cut_map, ls_i, ls_r, ls_p, lst_rs, lst_is,
  f_add, f_sub, f_lt, f_le, f_gt, f_ge, f_mod, f_div, f_mul, f_eq, f_ne, f_neg, b_bl, l_sh, v_pl, o_ow, o_own, a_pl, k_pl, k_ow, u_pl, u_ow, mv_pl, mv_ow, i1_int, par2_ok, wF_some, g_nm, f_tp, g_cons, g_nil, wF_map,
  fr_i, fr_p, fr_rs, fr_b, fr_sh, sl_i, sl_p, sl_rs, sl_b, sl_sh, itv_i, itv_p, itv_rs, sq_i, sq_p, sq_r, is_i, is_p, is_r, il_i, il_p, il_rs, il_b,
  m_app_i, m_app_p, m_app_rs, m_app_b, m_rev_i, m_clr_i, m_rem_i, f_len_i, f_len_p, f_len_r, f_in_i, f_ni_i, f_ix_i, f_ix_p, f_ix_r, f_ix_b, p_fst, p_snd, f_list_i, f_list_t, f_list_r, mk_i, mk_p, mk_r, f_srt_i, f_srt_p, f_rev_i, f_rev_p, f_cat_i, f_cat_r, f_cat_p, f_rep_i, minL_map, maxL_map, sum_map, all_map, any_map, f_int1, f_intB, f_max2, f_min2,
  it_r1, it_r2, f_rg, itL_i, itL_p, itL_r, itL_b, itS_i, itS_r, f_lstM, f_lst0, f_lst1, f_lst2, f_lst3, f_lst4, f_lst5, f_lst6, f_lstr1, f_lstr2, f_eq_i, f_ne_i, f_eq_r, f_ne_r, f_eq_p, f_ne_p, f_eq_bl, f_ne_bl, rd_i, rd_b, rd_p, rd_rs, y_size, y_ties, y_wired, y_near, o_neighbours,
  isi_int, f_setL, f_srtU, f_srtS, f_is_bl, f_isn_bl, isi_bl, fr_dic, dic_nil, sl_dic, f_din, f_dni, f_dix, f_dic1, x_rdD, rd_dic, s_setD, set_dic, upF_const, o_ties, r_ties, isi_int_bl, isi_tup, isi_lst, isi_lt, sgx, spx, sgo, spo, og_nil, op_nil, restS, wipeS,
  List.getElem?_cons_zero, List.getElem?_cons_succ, List.set_cons_zero, List.set_cons_succ, List.getD_cons_zero, List.getD_cons_succ, List.cons_append, List.nil_append, List.append_nil, List.length_cons, List.length_nil, List.replicate_succ, List.replicate_zero, Nat.reduceSub, Nat.reduceAdd, true_and, and_true])
end W

/-! T28: ready posts, sums, flips, rows gone. -/
namespace W
open PySem PySem.Spec PyProof.Rows L2 Z
local macro_rules | `(tactic| walk_at "w") => `(tactic| simp only [↓len_r1i, ↓len_r1p, ↓len_r1r, w_mC, w_mVar, w_m2x, w_m1x, w_mTst, w_mAnd, w_mOr, w_mNot, w_mIf, w_mBl, w_mFr, w_mSh, w_mCons, w_mRd, w_mRv, w_pVar, w_pIx, w_mCh, w_mYes', w_m2N, w_m1N, w_mStar, w_mSeq, w_mSl, w_mPart, x_mLook, x_mUse, x_mMov, x_mItV, x_mut, x_comp,
  s_next, s_seq, s_if, s_ret, s_asg, s_sto, s_own, s_drop, s_setI, s_augI, s_aug, s_bad, s_retN, s_brk, s_cnt, s_par, s_for,
  x_call1, x_call2, x_call3, x_call4, x_call5, x_call1s, x_call2s, x_call2t, x_call3s, x_call3t, x_call3u, x_call1b, x_call2b, x_call3b, x_call4b, x_meth0, x_meth1, x_meth2, x_meth1s, x_set, set_i, set_b, en_i, en_p, en_r, f_tupO2, f_tupO3, f_tup2d, fr_t2, fr_t3, slt_ow, ix_t0, ix_t1, ix_t2, wi_t0, wi_t1, og_t0, og_t1, op_t0, op_t1, f_eq_t2, f_ne_t2, o_size, o_wired, r_size, r_wired, x_mk, mk_ok, cut_map, ls_i, ls_r, ls_p, lst_rs, lst_is,
  f_add, f_sub, f_lt, f_le, f_gt, f_ge, f_mod, f_div, f_mul, f_eq, f_ne, f_neg, b_bl, l_sh, v_pl, o_ow, o_own, a_pl, k_pl, k_ow, u_pl, u_ow, mv_pl, mv_ow, i1_int, par2_ok, wF_some, g_nm, f_tp, g_cons, g_nil, wF_map,
  fr_i, fr_p, fr_rs, fr_b, fr_sh, sl_i, sl_p, sl_rs, sl_b, sl_sh, itv_i, itv_p, itv_rs, sq_i, sq_p, sq_r, is_i, is_p, is_r, il_i, il_p, il_rs, il_b,
  m_app_i, m_app_p, m_app_rs, m_app_b, m_rev_i, m_clr_i, m_rem_i, f_len_i, f_len_p, f_len_r, f_in_i, f_ni_i, f_ix_i, f_ix_p, f_ix_r, f_ix_b, p_fst, p_snd, f_list_i, f_list_t, f_list_r, mk_i, mk_p, mk_r, f_srt_i, f_srt_p, f_rev_i, f_rev_p, f_cat_i, f_cat_r, f_cat_p, f_rep_i, minL_map, maxL_map, sum_map, all_map, any_map, f_int1, f_intB, f_max2, f_min2,
  it_r1, it_r2, f_rg, itL_i, itL_p, itL_r, itL_b, itS_i, itS_r, f_lstM, f_lst0, f_lst1, f_lst2, f_lst3, f_lst4, f_lst5, f_lst6, f_lstr1, f_lstr2, f_eq_i, f_ne_i, f_eq_r, f_ne_r, f_eq_p, f_ne_p, f_eq_bl, f_ne_bl, rd_i, rd_b, rd_p, rd_rs, y_size, y_ties, y_wired, y_near, o_neighbours,
  isi_int, f_setL, f_srtU, f_srtS, f_is_bl, f_isn_bl, isi_bl, fr_dic, dic_nil, sl_dic, f_din, f_dni, f_dix, f_dic1, x_rdD, rd_dic, s_setD, set_dic, upF_const, o_ties, r_ties, isi_int_bl, isi_tup, isi_lst, isi_lt, sgx, spx, sgo, spo, og_nil, op_nil, restS, wipeS,
  List.getElem?_cons_zero, List.getElem?_cons_succ, List.set_cons_zero, List.set_cons_succ, List.getD_cons_zero, List.getD_cons_succ, List.cons_append, List.nil_append, List.append_nil, List.length_cons, List.length_nil, List.replicate_succ, List.replicate_zero, Nat.reduceSub, Nat.reduceAdd, true_and, and_true])
local macro_rules | `(tactic| walk_at "v") => `(tactic| simp only [↓len_r1i, ↓len_r1p, ↓len_r1r, w_mC, w_mVar, w_m2x, w_m1x, w_mTst, w_mAnd, w_mOr, w_mNot, w_mIf, w_mBl, w_mFr, w_mSh, w_mCons, w_mRd, w_mRv, w_pVar, w_pIx, w_mCh, w_mYes', w_m2N, w_m1N, w_mStar, w_mSeq, w_mSl, w_mPart, x_mLook, x_mUse, x_mMov, x_mItV, x_mut, x_comp,
  s_next, q_seq, kq_n, kq_r, kq_b, kq_c, s_ret, s_asg, s_sto, s_own, s_drop, s_setI, s_augI, s_aug, s_bad, s_retN, s_brk, s_cnt, s_par, s_for,
  x_call1, x_call2, x_call3, x_call4, x_call5, x_call1s, x_call2s, x_call2t, x_call3s, x_call3t, x_call3u, x_call1b, x_call2b, x_call3b, x_call4b, x_meth0, x_meth1, x_meth2, x_meth1s, x_set, set_i, set_b, en_i, en_p, en_r, f_tupO2, f_tupO3, f_tup2d, fr_t2, fr_t3, slt_ow, ix_t0, ix_t1, ix_t2, wi_t0, wi_t1, og_t0, og_t1, op_t0, op_t1, f_eq_t2, f_ne_t2, o_size, o_wired, r_size, r_wired, x_mk, mk_ok, cut_map, ls_i, ls_r, ls_p, lst_rs, lst_is,
  f_add, f_sub, f_lt, f_le, f_gt, f_ge, f_mod, f_div, f_mul, f_eq, f_ne, f_neg, b_bl, l_sh, v_pl, o_ow, o_own, a_pl, k_pl, k_ow, u_pl, u_ow, mv_pl, mv_ow, i1_int, par2_ok, wF_some, g_nm, f_tp, g_cons, g_nil, wF_map,
  fr_i, fr_p, fr_rs, fr_b, fr_sh, sl_i, sl_p, sl_rs, sl_b, sl_sh, itv_i, itv_p, itv_rs, sq_i, sq_p, sq_r, is_i, is_p, is_r, il_i, il_p, il_rs, il_b,
  m_app_i, m_app_p, m_app_rs, m_app_b, m_rev_i, m_clr_i, m_rem_i, f_len_i, f_len_p, f_len_r, f_in_i, f_ni_i, f_ix_i, f_ix_p, f_ix_r, f_ix_b, p_fst, p_snd, f_list_i, f_list_t, f_list_r, mk_i, mk_p, mk_r, f_srt_i, f_srt_p, f_rev_i, f_rev_p, f_cat_i, f_cat_r, f_cat_p, f_rep_i, minL_map, maxL_map, sum_map, all_map, any_map, f_int1, f_intB, f_max2, f_min2,
  it_r1, it_r2, f_rg, itL_i, itL_p, itL_r, itL_b, itS_i, itS_r, f_lstM, f_lst0, f_lst1, f_lst2, f_lst3, f_lst4, f_lst5, f_lst6, f_lstr1, f_lstr2, f_eq_i, f_ne_i, f_eq_r, f_ne_r, f_eq_p, f_ne_p, f_eq_bl, f_ne_bl, rd_i, rd_b, rd_p, rd_rs, y_size, y_ties, y_wired, y_near, o_neighbours,
  isi_int, f_setL, f_srtU, f_srtS, f_is_bl, f_isn_bl, isi_bl, fr_dic, dic_nil, sl_dic, f_din, f_dni, f_dix, f_dic1, x_rdD, rd_dic, s_setD, set_dic, upF_const, o_ties, r_ties, isi_int_bl, isi_tup, isi_lst, isi_lt, sgx, spx, sgo, spo, og_nil, op_nil, restS, wipeS,
  List.getElem?_cons_zero, List.getElem?_cons_succ, List.set_cons_zero, List.set_cons_succ, List.getD_cons_zero, List.getD_cons_succ, List.cons_append, List.nil_append, List.append_nil, List.length_cons, List.length_nil, List.replicate_succ, List.replicate_zero, Nat.reduceSub, Nat.reduceAdd, true_and, and_true])
section
variable {n : Nat} {A : Int → Int → Prop} {nr : List (List Int)} {size : Int} {ts : List (Int × Int)} {ws up G : List Int} {p : Int}
end
end W

/-! T29: lamps. -/
namespace W
open PySem PySem.Spec PyProof.Rows L2 Z
local macro_rules | `(tactic| walk_at "w") => `(tactic| simp only [↓len_r1i, ↓len_r1p, ↓len_r1r, w_mC, w_mVar, w_m2x, w_m1x, w_mTst, w_mAnd, w_mOr, w_mNot, w_mIf, w_mBl, w_mFr, w_mSh, w_mCons, w_mRd, w_mRv, w_pVar, w_pIx, w_mCh, w_mYes', w_m2N, w_m1N, w_mStar, w_mSeq, w_mSl, w_mPart, x_mLook, x_mUse, x_mMov, x_mItV, x_mut, x_comp,
  s_next, s_seq, s_if, s_ret, s_asg, s_sto, s_own, s_drop, s_setI, s_augI, s_aug, s_bad, s_retN, s_brk, s_cnt, s_par, s_for,
  x_call1, x_call2, x_call3, x_call4, x_call5, x_call1s, x_call2s, x_call2t, x_call3s, x_call3t, x_call3u, x_call1b, x_call2b, x_call3b, x_call4b, x_meth0, x_meth1, x_meth2, x_meth1s, x_set, set_i, set_b, en_i, en_p, en_r, f_tupO2, f_tupO3, f_tup2d, fr_t2, fr_t3, slt_ow, ix_t0, ix_t1, ix_t2, wi_t0, wi_t1, og_t0, og_t1, op_t0, op_t1, f_eq_t2, f_ne_t2, o_size, o_wired, r_size, r_wired, x_mk, mk_ok, cut_map, ls_i, ls_r, ls_p, lst_rs, lst_is,
  f_add, f_sub, f_lt, f_le, f_gt, f_ge, f_mod, f_div, f_mul, f_eq, f_ne, f_neg, b_bl, l_sh, v_pl, o_ow, o_own, a_pl, k_pl, k_ow, u_pl, u_ow, mv_pl, mv_ow, i1_int, par2_ok, wF_some, g_nm, f_tp, g_cons, g_nil, wF_map,
  fr_i, fr_p, fr_rs, fr_b, fr_sh, sl_i, sl_p, sl_rs, sl_b, sl_sh, itv_i, itv_p, itv_rs, sq_i, sq_p, sq_r, is_i, is_p, is_r, il_i, il_p, il_rs, il_b,
  m_app_i, m_app_p, m_app_rs, m_app_b, m_rev_i, m_clr_i, m_rem_i, f_len_i, f_len_p, f_len_r, f_in_i, f_ni_i, f_ix_i, f_ix_p, f_ix_r, f_ix_b, p_fst, p_snd, f_list_i, f_list_t, f_list_r, mk_i, mk_p, mk_r, f_srt_i, f_srt_p, f_rev_i, f_rev_p, f_cat_i, f_cat_r, f_cat_p, f_rep_i, minL_map, maxL_map, sum_map, all_map, any_map, f_int1, f_intB, f_max2, f_min2,
  it_r1, it_r2, f_rg, itL_i, itL_p, itL_r, itL_b, itS_i, itS_r, f_lstM, f_lst0, f_lst1, f_lst2, f_lst3, f_lst4, f_lst5, f_lst6, f_lstr1, f_lstr2, f_eq_i, f_ne_i, f_eq_r, f_ne_r, f_eq_p, f_ne_p, f_eq_bl, f_ne_bl, rd_i, rd_b, rd_p, rd_rs, y_size, y_ties, y_wired, y_near, o_neighbours,
  isi_int, f_setL, f_srtU, f_srtS, f_is_bl, f_isn_bl, isi_bl, fr_dic, dic_nil, sl_dic, f_din, f_dni, f_dix, f_dic1, x_rdD, rd_dic, s_setD, set_dic, upF_const, o_ties, r_ties, isi_int_bl, isi_tup, isi_lst, isi_lt, sgx, spx, sgo, spo, og_nil, op_nil, restS, wipeS,
  List.getElem?_cons_zero, List.getElem?_cons_succ, List.set_cons_zero, List.set_cons_succ, List.getD_cons_zero, List.getD_cons_succ, List.cons_append, List.nil_append, List.append_nil, List.length_cons, List.length_nil, List.replicate_succ, List.replicate_zero, Nat.reduceSub, Nat.reduceAdd, true_and, and_true])
local macro_rules | `(tactic| walk_at "v") => `(tactic| simp only [↓len_r1i, ↓len_r1p, ↓len_r1r, w_mC, w_mVar, w_m2x, w_m1x, w_mTst, w_mAnd, w_mOr, w_mNot, w_mIf, w_mBl, w_mFr, w_mSh, w_mCons, w_mRd, w_mRv, w_pVar, w_pIx, w_mCh, w_mYes', w_m2N, w_m1N, w_mStar, w_mSeq, w_mSl, w_mPart, x_mLook, x_mUse, x_mMov, x_mItV, x_mut, x_comp,
  s_next, q_seq, kq_n, kq_r, kq_b, kq_c, s_ret, s_asg, s_sto, s_own, s_drop, s_setI, s_augI, s_aug, s_bad, s_retN, s_brk, s_cnt, s_par, s_for,
  x_call1, x_call2, x_call3, x_call4, x_call5, x_call1s, x_call2s, x_call2t, x_call3s, x_call3t, x_call3u, x_call1b, x_call2b, x_call3b, x_call4b, x_meth0, x_meth1, x_meth2, x_meth1s, x_set, set_i, set_b, en_i, en_p, en_r, f_tupO2, f_tupO3, f_tup2d, fr_t2, fr_t3, slt_ow, ix_t0, ix_t1, ix_t2, wi_t0, wi_t1, og_t0, og_t1, op_t0, op_t1, f_eq_t2, f_ne_t2, o_size, o_wired, r_size, r_wired, x_mk, mk_ok, cut_map, ls_i, ls_r, ls_p, lst_rs, lst_is,
  f_add, f_sub, f_lt, f_le, f_gt, f_ge, f_mod, f_div, f_mul, f_eq, f_ne, f_neg, b_bl, l_sh, v_pl, o_ow, o_own, a_pl, k_pl, k_ow, u_pl, u_ow, mv_pl, mv_ow, i1_int, par2_ok, wF_some, g_nm, f_tp, g_cons, g_nil, wF_map,
  fr_i, fr_p, fr_rs, fr_b, fr_sh, sl_i, sl_p, sl_rs, sl_b, sl_sh, itv_i, itv_p, itv_rs, sq_i, sq_p, sq_r, is_i, is_p, is_r, il_i, il_p, il_rs, il_b,
  m_app_i, m_app_p, m_app_rs, m_app_b, m_rev_i, m_clr_i, m_rem_i, f_len_i, f_len_p, f_len_r, f_in_i, f_ni_i, f_ix_i, f_ix_p, f_ix_r, f_ix_b, p_fst, p_snd, f_list_i, f_list_t, f_list_r, mk_i, mk_p, mk_r, f_srt_i, f_srt_p, f_rev_i, f_rev_p, f_cat_i, f_cat_r, f_cat_p, f_rep_i, minL_map, maxL_map, sum_map, all_map, any_map, f_int1, f_intB, f_max2, f_min2,
  it_r1, it_r2, f_rg, itL_i, itL_p, itL_r, itL_b, itS_i, itS_r, f_lstM, f_lst0, f_lst1, f_lst2, f_lst3, f_lst4, f_lst5, f_lst6, f_lstr1, f_lstr2, f_eq_i, f_ne_i, f_eq_r, f_ne_r, f_eq_p, f_ne_p, f_eq_bl, f_ne_bl, rd_i, rd_b, rd_p, rd_rs, y_size, y_ties, y_wired, y_near, o_neighbours,
  isi_int, f_setL, f_srtU, f_srtS, f_is_bl, f_isn_bl, isi_bl, fr_dic, dic_nil, sl_dic, f_din, f_dni, f_dix, f_dic1, x_rdD, rd_dic, s_setD, set_dic, upF_const, o_ties, r_ties, isi_int_bl, isi_tup, isi_lst, isi_lt, sgx, spx, sgo, spo, og_nil, op_nil, restS, wipeS,
  List.getElem?_cons_zero, List.getElem?_cons_succ, List.set_cons_zero, List.set_cons_succ, List.getD_cons_zero, List.getD_cons_succ, List.cons_append, List.nil_append, List.append_nil, List.length_cons, List.length_nil, List.replicate_succ, List.replicate_zero, Nat.reduceSub, Nat.reduceAdd, true_and, and_true])
section
variable {n : Nat} {A : Int → Int → Prop} {nr : List (List Int)} {size : Int} {ts : List (Int × Int)} {ws up G : List Int} {p : Int}
end
theorem fr_shd {d : D} : fr (.sh d) = d := rfl
end W

/-! T30: flags and lamps at once. -/
namespace W
open PySem PySem.Spec PyProof.Rows L2 Z
local macro_rules | `(tactic| walk_at "w") => `(tactic| simp only [↓len_r1i, ↓len_r1p, ↓len_r1r, w_mC, w_mVar, w_m2x, w_m1x, w_mTst, w_mAnd, w_mOr, w_mNot, w_mIf, w_mBl, w_mFr, w_mSh, w_mCons, w_mRd, w_mRv, w_pVar, w_pIx, w_mCh, w_mYes', w_m2N, w_m1N, w_mStar, w_mSeq, w_mSl, w_mPart, x_mLook, x_mUse, x_mMov, x_mItV, x_mut, x_comp,
  s_next, s_seq, s_if, s_ret, s_asg, s_sto, s_own, s_drop, s_setI, s_augI, s_aug, s_bad, s_retN, s_brk, s_cnt, s_par, s_for,
  x_call1, x_call2, x_call3, x_call4, x_call5, x_call1s, x_call2s, x_call2t, x_call3s, x_call3t, x_call3u, x_call1b, x_call2b, x_call3b, x_call4b, x_meth0, x_meth1, x_meth2, x_meth1s, x_set, set_i, set_b, en_i, en_p, en_r, f_tupO2, f_tupO3, f_tup2d, fr_t2, fr_t3, slt_ow, ix_t0, ix_t1, ix_t2, wi_t0, wi_t1, og_t0, og_t1, op_t0, op_t1, f_eq_t2, f_ne_t2, o_size, o_wired, r_size, r_wired, x_mk, mk_ok, cut_map, ls_i, ls_r, ls_p, lst_rs, lst_is,
  f_add, f_sub, f_lt, f_le, f_gt, f_ge, f_mod, f_div, f_mul, f_eq, f_ne, f_neg, b_bl, l_sh, v_pl, o_ow, o_own, a_pl, k_pl, k_ow, u_pl, u_ow, mv_pl, mv_ow, i1_int, par2_ok, wF_some, g_nm, f_tp, g_cons, g_nil, wF_map,
  fr_i, fr_p, fr_rs, fr_b, fr_sh, sl_i, sl_p, sl_rs, sl_b, sl_sh, itv_i, itv_p, itv_rs, sq_i, sq_p, sq_r, is_i, is_p, is_r, il_i, il_p, il_rs, il_b,
  m_app_i, m_app_p, m_app_rs, m_app_b, m_rev_i, m_clr_i, m_rem_i, f_len_i, f_len_p, f_len_r, f_in_i, f_ni_i, f_ix_i, f_ix_p, f_ix_r, f_ix_b, p_fst, p_snd, f_list_i, f_list_t, f_list_r, mk_i, mk_p, mk_r, f_srt_i, f_srt_p, f_rev_i, f_rev_p, f_cat_i, f_cat_r, f_cat_p, f_rep_i, minL_map, maxL_map, sum_map, all_map, any_map, f_int1, f_intB, f_max2, f_min2,
  it_r1, it_r2, f_rg, itL_i, itL_p, itL_r, itL_b, itS_i, itS_r, f_lstM, f_lst0, f_lst1, f_lst2, f_lst3, f_lst4, f_lst5, f_lst6, f_lstr1, f_lstr2, f_eq_i, f_ne_i, f_eq_r, f_ne_r, f_eq_p, f_ne_p, f_eq_bl, f_ne_bl, rd_i, rd_b, rd_p, rd_rs, y_size, y_ties, y_wired, y_near, o_neighbours,
  isi_int, f_setL, f_srtU, f_srtS, f_is_bl, f_isn_bl, isi_bl, fr_dic, dic_nil, sl_dic, f_din, f_dni, f_dix, f_dic1, x_rdD, rd_dic, s_setD, set_dic, upF_const, o_ties, r_ties, isi_int_bl, isi_tup, isi_lst, isi_lt, sgx, spx, sgo, spo, og_nil, op_nil, restS, wipeS,
  List.getElem?_cons_zero, List.getElem?_cons_succ, List.set_cons_zero, List.set_cons_succ, List.getD_cons_zero, List.getD_cons_succ, List.cons_append, List.nil_append, List.append_nil, List.length_cons, List.length_nil, List.replicate_succ, List.replicate_zero, Nat.reduceSub, Nat.reduceAdd, true_and, and_true])
local macro_rules | `(tactic| walk_at "v") => `(tactic| simp only [↓len_r1i, ↓len_r1p, ↓len_r1r, w_mC, w_mVar, w_m2x, w_m1x, w_mTst, w_mAnd, w_mOr, w_mNot, w_mIf, w_mBl, w_mFr, w_mSh, w_mCons, w_mRd, w_mRv, w_pVar, w_pIx, w_mCh, w_mYes', w_m2N, w_m1N, w_mStar, w_mSeq, w_mSl, w_mPart, x_mLook, x_mUse, x_mMov, x_mItV, x_mut, x_comp,
  s_next, q_seq, kq_n, kq_r, kq_b, kq_c, s_ret, s_asg, s_sto, s_own, s_drop, s_setI, s_augI, s_aug, s_bad, s_retN, s_brk, s_cnt, s_par, s_for,
  x_call1, x_call2, x_call3, x_call4, x_call5, x_call1s, x_call2s, x_call2t, x_call3s, x_call3t, x_call3u, x_call1b, x_call2b, x_call3b, x_call4b, x_meth0, x_meth1, x_meth2, x_meth1s, x_set, set_i, set_b, en_i, en_p, en_r, f_tupO2, f_tupO3, f_tup2d, fr_t2, fr_t3, slt_ow, ix_t0, ix_t1, ix_t2, wi_t0, wi_t1, og_t0, og_t1, op_t0, op_t1, f_eq_t2, f_ne_t2, o_size, o_wired, r_size, r_wired, x_mk, mk_ok, cut_map, ls_i, ls_r, ls_p, lst_rs, lst_is,
  f_add, f_sub, f_lt, f_le, f_gt, f_ge, f_mod, f_div, f_mul, f_eq, f_ne, f_neg, b_bl, l_sh, v_pl, o_ow, o_own, a_pl, k_pl, k_ow, u_pl, u_ow, mv_pl, mv_ow, i1_int, par2_ok, wF_some, g_nm, f_tp, g_cons, g_nil, wF_map,
  fr_i, fr_p, fr_rs, fr_b, fr_sh, sl_i, sl_p, sl_rs, sl_b, sl_sh, itv_i, itv_p, itv_rs, sq_i, sq_p, sq_r, is_i, is_p, is_r, il_i, il_p, il_rs, il_b,
  m_app_i, m_app_p, m_app_rs, m_app_b, m_rev_i, m_clr_i, m_rem_i, f_len_i, f_len_p, f_len_r, f_in_i, f_ni_i, f_ix_i, f_ix_p, f_ix_r, f_ix_b, p_fst, p_snd, f_list_i, f_list_t, f_list_r, mk_i, mk_p, mk_r, f_srt_i, f_srt_p, f_rev_i, f_rev_p, f_cat_i, f_cat_r, f_cat_p, f_rep_i, minL_map, maxL_map, sum_map, all_map, any_map, f_int1, f_intB, f_max2, f_min2,
  it_r1, it_r2, f_rg, itL_i, itL_p, itL_r, itL_b, itS_i, itS_r, f_lstM, f_lst0, f_lst1, f_lst2, f_lst3, f_lst4, f_lst5, f_lst6, f_lstr1, f_lstr2, f_eq_i, f_ne_i, f_eq_r, f_ne_r, f_eq_p, f_ne_p, f_eq_bl, f_ne_bl, rd_i, rd_b, rd_p, rd_rs, y_size, y_ties, y_wired, y_near, o_neighbours,
  isi_int, f_setL, f_srtU, f_srtS, f_is_bl, f_isn_bl, isi_bl, fr_dic, dic_nil, sl_dic, f_din, f_dni, f_dix, f_dic1, x_rdD, rd_dic, s_setD, set_dic, upF_const, o_ties, r_ties, isi_int_bl, isi_tup, isi_lst, isi_lt, sgx, spx, sgo, spo, og_nil, op_nil, restS, wipeS,
  List.getElem?_cons_zero, List.getElem?_cons_succ, List.set_cons_zero, List.set_cons_succ, List.getD_cons_zero, List.getD_cons_succ, List.cons_append, List.nil_append, List.append_nil, List.length_cons, List.length_nil, List.replicate_succ, List.replicate_zero, Nat.reduceSub, Nat.reduceAdd, true_and, and_true])
section
variable {n : Nat} {A : Int → Int → Prop} {nr : List (List Int)} {size : Int} {ts : List (Int × Int)} {ws up u L G : List Int} {p : Int}
def par (u L : List Int) : Int := ((u.filter (isIn L)).length : Int) % 2
theorem xr_sum {a b : List Int} {u : List Int} : xr (isIn (sumL a b)) u = (xr (isIn a) u != xr (isIn b) u) := by
  rw [← xr_xor]
  exact xr_congr fun x _ => sum_in
theorem oix_t1 {a b : O} {P : O → Prop} : wF (oIx (.tup [a, b]) (.int 1)) P = P b := by
  show wF (atI [a, b] 1) P = _
  rw [at_in (d := a) (by omega) (by simp)]
  rfl
theorem x_callP {n : Nat} {f : Fn} {m : M (List D)} {S : List Sl} {Q : O → List Sl → Prop} : wM (mCallP n f m) S Q = wM m S fun ds S1 => wF (callP n f ds) fun o => Q o S1 := w_m1x
theorem f_tup3d {a b c : D} {P : O → Prop} : wF (dTup [a, b, c]) P = P (.tup [.sh a, .sh b, .sh c]) := by
  unfold dTup
  rw [decide_eq_true (by rw [sl_16]; simp)]
  rfl
theorem f_lstr3 {a b c : List Int} {P : O → Prop} : wF (dLst [iD a, iD b, iD c]) P = P (rsO [a, b, c]) := dlst_ok (by simp)
end
end W

/-! T31: ways in a tree; the path of two posts. -/
namespace W
open PySem PySem.Spec PyProof.Rows L2 Z
local macro_rules | `(tactic| walk_at "w") => `(tactic| simp only [↓len_r1i, ↓len_r1p, ↓len_r1r, w_mC, w_mVar, w_m2x, w_m1x, w_mTst, w_mAnd, w_mOr, w_mNot, w_mIf, w_mBl, w_mFr, w_mSh, w_mCons, w_mRd, w_mRv, w_pVar, w_pIx, w_mCh, w_mYes', w_m2N, w_m1N, w_mStar, w_mSeq, w_mSl, w_mPart, x_mLook, x_mUse, x_mMov, x_mItV, x_mut, x_comp,
  s_next, s_seq, s_if, s_ret, s_asg, s_sto, s_own, s_drop, s_setI, s_augI, s_aug, s_bad, s_retN, s_brk, s_cnt, s_par, s_for,
  x_call1, x_call2, x_call3, x_call4, x_call5, x_call1s, x_call2s, x_call2t, x_call3s, x_call3t, x_call3u, x_call1b, x_call2b, x_call3b, x_call4b, x_meth0, x_meth1, x_meth2, x_meth1s, x_set, set_i, set_b, en_i, en_p, en_r, f_tupO2, f_tupO3, f_tup2d, fr_t2, fr_t3, slt_ow, ix_t0, ix_t1, ix_t2, wi_t0, wi_t1, og_t0, og_t1, op_t0, op_t1, f_eq_t2, f_ne_t2, o_size, o_wired, r_size, r_wired, x_mk, mk_ok, cut_map, ls_i, ls_r, ls_p, lst_rs, lst_is,
  f_add, f_sub, f_lt, f_le, f_gt, f_ge, f_mod, f_div, f_mul, f_eq, f_ne, f_neg, b_bl, l_sh, v_pl, o_ow, o_own, a_pl, k_pl, k_ow, u_pl, u_ow, mv_pl, mv_ow, i1_int, par2_ok, wF_some, g_nm, f_tp, g_cons, g_nil, wF_map,
  fr_i, fr_p, fr_rs, fr_b, fr_sh, sl_i, sl_p, sl_rs, sl_b, sl_sh, itv_i, itv_p, itv_rs, sq_i, sq_p, sq_r, is_i, is_p, is_r, il_i, il_p, il_rs, il_b,
  m_app_i, m_app_p, m_app_rs, m_app_b, m_rev_i, m_clr_i, m_rem_i, f_len_i, f_len_p, f_len_r, f_in_i, f_ni_i, f_ix_i, f_ix_p, f_ix_r, f_ix_b, p_fst, p_snd, f_list_i, f_list_t, f_list_r, mk_i, mk_p, mk_r, f_srt_i, f_srt_p, f_rev_i, f_rev_p, f_cat_i, f_cat_r, f_cat_p, f_rep_i, minL_map, maxL_map, sum_map, all_map, any_map, f_int1, f_intB, f_max2, f_min2,
  it_r1, it_r2, f_rg, itL_i, itL_p, itL_r, itL_b, itS_i, itS_r, f_lstM, f_lst0, f_lst1, f_lst2, f_lst3, f_lst4, f_lst5, f_lst6, f_lstr1, f_lstr2, f_eq_i, f_ne_i, f_eq_r, f_ne_r, f_eq_p, f_ne_p, f_eq_bl, f_ne_bl, rd_i, rd_b, rd_p, rd_rs, y_size, y_ties, y_wired, y_near, o_neighbours,
  isi_int, f_setL, f_srtU, f_srtS, f_is_bl, f_isn_bl, isi_bl, fr_dic, dic_nil, sl_dic, f_din, f_dni, f_dix, f_dic1, x_rdD, rd_dic, s_setD, set_dic, upF_const, o_ties, r_ties, isi_int_bl, isi_tup, isi_lst, isi_lt, sgx, spx, sgo, spo, og_nil, op_nil, restS, wipeS,
  List.getElem?_cons_zero, List.getElem?_cons_succ, List.set_cons_zero, List.set_cons_succ, List.getD_cons_zero, List.getD_cons_succ, List.cons_append, List.nil_append, List.append_nil, List.length_cons, List.length_nil, List.replicate_succ, List.replicate_zero, Nat.reduceSub, Nat.reduceAdd, true_and, and_true])
local macro_rules | `(tactic| walk_at "v") => `(tactic| simp only [↓len_r1i, ↓len_r1p, ↓len_r1r, w_mC, w_mVar, w_m2x, w_m1x, w_mTst, w_mAnd, w_mOr, w_mNot, w_mIf, w_mBl, w_mFr, w_mSh, w_mCons, w_mRd, w_mRv, w_pVar, w_pIx, w_mCh, w_mYes', w_m2N, w_m1N, w_mStar, w_mSeq, w_mSl, w_mPart, x_mLook, x_mUse, x_mMov, x_mItV, x_mut, x_comp,
  s_next, q_seq, kq_n, kq_r, kq_b, kq_c, s_ret, s_asg, s_sto, s_own, s_drop, s_setI, s_augI, s_aug, s_bad, s_retN, s_brk, s_cnt, s_par, s_for,
  x_call1, x_call2, x_call3, x_call4, x_call5, x_call1s, x_call2s, x_call2t, x_call3s, x_call3t, x_call3u, x_call1b, x_call2b, x_call3b, x_call4b, x_meth0, x_meth1, x_meth2, x_meth1s, x_set, set_i, set_b, en_i, en_p, en_r, f_tupO2, f_tupO3, f_tup2d, fr_t2, fr_t3, slt_ow, ix_t0, ix_t1, ix_t2, wi_t0, wi_t1, og_t0, og_t1, op_t0, op_t1, f_eq_t2, f_ne_t2, o_size, o_wired, r_size, r_wired, x_mk, mk_ok, cut_map, ls_i, ls_r, ls_p, lst_rs, lst_is,
  f_add, f_sub, f_lt, f_le, f_gt, f_ge, f_mod, f_div, f_mul, f_eq, f_ne, f_neg, b_bl, l_sh, v_pl, o_ow, o_own, a_pl, k_pl, k_ow, u_pl, u_ow, mv_pl, mv_ow, i1_int, par2_ok, wF_some, g_nm, f_tp, g_cons, g_nil, wF_map,
  fr_i, fr_p, fr_rs, fr_b, fr_sh, sl_i, sl_p, sl_rs, sl_b, sl_sh, itv_i, itv_p, itv_rs, sq_i, sq_p, sq_r, is_i, is_p, is_r, il_i, il_p, il_rs, il_b,
  m_app_i, m_app_p, m_app_rs, m_app_b, m_rev_i, m_clr_i, m_rem_i, f_len_i, f_len_p, f_len_r, f_in_i, f_ni_i, f_ix_i, f_ix_p, f_ix_r, f_ix_b, p_fst, p_snd, f_list_i, f_list_t, f_list_r, mk_i, mk_p, mk_r, f_srt_i, f_srt_p, f_rev_i, f_rev_p, f_cat_i, f_cat_r, f_cat_p, f_rep_i, minL_map, maxL_map, sum_map, all_map, any_map, f_int1, f_intB, f_max2, f_min2,
  it_r1, it_r2, f_rg, itL_i, itL_p, itL_r, itL_b, itS_i, itS_r, f_lstM, f_lst0, f_lst1, f_lst2, f_lst3, f_lst4, f_lst5, f_lst6, f_lstr1, f_lstr2, f_eq_i, f_ne_i, f_eq_r, f_ne_r, f_eq_p, f_ne_p, f_eq_bl, f_ne_bl, rd_i, rd_b, rd_p, rd_rs, y_size, y_ties, y_wired, y_near, o_neighbours,
  isi_int, f_setL, f_srtU, f_srtS, f_is_bl, f_isn_bl, isi_bl, fr_dic, dic_nil, sl_dic, f_din, f_dni, f_dix, f_dic1, x_rdD, rd_dic, s_setD, set_dic, upF_const, o_ties, r_ties, isi_int_bl, isi_tup, isi_lst, isi_lt, sgx, spx, sgo, spo, og_nil, op_nil, restS, wipeS,
  List.getElem?_cons_zero, List.getElem?_cons_succ, List.set_cons_zero, List.set_cons_succ, List.getD_cons_zero, List.getD_cons_succ, List.cons_append, List.nil_append, List.append_nil, List.length_cons, List.length_nil, List.replicate_succ, List.replicate_zero, Nat.reduceSub, Nat.reduceAdd, true_and, and_true])
inductive Pth (A : Int → Int → Prop) : Int → Int → List Int → Prop
  | one (a : Int) : Pth A a a [a]
  | cons {a c b : Int} {P : List Int} : A a c → Pth A c b P → a ∉ P → Pth A a b (a :: P)
section
variable {n : Nat} {A : Int → Int → Prop} {a b c : Int} {P Q : List Int}
theorem Pth.hd (h : Pth A a b P) : ∃ r, P = a :: r := by
  cases h with
  | one => exact ⟨[], rfl⟩
  | cons h1 h2 h3 => exact ⟨_, rfl⟩
theorem Pth.fst (h : Pth A a b P) : a ∈ P := by
  obtain ⟨r, rfl⟩ := h.hd
  exact List.mem_cons_self
theorem Pth.lst (h : Pth A a b P) : ∃ r, P = r ++ [b] := by
  induction h with
  | one a => exact ⟨[], rfl⟩
  | cons h1 h2 h3 ih =>
    obtain ⟨r, rfl⟩ := ih
    exact ⟨_ :: r, rfl⟩
theorem Pth.snd (h : Pth A a b P) : b ∈ P := by
  obtain ⟨r, rfl⟩ := h.lst
  simp
theorem Pth.nd (h : Pth A a b P) : P.Nodup := by
  induction h with
  | one a => simp
  | cons h1 h2 h3 ih => exact List.nodup_cons.mpr ⟨h3, ih⟩
theorem Pth.snoc (h : Pth A a b P) (k : A b c) (hc : c ∉ P) : Pth A a c (P ++ [c]) := by
  induction h with
  | one a => exact .cons k (.one c) (by simpa [eq_comm] using hc)
  | cons h1 h2 h3 ih =>
    simp only [List.mem_cons, not_or] at hc
    exact .cons h1 (ih k hc.2) fun z => by
      rcases List.mem_append.mp z with z | z
      · exact h3 z
      · simp at z
        exact hc.1 z.symm
theorem Pth.rev (sym : ∀ u v, A u v → A v u) (h : Pth A a b P) : Pth A b a P.reverse := by
  induction h with
  | one a => exact .one a
  | cons h1 h2 h3 ih =>
    rw [List.reverse_cons]
    exact ih.snoc (sym _ _ h1) (by simpa using h3)
theorem Pth.same (h : Pth A a a P) : P = [a] := by
  cases h with
  | one => rfl
  | cons h1 h2 h3 => exact absurd h2.snd h3
theorem Pth.split (h : Pth A a b P) (hne : a ≠ b) : ∃ c P', P = a :: P' ∧ A a c ∧ Pth A c b P' ∧ a ∉ P' := by
  cases h with
  | one => exact absurd rfl hne
  | cons h1 h2 h3 => exact ⟨_, _, rfl, h1, h2, h3⟩
theorem pth_m (T : RT n A) (sym : ∀ u v, A u v → A v u) : ∀ (m : Nat) (a b : Int), T.rk a + T.rk b ≤ m → 0 ≤ a ∧ a < n → 0 ≤ b ∧ b < n → ∃ P, Pth A a b P ∧ InN n P ∧ ∀ x ∈ P, T.rk x ≤ max (T.rk a) (T.rk b)
  | m, a, b, hm, ha, hb => by
    by_cases hab : a = b
    · subst hab
      exact ⟨[a], .one a, fun v hv => by simp at hv; rw [hv]; exact ha, fun x hx => by simp at hx; rw [hx]; omega⟩
    have key : ∀ (a b : Int), T.rk a + T.rk b ≤ m → 0 ≤ a ∧ a < n → 0 ≤ b ∧ b < n → T.rk b < T.rk a → ∃ P, Pth A a b P ∧ InN n P ∧ ∀ x ∈ P, T.rk x ≤ max (T.rk a) (T.rk b) := by
      intro a b hm ha hb hlt
      have e1 : a ≠ T.root := fun e => by
        subst e
        have : ∀ (k : Nat) (v : Int), T.rk v ≤ k → 0 ≤ v → v < n → T.rk T.root ≤ T.rk v := by
          intro k
          induction k with
          | zero =>
            intro v hv h0 h1
            by_cases e : v = T.root
            · rw [e]; exact Nat.le_refl _
            · have := (T.up v h0 h1 e).2; omega
          | succ k ih =>
            intro v hv h0 h1
            by_cases e : v = T.root
            · rw [e]; exact Nat.le_refl _
            · obtain ⟨h2, h3⟩ := T.up v h0 h1 e
              have := ih (T.par v) (by omega) h2.1 h2.2
              omega
        have := this _ b (Nat.le_refl _) hb.1 hb.2
        omega
      obtain ⟨h2, lt⟩ := T.up a ha.1 ha.2 e1
      cases m with
      | zero => omega
      | succ m =>
        obtain ⟨P, h3, h4, h5⟩ := pth_m T sym m (T.par a) b (by omega) h2 hb
        refine ⟨a :: P, .cons ((T.adj a (T.par a) ha.1 ha.2 h2.1 h2.2).mpr (.inl ⟨e1, rfl⟩)) h3 fun z => ?_, fun v hv => ?_, fun x hx => ?_⟩
        · have := h5 a z
          omega
        · rcases List.mem_cons.mp hv with rfl | hv
          · exact ha
          · exact h4 v hv
        · rcases List.mem_cons.mp hx with rfl | hx
          · omega
          · have := h5 x hx
            omega
    rcases Nat.lt_trichotomy (T.rk b) (T.rk a) with h | h | h
    · exact key a b hm ha hb h
    · exact absurd (T.inj b a hb.1 hb.2 ha.1 ha.2 h).symm hab
    · obtain ⟨P, h1, h2, h3⟩ := key b a (by omega) hb ha h
      exact ⟨P.reverse, h1.rev sym, fun v hv => h2 v (List.mem_reverse.mp hv), fun x hx => by have := h3 x (List.mem_reverse.mp hx); omega⟩
theorem pth_ex (T : RT n A) (sym : ∀ u v, A u v → A v u) (ha : 0 ≤ a ∧ a < n) (hb : 0 ≤ b ∧ b < n) : ∃ P, Pth A a b P ∧ InN n P := by
  obtain ⟨P, h1, h2, _⟩ := pth_m T sym _ a b (Nat.le_refl _) ha hb
  exact ⟨P, h1, h2⟩
end
section
variable {n : Nat} {A : Int → Int → Prop} {nr : List (List Int)} {size : Int} {ts : List (Int × Int)} {ws up : List Int} {a b goal : Int}
/-- what toward tells: each known post but the goal has a neighbour known before it -/
structure TwI (n : Nat) (A : Int → Int → Prop) (goal : Int) (L : List Int) (f : Int → Int) : Prop where
  nd : L.Nodup
  inn : InN n L
  top : goal ∈ L
  nxt : ∀ x ∈ L, x ≠ goal → A x (f x) ∧ f x ∈ L ∧ L.idxOf (f x) < L.idxOf x
theorem o_path {P : Prop} : wOb "Yard" "path" (yD size ts ws nr) P = P := by
  have : yardF.contains "path" = false := by decide
  show ((("Yard" : Str) = "Yard" ∧ yardF.contains "path" = false) ∧ P) = P
  rw [this]
  simp
end
end W

/-! T32: trees without a fork: the spine. -/
namespace W
open PySem PySem.Spec PyProof.Rows L2 Z
local macro_rules | `(tactic| walk_at "w") => `(tactic| simp only [↓len_r1i, ↓len_r1p, ↓len_r1r, w_mC, w_mVar, w_m2x, w_m1x, w_mTst, w_mAnd, w_mOr, w_mNot, w_mIf, w_mBl, w_mFr, w_mSh, w_mCons, w_mRd, w_mRv, w_pVar, w_pIx, w_mCh, w_mYes', w_m2N, w_m1N, w_mStar, w_mSeq, w_mSl, w_mPart, x_mLook, x_mUse, x_mMov, x_mItV, x_mut, x_comp,
  s_next, s_seq, s_if, s_ret, s_asg, s_sto, s_own, s_drop, s_setI, s_augI, s_aug, s_bad, s_retN, s_brk, s_cnt, s_par, s_for,
  x_call1, x_call2, x_call3, x_call4, x_call5, x_call1s, x_call2s, x_call2t, x_call3s, x_call3t, x_call3u, x_call1b, x_call2b, x_call3b, x_call4b, x_meth0, x_meth1, x_meth2, x_meth1s, x_set, set_i, set_b, en_i, en_p, en_r, f_tupO2, f_tupO3, f_tup2d, fr_t2, fr_t3, slt_ow, ix_t0, ix_t1, ix_t2, wi_t0, wi_t1, og_t0, og_t1, op_t0, op_t1, f_eq_t2, f_ne_t2, o_size, o_wired, r_size, r_wired, x_mk, mk_ok, cut_map, ls_i, ls_r, ls_p, lst_rs, lst_is,
  f_add, f_sub, f_lt, f_le, f_gt, f_ge, f_mod, f_div, f_mul, f_eq, f_ne, f_neg, b_bl, l_sh, v_pl, o_ow, o_own, a_pl, k_pl, k_ow, u_pl, u_ow, mv_pl, mv_ow, i1_int, par2_ok, wF_some, g_nm, f_tp, g_cons, g_nil, wF_map,
  fr_i, fr_p, fr_rs, fr_b, fr_sh, sl_i, sl_p, sl_rs, sl_b, sl_sh, itv_i, itv_p, itv_rs, sq_i, sq_p, sq_r, is_i, is_p, is_r, il_i, il_p, il_rs, il_b,
  m_app_i, m_app_p, m_app_rs, m_app_b, m_rev_i, m_clr_i, m_rem_i, f_len_i, f_len_p, f_len_r, f_in_i, f_ni_i, f_ix_i, f_ix_p, f_ix_r, f_ix_b, p_fst, p_snd, f_list_i, f_list_t, f_list_r, mk_i, mk_p, mk_r, f_srt_i, f_srt_p, f_rev_i, f_rev_p, f_cat_i, f_cat_r, f_cat_p, f_rep_i, minL_map, maxL_map, sum_map, all_map, any_map, f_int1, f_intB, f_max2, f_min2,
  it_r1, it_r2, f_rg, itL_i, itL_p, itL_r, itL_b, itS_i, itS_r, f_lstM, f_lst0, f_lst1, f_lst2, f_lst3, f_lst4, f_lst5, f_lst6, f_lstr1, f_lstr2, f_eq_i, f_ne_i, f_eq_r, f_ne_r, f_eq_p, f_ne_p, f_eq_bl, f_ne_bl, rd_i, rd_b, rd_p, rd_rs, y_size, y_ties, y_wired, y_near, o_neighbours,
  isi_int, f_setL, f_srtU, f_srtS, f_is_bl, f_isn_bl, isi_bl, fr_dic, dic_nil, sl_dic, f_din, f_dni, f_dix, f_dic1, x_rdD, rd_dic, s_setD, set_dic, upF_const, o_ties, r_ties, isi_int_bl, isi_tup, isi_lst, isi_lt, sgx, spx, sgo, spo, og_nil, op_nil, restS, wipeS,
  List.getElem?_cons_zero, List.getElem?_cons_succ, List.set_cons_zero, List.set_cons_succ, List.getD_cons_zero, List.getD_cons_succ, List.cons_append, List.nil_append, List.append_nil, List.length_cons, List.length_nil, List.replicate_succ, List.replicate_zero, Nat.reduceSub, Nat.reduceAdd, true_and, and_true])
local macro_rules | `(tactic| walk_at "v") => `(tactic| simp only [↓len_r1i, ↓len_r1p, ↓len_r1r, w_mC, w_mVar, w_m2x, w_m1x, w_mTst, w_mAnd, w_mOr, w_mNot, w_mIf, w_mBl, w_mFr, w_mSh, w_mCons, w_mRd, w_mRv, w_pVar, w_pIx, w_mCh, w_mYes', w_m2N, w_m1N, w_mStar, w_mSeq, w_mSl, w_mPart, x_mLook, x_mUse, x_mMov, x_mItV, x_mut, x_comp,
  s_next, q_seq, kq_n, kq_r, kq_b, kq_c, s_ret, s_asg, s_sto, s_own, s_drop, s_setI, s_augI, s_aug, s_bad, s_retN, s_brk, s_cnt, s_par, s_for,
  x_call1, x_call2, x_call3, x_call4, x_call5, x_call1s, x_call2s, x_call2t, x_call3s, x_call3t, x_call3u, x_call1b, x_call2b, x_call3b, x_call4b, x_meth0, x_meth1, x_meth2, x_meth1s, x_set, set_i, set_b, en_i, en_p, en_r, f_tupO2, f_tupO3, f_tup2d, fr_t2, fr_t3, slt_ow, ix_t0, ix_t1, ix_t2, wi_t0, wi_t1, og_t0, og_t1, op_t0, op_t1, f_eq_t2, f_ne_t2, o_size, o_wired, r_size, r_wired, x_mk, mk_ok, cut_map, ls_i, ls_r, ls_p, lst_rs, lst_is,
  f_add, f_sub, f_lt, f_le, f_gt, f_ge, f_mod, f_div, f_mul, f_eq, f_ne, f_neg, b_bl, l_sh, v_pl, o_ow, o_own, a_pl, k_pl, k_ow, u_pl, u_ow, mv_pl, mv_ow, i1_int, par2_ok, wF_some, g_nm, f_tp, g_cons, g_nil, wF_map,
  fr_i, fr_p, fr_rs, fr_b, fr_sh, sl_i, sl_p, sl_rs, sl_b, sl_sh, itv_i, itv_p, itv_rs, sq_i, sq_p, sq_r, is_i, is_p, is_r, il_i, il_p, il_rs, il_b,
  m_app_i, m_app_p, m_app_rs, m_app_b, m_rev_i, m_clr_i, m_rem_i, f_len_i, f_len_p, f_len_r, f_in_i, f_ni_i, f_ix_i, f_ix_p, f_ix_r, f_ix_b, p_fst, p_snd, f_list_i, f_list_t, f_list_r, mk_i, mk_p, mk_r, f_srt_i, f_srt_p, f_rev_i, f_rev_p, f_cat_i, f_cat_r, f_cat_p, f_rep_i, minL_map, maxL_map, sum_map, all_map, any_map, f_int1, f_intB, f_max2, f_min2,
  it_r1, it_r2, f_rg, itL_i, itL_p, itL_r, itL_b, itS_i, itS_r, f_lstM, f_lst0, f_lst1, f_lst2, f_lst3, f_lst4, f_lst5, f_lst6, f_lstr1, f_lstr2, f_eq_i, f_ne_i, f_eq_r, f_ne_r, f_eq_p, f_ne_p, f_eq_bl, f_ne_bl, rd_i, rd_b, rd_p, rd_rs, y_size, y_ties, y_wired, y_near, o_neighbours,
  isi_int, f_setL, f_srtU, f_srtS, f_is_bl, f_isn_bl, isi_bl, fr_dic, dic_nil, sl_dic, f_din, f_dni, f_dix, f_dic1, x_rdD, rd_dic, s_setD, set_dic, upF_const, o_ties, r_ties, isi_int_bl, isi_tup, isi_lst, isi_lt, sgx, spx, sgo, spo, og_nil, op_nil, restS, wipeS,
  List.getElem?_cons_zero, List.getElem?_cons_succ, List.set_cons_zero, List.set_cons_succ, List.getD_cons_zero, List.getD_cons_succ, List.cons_append, List.nil_append, List.append_nil, List.length_cons, List.length_nil, List.replicate_succ, List.replicate_zero, Nat.reduceSub, Nat.reduceAdd, true_and, and_true])
/-- the posts with two neighbours or more -/
def inr (size : Int) (nr : List (List Int)) : List Int := (rng 0 size).filter fun p => decide ((1 : Int) < ((nb nr p).length : Int))
/-- the inner neighbours -/
def ib (size : Int) (nr : List (List Int)) (p : Int) : List Int := (nb nr p).filter fun q => decide (q ∈ inr size nr)
section
variable {n : Nat} {A : Int → Int → Prop} {nr : List (List Int)} {size : Int} {a b c p q : Int} {P Q C : List Int}
theorem inr_mem (hs : size = n) : p ∈ inr size nr ↔ (0 ≤ p ∧ p < n) ∧ 1 < (nb nr p).length := by
  unfold inr
  rw [List.mem_filter, rng_mem, decide_eq_true_eq]
  omega
theorem inr_pos (hs : size = n) : PosOk n (inr size nr) := pos_filter (pos_rng hs) _
theorem ib_mem : q ∈ ib size nr p ↔ q ∈ nb nr p ∧ q ∈ inr size nr := by
  unfold ib
  rw [List.mem_filter, decide_eq_true_eq]
theorem two_of {L : List Int} {x y : Int} (hx : x ∈ L) (hy : y ∈ L) (h : x ≠ y) : 1 < L.length := by
  cases L with
  | nil => cases hx
  | cons a r =>
    cases r with
    | nil => simp at hx hy; exact absurd (hx.trans hy.symm) h
    | cons b r => simp
theorem lng_ib (hn : NearOk n A nr) (sym : ∀ u v, A u v → A v u) (hs : size = n) (hp : 0 ≤ p ∧ p < n) : lngOf nr p = ib size nr p := by
  unfold lngOf ib
  refine List.filter_congr fun q hq => ?_
  have hqn := hn.inn p hp.1 hp.2 q hq
  have h1 := byd_ne hn sym hp hq
  have h2 : (q ∈ inr size nr) ↔ byd nr q p ≠ [] := by
    rw [inr_mem hs, h1]
    omega
  by_cases h : byd nr q p = []
  · rw [decide_eq_true h, decide_eq_false fun z => h2.mp z h]
    rfl
  · rw [decide_eq_false h, decide_eq_true (h2.mpr h)]
    rfl
/-- without a fork -/
theorem no_fork (hn : NearOk n A nr) (sym : ∀ u v, A u v → A v u) (hs : size = n) (hf : fkOf size nr = none) (hp : 0 ≤ p ∧ p < n) : (ib size nr p).length ≤ 1 ∨ (nb nr p).length ≤ 2 := by
  have h1 : isFk nr p = false := by
    unfold fkOf at hf
    rw [Option.map_eq_none_iff, List.find?_eq_none] at hf
    have := hf p (rng_mem.mpr (by omega))
    simpa using this
  unfold isFk at h1
  rw [lng_ib hn sym hs hp] at h1
  rw [Bool.and_eq_false_iff, decide_eq_false_iff_not, decide_eq_false_iff_not] at h1
  omega
theorem ib_two (hn : NearOk n A nr) (sym : ∀ u v, A u v → A v u) (hs : size = n) (hf : fkOf size nr = none) (hp : 0 ≤ p ∧ p < n) : (ib size nr p).length ≤ 2 := by
  have h1 : (ib size nr p).length ≤ (nb nr p).length := List.length_filter_le _ _
  rcases no_fork hn sym hs hf hp with h | h <;> omega
theorem Pth.nxt (h : Pth A a b P) (hne : a ≠ b) : ∃ c, A a c ∧ c ∈ P ∧ c ≠ a := by
  obtain ⟨c, P', rfl, h1, h2, h3⟩ := h.split hne
  exact ⟨c, h1, List.mem_cons_of_mem _ h2.fst, fun e => h3 (e ▸ h2.fst)⟩
/-- a way between inner posts has inner posts only -/
theorem Pth.inner (hn : NearOk n A nr) (sym : ∀ u v, A u v → A v u) (hs : size = n) (h : Pth A c b P) : InN n P → b ∈ inr size nr → (c ∈ inr size nr ∨ ∃ a, A a c ∧ a ∉ P) → ∀ x ∈ P, x ∈ inr size nr := by
  induction h with
  | one c => intro iP hb _ x hx; simp at hx; rw [hx]; exact hb
  | @cons c d b P' h1 h2 h3 ih =>
    intro iP hb ha x hx
    have hc := iP c List.mem_cons_self
    have iP' : InN n P' := fun v hv => iP v (List.mem_cons_of_mem _ hv)
    rcases List.mem_cons.mp hx with rfl | hx
    · rcases ha with h | ⟨a, ha1, ha2⟩
      · exact h
      · have m1 := (hn.mem x hc.1 hc.2 a).mpr (sym _ _ ha1)
        have m2 := (hn.mem x hc.1 hc.2 d).mpr h1
        exact (inr_mem hs).mpr ⟨hc, two_of m1 m2 fun e => ha2 (List.mem_cons_of_mem _ (e ▸ h2.fst))⟩
    · exact ih iP' hb (.inr ⟨c, h1, h3⟩) x hx
/-- closed among the inner posts: all of them -/
theorem inner_all (T : RT n A) (hn : NearOk n A nr) (sym : ∀ u v, A u v → A v u) (hs : size = n) (hc : ∀ x ∈ C, ∀ y ∈ inr size nr, A x y → y ∈ C) (ha : a ∈ C) (hai : a ∈ inr size nr) : ∀ v ∈ inr size nr, v ∈ C := by
  intro v hv
  obtain ⟨P, hP, iP⟩ := pth_ex T sym ((inr_mem hs).mp hai).1 ((inr_mem hs).mp hv).1
  have hin := hP.inner hn sym hs iP hv (.inl hai)
  have key : ∀ {a b : Int} {P : List Int}, Pth A a b P → (∀ x ∈ P, x ∈ inr size nr) → a ∈ C → ∀ x ∈ P, x ∈ C := by
    intro a b P h
    induction h with
    | one a => intro _ ha x hx; simp at hx; rw [hx]; exact ha
    | cons h1 h2 h3 ih =>
      intro hin ha x hx
      rcases List.mem_cons.mp hx with rfl | hx
      · exact ha
      · exact ih (fun y hy => hin y (List.mem_cons_of_mem _ hy)) (hc _ ha _ (hin _ (List.mem_cons_of_mem _ h2.fst)) h1) x hx
  exact key hP hin ha v hP.snd
/-- the ends of the spine -/
def endsL (size : Int) (nr : List (List Int)) : List Int := (inr size nr).filter fun p => decide (((ib size nr p).length : Int) < 2)
theorem ends_mem : p ∈ endsL size nr ↔ p ∈ inr size nr ∧ (ib size nr p).length < 2 := by
  unfold endsL
  rw [List.mem_filter, decide_eq_true_eq]
  constructor
  · rintro ⟨h1, h2⟩; exact ⟨h1, by omega⟩
  · rintro ⟨h1, h2⟩; exact ⟨h1, by omega⟩
/-- the walk along the spine -/
structure SpI (n : Nat) (A : Int → Int → Prop) (size : Int) (nr : List (List Int)) (e x : Int) (P : List Int) : Prop where
  pth : Pth A e x P
  inn : ∀ v ∈ P, v ∈ inr size nr
  clo : ∀ y ∈ P, y ≠ x → ∀ z ∈ inr size nr, A y z → z ∈ P
def nxtL (size : Int) (nr : List (List Int)) (x : Int) (P : List Int) : List Int := (nb nr x).filter fun q => decide (q ∈ inr size nr) && !decide (q ∈ P)
theorem Pth.prd (sym : ∀ u v, A u v → A v u) (h : Pth A a b P) (hne : a ≠ b) : ∃ c, A b c ∧ c ∈ P ∧ c ≠ b := by
  obtain ⟨c, h1, h2, h3⟩ := (h.rev sym).nxt (fun e => hne e.symm)
  exact ⟨c, h1, List.mem_reverse.mp h2, h3⟩
theorem SpI.next (T : RT n A) (hn : NearOk n A nr) (sym : ∀ u v, A u v → A v u) (hs : size = n) (hf : fkOf size nr = none) {e x : Int} (he : e ∈ endsL size nr) (h : SpI n A size nr e x P) (hl : P.length < (inr size nr).length) : ∃ z, nxtL size nr x P = [z] ∧ SpI n A size nr e z (P ++ [z]) := by
  have hx := h.inn x h.pth.snd
  have hxn := ((inr_mem hs).mp hx).1
  have hmem : ∀ q, q ∈ nxtL size nr x P ↔ A x q ∧ q ∈ inr size nr ∧ q ∉ P := fun q => by
    unfold nxtL
    rw [List.mem_filter, hn.mem x hxn.1 hxn.2]
    simp
  have hne : nxtL size nr x P ≠ [] := fun z => by
    have hc : ∀ y ∈ P, ∀ w ∈ inr size nr, A y w → w ∈ P := fun y hy w hw hA => by
      by_cases e1 : y = x
      · refine Decidable.byContradiction fun hwP => ?_
        have := (hmem w).mpr ⟨e1 ▸ hA, hw, hwP⟩
        rw [z] at this
        cases this
      · exact h.clo y hy e1 w hw hA
    have hall := inner_all T hn sym hs hc h.pth.fst (h.inn _ h.pth.fst)
    have := sub_len (inr_pos hs).nd hall
    omega
  have hone : (nxtL size nr x P).length ≤ 1 := by
    have hsub : (nxtL size nr x P).Nodup := (hn.nd x hxn.1 hxn.2).sublist List.filter_sublist
    by_cases hex : e = x
    · have h1 := (ends_mem.mp he).2
      rw [hex] at h1
      have : (nxtL size nr x P).length ≤ (ib size nr x).length := sub_len hsub fun q hq => by
        obtain ⟨q1, q2, q3⟩ := (hmem q).mp hq
        exact ib_mem.mpr ⟨(hn.mem x hxn.1 hxn.2 q).mpr q1, q2⟩
      omega
    · obtain ⟨c, c1, c2, c3⟩ := h.pth.prd sym hex
      have hc : c ∉ nxtL size nr x P := fun z => ((hmem c).mp z).2.2 c2
      have : (c :: nxtL size nr x P).length ≤ (ib size nr x).length := sub_len (List.nodup_cons.mpr ⟨hc, hsub⟩) fun q hq => by
        rcases List.mem_cons.mp hq with rfl | hq
        · exact ib_mem.mpr ⟨(hn.mem x hxn.1 hxn.2 q).mpr c1, h.inn q c2⟩
        · obtain ⟨q1, q2, q3⟩ := (hmem q).mp hq
          exact ib_mem.mpr ⟨(hn.mem x hxn.1 hxn.2 q).mpr q1, q2⟩
      have := ib_two hn sym hs hf hxn
      rw [List.length_cons] at *
      omega
  obtain ⟨z, hz⟩ : ∃ z, nxtL size nr x P = [z] := by
    match e : nxtL size nr x P, hne, hone with
    | [z], _, _ => exact ⟨z, rfl⟩
    | [], h, _ => exact absurd rfl h
    | _ :: _ :: _, _, h => simp at h
  have hzm := (hmem z).mp (by rw [hz]; simp)
  refine ⟨z, hz, h.pth.snoc hzm.1 hzm.2.2, fun v hv => ?_, fun y hy hyz w hw hA => ?_⟩
  · rcases List.mem_append.mp hv with hv | hv
    · exact h.inn v hv
    · simp at hv; rw [hv]; exact hzm.2.1
  · have hyP : y ∈ P := by
      rcases List.mem_append.mp hy with hy | hy
      · exact hy
      · simp at hy; exact absurd hy hyz
    by_cases e1 : y = x
    · by_cases hwP : w ∈ P
      · exact List.mem_append_left _ hwP
      · have : w ∈ nxtL size nr x P := (hmem w).mpr ⟨e1 ▸ hA, hw, hwP⟩
        rw [hz] at this
        exact List.mem_append_right _ this
    · exact List.mem_append_left _ (h.clo y hyP e1 w hw hA)
end
end W

/-! T33: brooms told. -/
namespace W
open PySem PySem.Spec PyProof.Rows L2 Z
local macro_rules | `(tactic| walk_at "w") => `(tactic| simp only [↓len_r1i, ↓len_r1p, ↓len_r1r, w_mC, w_mVar, w_m2x, w_m1x, w_mTst, w_mAnd, w_mOr, w_mNot, w_mIf, w_mBl, w_mFr, w_mSh, w_mCons, w_mRd, w_mRv, w_pVar, w_pIx, w_mCh, w_mYes', w_m2N, w_m1N, w_mStar, w_mSeq, w_mSl, w_mPart, x_mLook, x_mUse, x_mMov, x_mItV, x_mut, x_comp,
  s_next, s_seq, s_if, s_ret, s_asg, s_sto, s_own, s_drop, s_setI, s_augI, s_aug, s_bad, s_retN, s_brk, s_cnt, s_par, s_for,
  x_call1, x_call2, x_call3, x_call4, x_call5, x_call1s, x_call2s, x_call2t, x_call3s, x_call3t, x_call3u, x_call1b, x_call2b, x_call3b, x_call4b, x_meth0, x_meth1, x_meth2, x_meth1s, x_set, set_i, set_b, en_i, en_p, en_r, f_tupO2, f_tupO3, f_tup2d, fr_t2, fr_t3, slt_ow, ix_t0, ix_t1, ix_t2, wi_t0, wi_t1, og_t0, og_t1, op_t0, op_t1, f_eq_t2, f_ne_t2, o_size, o_wired, r_size, r_wired, x_mk, mk_ok, cut_map, ls_i, ls_r, ls_p, lst_rs, lst_is,
  f_add, f_sub, f_lt, f_le, f_gt, f_ge, f_mod, f_div, f_mul, f_eq, f_ne, f_neg, b_bl, l_sh, v_pl, o_ow, o_own, a_pl, k_pl, k_ow, u_pl, u_ow, mv_pl, mv_ow, i1_int, par2_ok, wF_some, g_nm, f_tp, g_cons, g_nil, wF_map,
  fr_i, fr_p, fr_rs, fr_b, fr_sh, sl_i, sl_p, sl_rs, sl_b, sl_sh, itv_i, itv_p, itv_rs, sq_i, sq_p, sq_r, is_i, is_p, is_r, il_i, il_p, il_rs, il_b,
  m_app_i, m_app_p, m_app_rs, m_app_b, m_rev_i, m_clr_i, m_rem_i, f_len_i, f_len_p, f_len_r, f_in_i, f_ni_i, f_ix_i, f_ix_p, f_ix_r, f_ix_b, p_fst, p_snd, f_list_i, f_list_t, f_list_r, mk_i, mk_p, mk_r, f_srt_i, f_srt_p, f_rev_i, f_rev_p, f_cat_i, f_cat_r, f_cat_p, f_rep_i, minL_map, maxL_map, sum_map, all_map, any_map, f_int1, f_intB, f_max2, f_min2,
  it_r1, it_r2, f_rg, itL_i, itL_p, itL_r, itL_b, itS_i, itS_r, f_lstM, f_lst0, f_lst1, f_lst2, f_lst3, f_lst4, f_lst5, f_lst6, f_lstr1, f_lstr2, f_eq_i, f_ne_i, f_eq_r, f_ne_r, f_eq_p, f_ne_p, f_eq_bl, f_ne_bl, rd_i, rd_b, rd_p, rd_rs, y_size, y_ties, y_wired, y_near, o_neighbours,
  isi_int, f_setL, f_srtU, f_srtS, f_is_bl, f_isn_bl, isi_bl, fr_dic, dic_nil, sl_dic, f_din, f_dni, f_dix, f_dic1, x_rdD, rd_dic, s_setD, set_dic, upF_const, o_ties, r_ties, isi_int_bl, isi_tup, isi_lst, isi_lt, sgx, spx, sgo, spo, og_nil, op_nil, restS, wipeS,
  List.getElem?_cons_zero, List.getElem?_cons_succ, List.set_cons_zero, List.set_cons_succ, List.getD_cons_zero, List.getD_cons_succ, List.cons_append, List.nil_append, List.append_nil, List.length_cons, List.length_nil, List.replicate_succ, List.replicate_zero, Nat.reduceSub, Nat.reduceAdd, true_and, and_true])
local macro_rules | `(tactic| walk_at "v") => `(tactic| simp only [↓len_r1i, ↓len_r1p, ↓len_r1r, w_mC, w_mVar, w_m2x, w_m1x, w_mTst, w_mAnd, w_mOr, w_mNot, w_mIf, w_mBl, w_mFr, w_mSh, w_mCons, w_mRd, w_mRv, w_pVar, w_pIx, w_mCh, w_mYes', w_m2N, w_m1N, w_mStar, w_mSeq, w_mSl, w_mPart, x_mLook, x_mUse, x_mMov, x_mItV, x_mut, x_comp,
  s_next, q_seq, kq_n, kq_r, kq_b, kq_c, s_ret, s_asg, s_sto, s_own, s_drop, s_setI, s_augI, s_aug, s_bad, s_retN, s_brk, s_cnt, s_par, s_for,
  x_call1, x_call2, x_call3, x_call4, x_call5, x_call1s, x_call2s, x_call2t, x_call3s, x_call3t, x_call3u, x_call1b, x_call2b, x_call3b, x_call4b, x_meth0, x_meth1, x_meth2, x_meth1s, x_set, set_i, set_b, en_i, en_p, en_r, f_tupO2, f_tupO3, f_tup2d, fr_t2, fr_t3, slt_ow, ix_t0, ix_t1, ix_t2, wi_t0, wi_t1, og_t0, og_t1, op_t0, op_t1, f_eq_t2, f_ne_t2, o_size, o_wired, r_size, r_wired, x_mk, mk_ok, cut_map, ls_i, ls_r, ls_p, lst_rs, lst_is,
  f_add, f_sub, f_lt, f_le, f_gt, f_ge, f_mod, f_div, f_mul, f_eq, f_ne, f_neg, b_bl, l_sh, v_pl, o_ow, o_own, a_pl, k_pl, k_ow, u_pl, u_ow, mv_pl, mv_ow, i1_int, par2_ok, wF_some, g_nm, f_tp, g_cons, g_nil, wF_map,
  fr_i, fr_p, fr_rs, fr_b, fr_sh, sl_i, sl_p, sl_rs, sl_b, sl_sh, itv_i, itv_p, itv_rs, sq_i, sq_p, sq_r, is_i, is_p, is_r, il_i, il_p, il_rs, il_b,
  m_app_i, m_app_p, m_app_rs, m_app_b, m_rev_i, m_clr_i, m_rem_i, f_len_i, f_len_p, f_len_r, f_in_i, f_ni_i, f_ix_i, f_ix_p, f_ix_r, f_ix_b, p_fst, p_snd, f_list_i, f_list_t, f_list_r, mk_i, mk_p, mk_r, f_srt_i, f_srt_p, f_rev_i, f_rev_p, f_cat_i, f_cat_r, f_cat_p, f_rep_i, minL_map, maxL_map, sum_map, all_map, any_map, f_int1, f_intB, f_max2, f_min2,
  it_r1, it_r2, f_rg, itL_i, itL_p, itL_r, itL_b, itS_i, itS_r, f_lstM, f_lst0, f_lst1, f_lst2, f_lst3, f_lst4, f_lst5, f_lst6, f_lstr1, f_lstr2, f_eq_i, f_ne_i, f_eq_r, f_ne_r, f_eq_p, f_ne_p, f_eq_bl, f_ne_bl, rd_i, rd_b, rd_p, rd_rs, y_size, y_ties, y_wired, y_near, o_neighbours,
  isi_int, f_setL, f_srtU, f_srtS, f_is_bl, f_isn_bl, isi_bl, fr_dic, dic_nil, sl_dic, f_din, f_dni, f_dix, f_dic1, x_rdD, rd_dic, s_setD, set_dic, upF_const, o_ties, r_ties, isi_int_bl, isi_tup, isi_lst, isi_lt, sgx, spx, sgo, spo, og_nil, op_nil, restS, wipeS,
  List.getElem?_cons_zero, List.getElem?_cons_succ, List.set_cons_zero, List.set_cons_succ, List.getD_cons_zero, List.getD_cons_succ, List.cons_append, List.nil_append, List.append_nil, List.length_cons, List.length_nil, List.replicate_succ, List.replicate_zero, Nat.reduceSub, Nat.reduceAdd, true_and, and_true])
section
variable {n : Nat} {A : Int → Int → Prop} {nr : List (List Int)} {size : Int} {ts : List (Int × Int)} {ws : List Int} {a b c e x y p q : Int} {P Q C L R : List Int}
theorem Pth.mid (h : Pth A a b P) : ∀ {y : Int}, y ∈ P → y ≠ a → y ≠ b → ∃ c d, c ≠ d ∧ A c y ∧ A y d ∧ c ∈ P ∧ d ∈ P := by
  induction h with
  | one a => intro y hy hya; simp at hy; exact absurd hy hya
  | @cons a d b P' h1 h2 h3 ih =>
    intro y hy hya hyb
    have hy' : y ∈ P' := (List.mem_cons.mp hy).resolve_left hya
    by_cases e : y = d
    · subst e
      obtain ⟨z, z1, z2, z3⟩ := h2.nxt hyb
      exact ⟨a, z, fun q => h3 (q ▸ z2), h1, z1, List.mem_cons_self, List.mem_cons_of_mem _ z2⟩
    · obtain ⟨c, z, h4, h5, h6, h7, h8⟩ := ih hy' e hyb
      exact ⟨c, z, h4, h5, h6, List.mem_cons_of_mem _ h7, List.mem_cons_of_mem _ h8⟩
/-- the first end -/
def end0 (size : Int) (nr : List (List Int)) : Int := (endsL size nr).headD 0
/-- the spine, from its first end to x -/
def Spine (n : Nat) (A : Int → Int → Prop) (size : Int) (nr : List (List Int)) (x : Int) (P : List Int) : Prop := SpI n A size nr (end0 size nr) x P ∧ ∀ v, v ∈ P ↔ v ∈ inr size nr
theorem Spine.len (hs : size = n) (h : Spine n A size nr x P) : P.length = (inr size nr).length := by
  have h1 := sub_len h.1.pth.nd fun v hv => (h.2 v).mp hv
  have h2 := sub_len (inr_pos (nr := nr) hs).nd fun v hv => (h.2 v).mpr hv
  omega
theorem Spine.inn (hs : size = n) (h : Spine n A size nr x P) : InN n P := fun v hv => ((inr_mem hs).mp ((h.2 v).mp hv)).1
theorem Spine.only (T : RT n A) (hn : NearOk n A nr) (sym : ∀ u v, A u v → A v u) (hs : size = n) (h : Spine n A size nr x P) (hy : y ∈ endsL size nr) : y = end0 size nr ∨ y = x := by
  obtain ⟨h1, h2⟩ := ends_mem.mp hy
  have hyn := ((inr_mem hs).mp h1).1
  refine Decidable.byContradiction fun z => ?_
  rw [not_or] at z
  obtain ⟨c, d, h3, h4, h5, h6, h7⟩ := h.1.pth.mid ((h.2 y).mpr h1) z.1 z.2
  have m1 : c ∈ ib size nr y := ib_mem.mpr ⟨(hn.mem y hyn.1 hyn.2 c).mpr (sym _ _ h4), (h.2 c).mp h6⟩
  have m2 : d ∈ ib size nr y := ib_mem.mpr ⟨(hn.mem y hyn.1 hyn.2 d).mpr h5, (h.2 d).mp h7⟩
  have := two_of m1 m2 h3
  omega
end
end W

/-! T34: brooms: the program's and the law's. -/
namespace W
open PySem PySem.Spec PyProof.Rows L2 Z
local macro_rules | `(tactic| walk_at "w") => `(tactic| simp only [↓len_r1i, ↓len_r1p, ↓len_r1r, w_mC, w_mVar, w_m2x, w_m1x, w_mTst, w_mAnd, w_mOr, w_mNot, w_mIf, w_mBl, w_mFr, w_mSh, w_mCons, w_mRd, w_mRv, w_pVar, w_pIx, w_mCh, w_mYes', w_m2N, w_m1N, w_mStar, w_mSeq, w_mSl, w_mPart, x_mLook, x_mUse, x_mMov, x_mItV, x_mut, x_comp,
  s_next, s_seq, s_if, s_ret, s_asg, s_sto, s_own, s_drop, s_setI, s_augI, s_aug, s_bad, s_retN, s_brk, s_cnt, s_par, s_for,
  x_call1, x_call2, x_call3, x_call4, x_call5, x_call1s, x_call2s, x_call2t, x_call3s, x_call3t, x_call3u, x_call1b, x_call2b, x_call3b, x_call4b, x_meth0, x_meth1, x_meth2, x_meth1s, x_set, set_i, set_b, en_i, en_p, en_r, f_tupO2, f_tupO3, f_tup2d, fr_t2, fr_t3, slt_ow, ix_t0, ix_t1, ix_t2, wi_t0, wi_t1, og_t0, og_t1, op_t0, op_t1, f_eq_t2, f_ne_t2, o_size, o_wired, r_size, r_wired, x_mk, mk_ok, cut_map, ls_i, ls_r, ls_p, lst_rs, lst_is,
  f_add, f_sub, f_lt, f_le, f_gt, f_ge, f_mod, f_div, f_mul, f_eq, f_ne, f_neg, b_bl, l_sh, v_pl, o_ow, o_own, a_pl, k_pl, k_ow, u_pl, u_ow, mv_pl, mv_ow, i1_int, par2_ok, wF_some, g_nm, f_tp, g_cons, g_nil, wF_map,
  fr_i, fr_p, fr_rs, fr_b, fr_sh, sl_i, sl_p, sl_rs, sl_b, sl_sh, itv_i, itv_p, itv_rs, sq_i, sq_p, sq_r, is_i, is_p, is_r, il_i, il_p, il_rs, il_b,
  m_app_i, m_app_p, m_app_rs, m_app_b, m_rev_i, m_clr_i, m_rem_i, f_len_i, f_len_p, f_len_r, f_in_i, f_ni_i, f_ix_i, f_ix_p, f_ix_r, f_ix_b, p_fst, p_snd, f_list_i, f_list_t, f_list_r, mk_i, mk_p, mk_r, f_srt_i, f_srt_p, f_rev_i, f_rev_p, f_cat_i, f_cat_r, f_cat_p, f_rep_i, minL_map, maxL_map, sum_map, all_map, any_map, f_int1, f_intB, f_max2, f_min2,
  it_r1, it_r2, f_rg, itL_i, itL_p, itL_r, itL_b, itS_i, itS_r, f_lstM, f_lst0, f_lst1, f_lst2, f_lst3, f_lst4, f_lst5, f_lst6, f_lstr1, f_lstr2, f_eq_i, f_ne_i, f_eq_r, f_ne_r, f_eq_p, f_ne_p, f_eq_bl, f_ne_bl, rd_i, rd_b, rd_p, rd_rs, y_size, y_ties, y_wired, y_near, o_neighbours,
  isi_int, f_setL, f_srtU, f_srtS, f_is_bl, f_isn_bl, isi_bl, fr_dic, dic_nil, sl_dic, f_din, f_dni, f_dix, f_dic1, x_rdD, rd_dic, s_setD, set_dic, upF_const, o_ties, r_ties, isi_int_bl, isi_tup, isi_lst, isi_lt, sgx, spx, sgo, spo, og_nil, op_nil, restS, wipeS,
  List.getElem?_cons_zero, List.getElem?_cons_succ, List.set_cons_zero, List.set_cons_succ, List.getD_cons_zero, List.getD_cons_succ, List.cons_append, List.nil_append, List.append_nil, List.length_cons, List.length_nil, List.replicate_succ, List.replicate_zero, Nat.reduceSub, Nat.reduceAdd, true_and, and_true])
local macro_rules | `(tactic| walk_at "v") => `(tactic| simp only [↓len_r1i, ↓len_r1p, ↓len_r1r, w_mC, w_mVar, w_m2x, w_m1x, w_mTst, w_mAnd, w_mOr, w_mNot, w_mIf, w_mBl, w_mFr, w_mSh, w_mCons, w_mRd, w_mRv, w_pVar, w_pIx, w_mCh, w_mYes', w_m2N, w_m1N, w_mStar, w_mSeq, w_mSl, w_mPart, x_mLook, x_mUse, x_mMov, x_mItV, x_mut, x_comp,
  s_next, q_seq, kq_n, kq_r, kq_b, kq_c, s_ret, s_asg, s_sto, s_own, s_drop, s_setI, s_augI, s_aug, s_bad, s_retN, s_brk, s_cnt, s_par, s_for,
  x_call1, x_call2, x_call3, x_call4, x_call5, x_call1s, x_call2s, x_call2t, x_call3s, x_call3t, x_call3u, x_call1b, x_call2b, x_call3b, x_call4b, x_meth0, x_meth1, x_meth2, x_meth1s, x_set, set_i, set_b, en_i, en_p, en_r, f_tupO2, f_tupO3, f_tup2d, fr_t2, fr_t3, slt_ow, ix_t0, ix_t1, ix_t2, wi_t0, wi_t1, og_t0, og_t1, op_t0, op_t1, f_eq_t2, f_ne_t2, o_size, o_wired, r_size, r_wired, x_mk, mk_ok, cut_map, ls_i, ls_r, ls_p, lst_rs, lst_is,
  f_add, f_sub, f_lt, f_le, f_gt, f_ge, f_mod, f_div, f_mul, f_eq, f_ne, f_neg, b_bl, l_sh, v_pl, o_ow, o_own, a_pl, k_pl, k_ow, u_pl, u_ow, mv_pl, mv_ow, i1_int, par2_ok, wF_some, g_nm, f_tp, g_cons, g_nil, wF_map,
  fr_i, fr_p, fr_rs, fr_b, fr_sh, sl_i, sl_p, sl_rs, sl_b, sl_sh, itv_i, itv_p, itv_rs, sq_i, sq_p, sq_r, is_i, is_p, is_r, il_i, il_p, il_rs, il_b,
  m_app_i, m_app_p, m_app_rs, m_app_b, m_rev_i, m_clr_i, m_rem_i, f_len_i, f_len_p, f_len_r, f_in_i, f_ni_i, f_ix_i, f_ix_p, f_ix_r, f_ix_b, p_fst, p_snd, f_list_i, f_list_t, f_list_r, mk_i, mk_p, mk_r, f_srt_i, f_srt_p, f_rev_i, f_rev_p, f_cat_i, f_cat_r, f_cat_p, f_rep_i, minL_map, maxL_map, sum_map, all_map, any_map, f_int1, f_intB, f_max2, f_min2,
  it_r1, it_r2, f_rg, itL_i, itL_p, itL_r, itL_b, itS_i, itS_r, f_lstM, f_lst0, f_lst1, f_lst2, f_lst3, f_lst4, f_lst5, f_lst6, f_lstr1, f_lstr2, f_eq_i, f_ne_i, f_eq_r, f_ne_r, f_eq_p, f_ne_p, f_eq_bl, f_ne_bl, rd_i, rd_b, rd_p, rd_rs, y_size, y_ties, y_wired, y_near, o_neighbours,
  isi_int, f_setL, f_srtU, f_srtS, f_is_bl, f_isn_bl, isi_bl, fr_dic, dic_nil, sl_dic, f_din, f_dni, f_dix, f_dic1, x_rdD, rd_dic, s_setD, set_dic, upF_const, o_ties, r_ties, isi_int_bl, isi_tup, isi_lst, isi_lt, sgx, spx, sgo, spo, og_nil, op_nil, restS, wipeS,
  List.getElem?_cons_zero, List.getElem?_cons_succ, List.set_cons_zero, List.set_cons_succ, List.getD_cons_zero, List.getD_cons_succ, List.cons_append, List.nil_append, List.append_nil, List.length_cons, List.length_nil, List.replicate_succ, List.replicate_zero, Nat.reduceSub, Nat.reduceAdd, true_and, and_true])
section
variable {n : Nat} {A : Int → Int → Prop} {nr : List (List Int)} {size : Int} {ts : List (Int × Int)} {ws up : List Int} {a b c e x y p q : Int} {P Q C L R : List Int}
theorem set_rs {ns : List (List Int)} {r : Int} {x : List Int} {P : O → Prop} : wSetO (some (rsO ns)) (.int r) (.sh (iD x)) P = wF (ixN ns.length r) fun j => P (rsO (ns.set j x)) := set_map (f := fun r => O.sh (iD r))
theorem f_itT {ds : List D} {P : List D → Prop} : wF (itT (.tup ds)) P = P ds := propext Iff.rfl
end
end W

/-! T35: the path of a bound yard: parts, flags laid, the straightening, borders. -/
namespace W
open PySem PySem.Spec PyProof.Rows L2 Z
local macro_rules | `(tactic| walk_at "w") => `(tactic| simp only [↓len_r1i, ↓len_r1p, ↓len_r1r, w_mC, w_mVar, w_m2x, w_m1x, w_mTst, w_mAnd, w_mOr, w_mNot, w_mIf, w_mBl, w_mFr, w_mSh, w_mCons, w_mRd, w_mRv, w_pVar, w_pIx, w_mCh, w_mYes', w_m2N, w_m1N, w_mStar, w_mSeq, w_mSl, w_mPart, x_mLook, x_mUse, x_mMov, x_mItV, x_mut, x_comp,
  s_next, s_seq, s_if, s_ret, s_asg, s_sto, s_own, s_drop, s_setI, s_augI, s_aug, s_bad, s_retN, s_brk, s_cnt, s_par, s_for,
  x_call1, x_call2, x_call3, x_call4, x_call5, x_call1s, x_call2s, x_call2t, x_call3s, x_call3t, x_call3u, x_call1b, x_call2b, x_call3b, x_call4b, x_meth0, x_meth1, x_meth2, x_meth1s, x_set, set_i, set_b, en_i, en_p, en_r, f_tupO2, f_tupO3, f_tup2d, fr_t2, fr_t3, slt_ow, ix_t0, ix_t1, ix_t2, wi_t0, wi_t1, og_t0, og_t1, op_t0, op_t1, f_eq_t2, f_ne_t2, o_size, o_wired, r_size, r_wired, x_mk, mk_ok, cut_map, ls_i, ls_r, ls_p, lst_rs, lst_is,
  f_add, f_sub, f_lt, f_le, f_gt, f_ge, f_mod, f_div, f_mul, f_eq, f_ne, f_neg, b_bl, l_sh, v_pl, o_ow, o_own, a_pl, k_pl, k_ow, u_pl, u_ow, mv_pl, mv_ow, i1_int, par2_ok, wF_some, g_nm, f_tp, g_cons, g_nil, wF_map,
  fr_i, fr_p, fr_rs, fr_b, fr_sh, sl_i, sl_p, sl_rs, sl_b, sl_sh, itv_i, itv_p, itv_rs, sq_i, sq_p, sq_r, is_i, is_p, is_r, il_i, il_p, il_rs, il_b,
  m_app_i, m_app_p, m_app_rs, m_app_b, m_rev_i, m_clr_i, m_rem_i, f_len_i, f_len_p, f_len_r, f_in_i, f_ni_i, f_ix_i, f_ix_p, f_ix_r, f_ix_b, p_fst, p_snd, f_list_i, f_list_t, f_list_r, mk_i, mk_p, mk_r, f_srt_i, f_srt_p, f_rev_i, f_rev_p, f_cat_i, f_cat_r, f_cat_p, f_rep_i, minL_map, maxL_map, sum_map, all_map, any_map, f_int1, f_intB, f_max2, f_min2,
  it_r1, it_r2, f_rg, itL_i, itL_p, itL_r, itL_b, itS_i, itS_r, f_lstM, f_lst0, f_lst1, f_lst2, f_lst3, f_lst4, f_lst5, f_lst6, f_lstr1, f_lstr2, f_eq_i, f_ne_i, f_eq_r, f_ne_r, f_eq_p, f_ne_p, f_eq_bl, f_ne_bl, rd_i, rd_b, rd_p, rd_rs, y_size, y_ties, y_wired, y_near, o_neighbours,
  isi_int, f_setL, f_srtU, f_srtS, f_is_bl, f_isn_bl, isi_bl, fr_dic, dic_nil, sl_dic, f_din, f_dni, f_dix, f_dic1, x_rdD, rd_dic, s_setD, set_dic, upF_const, o_ties, r_ties, isi_int_bl, isi_tup, isi_lst, isi_lt, sgx, spx, sgo, spo, og_nil, op_nil, restS, wipeS,
  List.getElem?_cons_zero, List.getElem?_cons_succ, List.set_cons_zero, List.set_cons_succ, List.getD_cons_zero, List.getD_cons_succ, List.cons_append, List.nil_append, List.append_nil, List.length_cons, List.length_nil, List.replicate_succ, List.replicate_zero, Nat.reduceSub, Nat.reduceAdd, true_and, and_true])
local macro_rules | `(tactic| walk_at "v") => `(tactic| simp only [↓len_r1i, ↓len_r1p, ↓len_r1r, w_mC, w_mVar, w_m2x, w_m1x, w_mTst, w_mAnd, w_mOr, w_mNot, w_mIf, w_mBl, w_mFr, w_mSh, w_mCons, w_mRd, w_mRv, w_pVar, w_pIx, w_mCh, w_mYes', w_m2N, w_m1N, w_mStar, w_mSeq, w_mSl, w_mPart, x_mLook, x_mUse, x_mMov, x_mItV, x_mut, x_comp,
  s_next, q_seq, kq_n, kq_r, kq_b, kq_c, s_ret, s_asg, s_sto, s_own, s_drop, s_setI, s_augI, s_aug, s_bad, s_retN, s_brk, s_cnt, s_par, s_for,
  x_call1, x_call2, x_call3, x_call4, x_call5, x_call1s, x_call2s, x_call2t, x_call3s, x_call3t, x_call3u, x_call1b, x_call2b, x_call3b, x_call4b, x_meth0, x_meth1, x_meth2, x_meth1s, x_set, set_i, set_b, en_i, en_p, en_r, f_tupO2, f_tupO3, f_tup2d, fr_t2, fr_t3, slt_ow, ix_t0, ix_t1, ix_t2, wi_t0, wi_t1, og_t0, og_t1, op_t0, op_t1, f_eq_t2, f_ne_t2, o_size, o_wired, r_size, r_wired, x_mk, mk_ok, cut_map, ls_i, ls_r, ls_p, lst_rs, lst_is,
  f_add, f_sub, f_lt, f_le, f_gt, f_ge, f_mod, f_div, f_mul, f_eq, f_ne, f_neg, b_bl, l_sh, v_pl, o_ow, o_own, a_pl, k_pl, k_ow, u_pl, u_ow, mv_pl, mv_ow, i1_int, par2_ok, wF_some, g_nm, f_tp, g_cons, g_nil, wF_map,
  fr_i, fr_p, fr_rs, fr_b, fr_sh, sl_i, sl_p, sl_rs, sl_b, sl_sh, itv_i, itv_p, itv_rs, sq_i, sq_p, sq_r, is_i, is_p, is_r, il_i, il_p, il_rs, il_b,
  m_app_i, m_app_p, m_app_rs, m_app_b, m_rev_i, m_clr_i, m_rem_i, f_len_i, f_len_p, f_len_r, f_in_i, f_ni_i, f_ix_i, f_ix_p, f_ix_r, f_ix_b, p_fst, p_snd, f_list_i, f_list_t, f_list_r, mk_i, mk_p, mk_r, f_srt_i, f_srt_p, f_rev_i, f_rev_p, f_cat_i, f_cat_r, f_cat_p, f_rep_i, minL_map, maxL_map, sum_map, all_map, any_map, f_int1, f_intB, f_max2, f_min2,
  it_r1, it_r2, f_rg, itL_i, itL_p, itL_r, itL_b, itS_i, itS_r, f_lstM, f_lst0, f_lst1, f_lst2, f_lst3, f_lst4, f_lst5, f_lst6, f_lstr1, f_lstr2, f_eq_i, f_ne_i, f_eq_r, f_ne_r, f_eq_p, f_ne_p, f_eq_bl, f_ne_bl, rd_i, rd_b, rd_p, rd_rs, y_size, y_ties, y_wired, y_near, o_neighbours,
  isi_int, f_setL, f_srtU, f_srtS, f_is_bl, f_isn_bl, isi_bl, fr_dic, dic_nil, sl_dic, f_din, f_dni, f_dix, f_dic1, x_rdD, rd_dic, s_setD, set_dic, upF_const, o_ties, r_ties, isi_int_bl, isi_tup, isi_lst, isi_lt, sgx, spx, sgo, spo, og_nil, op_nil, restS, wipeS,
  List.getElem?_cons_zero, List.getElem?_cons_succ, List.set_cons_zero, List.set_cons_succ, List.getD_cons_zero, List.getD_cons_succ, List.cons_append, List.nil_append, List.append_nil, List.length_cons, List.length_nil, List.replicate_succ, List.replicate_zero, Nat.reduceSub, Nat.reduceAdd, true_and, and_true])
section
variable {n : Nat} {A : Int → Int → Prop} {nr : List (List Int)} {size : Int} {ts : List (Int × Int)} {ws up : List Int} {a b c e x y p q : Int} {P Q C L R : List Int}
def dn (i : Int) (n : Nat) : List Int := (List.range n).map fun k : Nat => i + (k : Int) * (-1)
theorem f_r3 {i j : Int} {P : List D → Prop} : wF (itR3 [.int i, .int j, .int (-1)]) P = ((-(2 ^ 62) ≤ i ∧ i < 2 ^ 62 ∧ -(2 ^ 62) ≤ j ∧ j < 2 ^ 62) ∧ P ((dn i (i - j).toNat).map .int)) := by
  have key : itR3 [.int i, .int j, .int (-1)] = match decide (-(2 ^ 62) ≤ i ∧ i < 2 ^ 62 ∧ -(2 ^ 62) ≤ j ∧ j < 2 ^ 62 ∧ (-1 : Int) = -1) with
    | true => some (rangeDn i (i - j).toNat)
    | false => none := rfl
  rw [key]
  have e : rangeDn i (i - j).toNat = (dn i (i - j).toNat).map .int := by
    unfold rangeDn dn
    rw [List.map_map]
    rfl
  rw [e]
  by_cases h : -(2 ^ 62) ≤ i ∧ i < 2 ^ 62 ∧ -(2 ^ 62) ≤ j ∧ j < 2 ^ 62
  · rw [decide_eq_true (show -(2 ^ 62) ≤ i ∧ i < 2 ^ 62 ∧ -(2 ^ 62) ≤ j ∧ j < 2 ^ 62 ∧ (-1 : Int) = -1 from ⟨h.1, h.2.1, h.2.2.1, h.2.2.2, rfl⟩)]
    exact propext ⟨fun q => ⟨h, q⟩, fun q => q.2⟩
  · rw [decide_eq_false (show ¬ (-(2 ^ 62) ≤ i ∧ i < 2 ^ 62 ∧ -(2 ^ 62) ≤ j ∧ j < 2 ^ 62 ∧ (-1 : Int) = -1) from fun z => h ⟨z.1, z.2.1, z.2.2.1, z.2.2.2.1⟩)]
    exact propext ⟨fun q => q.elim, fun q => absurd q.1 h⟩
theorem zp_i {a b : List Int} {P : List D → Prop} : wF (itZp [iD a, iD b]) P = P ((a.zip b).map fun q => D.tup [.int q.1, .int q.2]) := by
  have e : itZp [iD a, iD b] = some (List.zipWith (fun x y => D.tup [x, y]) (a.map .int) (b.map .int)) := rfl
  rw [e, wF_some]
  congr 1
  induction a generalizing b with
  | nil => rfl
  | cons x r ih =>
    cases b with
    | nil => rfl
    | cons y t => exact congrArg (D.tup [.int x, .int y] :: ·) (ih rfl)
end
end W

/-! T36: brooms drawn: no fork in them. -/
namespace W
open PySem PySem.Spec PyProof.Rows L2 Z
local macro_rules | `(tactic| walk_at "w") => `(tactic| simp only [↓len_r1i, ↓len_r1p, ↓len_r1r, w_mC, w_mVar, w_m2x, w_m1x, w_mTst, w_mAnd, w_mOr, w_mNot, w_mIf, w_mBl, w_mFr, w_mSh, w_mCons, w_mRd, w_mRv, w_pVar, w_pIx, w_mCh, w_mYes', w_m2N, w_m1N, w_mStar, w_mSeq, w_mSl, w_mPart, x_mLook, x_mUse, x_mMov, x_mItV, x_mut, x_comp,
  s_next, s_seq, s_if, s_ret, s_asg, s_sto, s_own, s_drop, s_setI, s_augI, s_aug, s_bad, s_retN, s_brk, s_cnt, s_par, s_for,
  x_call1, x_call2, x_call3, x_call4, x_call5, x_call1s, x_call2s, x_call2t, x_call3s, x_call3t, x_call3u, x_call1b, x_call2b, x_call3b, x_call4b, x_meth0, x_meth1, x_meth2, x_meth1s, x_set, set_i, set_b, en_i, en_p, en_r, f_tupO2, f_tupO3, f_tup2d, fr_t2, fr_t3, slt_ow, ix_t0, ix_t1, ix_t2, wi_t0, wi_t1, og_t0, og_t1, op_t0, op_t1, f_eq_t2, f_ne_t2, o_size, o_wired, r_size, r_wired, x_mk, mk_ok, cut_map, ls_i, ls_r, ls_p, lst_rs, lst_is,
  f_add, f_sub, f_lt, f_le, f_gt, f_ge, f_mod, f_div, f_mul, f_eq, f_ne, f_neg, b_bl, l_sh, v_pl, o_ow, o_own, a_pl, k_pl, k_ow, u_pl, u_ow, mv_pl, mv_ow, i1_int, par2_ok, wF_some, g_nm, f_tp, g_cons, g_nil, wF_map,
  fr_i, fr_p, fr_rs, fr_b, fr_sh, sl_i, sl_p, sl_rs, sl_b, sl_sh, itv_i, itv_p, itv_rs, sq_i, sq_p, sq_r, is_i, is_p, is_r, il_i, il_p, il_rs, il_b,
  m_app_i, m_app_p, m_app_rs, m_app_b, m_rev_i, m_clr_i, m_rem_i, f_len_i, f_len_p, f_len_r, f_in_i, f_ni_i, f_ix_i, f_ix_p, f_ix_r, f_ix_b, p_fst, p_snd, f_list_i, f_list_t, f_list_r, mk_i, mk_p, mk_r, f_srt_i, f_srt_p, f_rev_i, f_rev_p, f_cat_i, f_cat_r, f_cat_p, f_rep_i, minL_map, maxL_map, sum_map, all_map, any_map, f_int1, f_intB, f_max2, f_min2,
  it_r1, it_r2, f_rg, itL_i, itL_p, itL_r, itL_b, itS_i, itS_r, f_lstM, f_lst0, f_lst1, f_lst2, f_lst3, f_lst4, f_lst5, f_lst6, f_lstr1, f_lstr2, f_eq_i, f_ne_i, f_eq_r, f_ne_r, f_eq_p, f_ne_p, f_eq_bl, f_ne_bl, rd_i, rd_b, rd_p, rd_rs, y_size, y_ties, y_wired, y_near, o_neighbours,
  isi_int, f_setL, f_srtU, f_srtS, f_is_bl, f_isn_bl, isi_bl, fr_dic, dic_nil, sl_dic, f_din, f_dni, f_dix, f_dic1, x_rdD, rd_dic, s_setD, set_dic, upF_const, o_ties, r_ties, isi_int_bl, isi_tup, isi_lst, isi_lt, sgx, spx, sgo, spo, og_nil, op_nil, restS, wipeS,
  List.getElem?_cons_zero, List.getElem?_cons_succ, List.set_cons_zero, List.set_cons_succ, List.getD_cons_zero, List.getD_cons_succ, List.cons_append, List.nil_append, List.append_nil, List.length_cons, List.length_nil, List.replicate_succ, List.replicate_zero, Nat.reduceSub, Nat.reduceAdd, true_and, and_true])
local macro_rules | `(tactic| walk_at "v") => `(tactic| simp only [↓len_r1i, ↓len_r1p, ↓len_r1r, w_mC, w_mVar, w_m2x, w_m1x, w_mTst, w_mAnd, w_mOr, w_mNot, w_mIf, w_mBl, w_mFr, w_mSh, w_mCons, w_mRd, w_mRv, w_pVar, w_pIx, w_mCh, w_mYes', w_m2N, w_m1N, w_mStar, w_mSeq, w_mSl, w_mPart, x_mLook, x_mUse, x_mMov, x_mItV, x_mut, x_comp,
  s_next, q_seq, kq_n, kq_r, kq_b, kq_c, s_ret, s_asg, s_sto, s_own, s_drop, s_setI, s_augI, s_aug, s_bad, s_retN, s_brk, s_cnt, s_par, s_for,
  x_call1, x_call2, x_call3, x_call4, x_call5, x_call1s, x_call2s, x_call2t, x_call3s, x_call3t, x_call3u, x_call1b, x_call2b, x_call3b, x_call4b, x_meth0, x_meth1, x_meth2, x_meth1s, x_set, set_i, set_b, en_i, en_p, en_r, f_tupO2, f_tupO3, f_tup2d, fr_t2, fr_t3, slt_ow, ix_t0, ix_t1, ix_t2, wi_t0, wi_t1, og_t0, og_t1, op_t0, op_t1, f_eq_t2, f_ne_t2, o_size, o_wired, r_size, r_wired, x_mk, mk_ok, cut_map, ls_i, ls_r, ls_p, lst_rs, lst_is,
  f_add, f_sub, f_lt, f_le, f_gt, f_ge, f_mod, f_div, f_mul, f_eq, f_ne, f_neg, b_bl, l_sh, v_pl, o_ow, o_own, a_pl, k_pl, k_ow, u_pl, u_ow, mv_pl, mv_ow, i1_int, par2_ok, wF_some, g_nm, f_tp, g_cons, g_nil, wF_map,
  fr_i, fr_p, fr_rs, fr_b, fr_sh, sl_i, sl_p, sl_rs, sl_b, sl_sh, itv_i, itv_p, itv_rs, sq_i, sq_p, sq_r, is_i, is_p, is_r, il_i, il_p, il_rs, il_b,
  m_app_i, m_app_p, m_app_rs, m_app_b, m_rev_i, m_clr_i, m_rem_i, f_len_i, f_len_p, f_len_r, f_in_i, f_ni_i, f_ix_i, f_ix_p, f_ix_r, f_ix_b, p_fst, p_snd, f_list_i, f_list_t, f_list_r, mk_i, mk_p, mk_r, f_srt_i, f_srt_p, f_rev_i, f_rev_p, f_cat_i, f_cat_r, f_cat_p, f_rep_i, minL_map, maxL_map, sum_map, all_map, any_map, f_int1, f_intB, f_max2, f_min2,
  it_r1, it_r2, f_rg, itL_i, itL_p, itL_r, itL_b, itS_i, itS_r, f_lstM, f_lst0, f_lst1, f_lst2, f_lst3, f_lst4, f_lst5, f_lst6, f_lstr1, f_lstr2, f_eq_i, f_ne_i, f_eq_r, f_ne_r, f_eq_p, f_ne_p, f_eq_bl, f_ne_bl, rd_i, rd_b, rd_p, rd_rs, y_size, y_ties, y_wired, y_near, o_neighbours,
  isi_int, f_setL, f_srtU, f_srtS, f_is_bl, f_isn_bl, isi_bl, fr_dic, dic_nil, sl_dic, f_din, f_dni, f_dix, f_dic1, x_rdD, rd_dic, s_setD, set_dic, upF_const, o_ties, r_ties, isi_int_bl, isi_tup, isi_lst, isi_lt, sgx, spx, sgo, spo, og_nil, op_nil, restS, wipeS,
  List.getElem?_cons_zero, List.getElem?_cons_succ, List.set_cons_zero, List.set_cons_succ, List.getD_cons_zero, List.getD_cons_succ, List.cons_append, List.nil_append, List.append_nil, List.length_cons, List.length_nil, List.replicate_succ, List.replicate_zero, Nat.reduceSub, Nat.reduceAdd, true_and, and_true])
/-- the parents of a broom -/
def BrPs (core : Int) (ps : List Int) : Prop := ∀ (i : Nat) (x : Int), ps[i]? = some x → ((i : Int) + 1 < core → x = i) ∧ (core ≤ (i : Int) + 1 → x = 0 ∨ x = core - 1)
theorem BrPs.snoc {core : Int} {ps : List Int} {x : Int} (h : BrPs core ps) (h0 : (ps.length : Int) + 1 < core → x = ps.length) (h1 : core ≤ (ps.length : Int) + 1 → x = 0 ∨ x = core - 1) : BrPs core (ps ++ [x]) := fun i y e => by
  by_cases hi : i < ps.length
  · rw [List.getElem?_append_left hi] at e
    exact h i y e
  · have hl := (List.getElem?_eq_some_iff.mp e).1
    simp at hl
    have : i = ps.length := by omega
    subst this
    simp at e
    subst e
    exact ⟨h0, h1⟩
section
variable {n : Nat} {A : Int → Int → Prop} {nr : List (List Int)} {size : Int} {ts : List (Int × Int)}
end
end W

/-! T37: texts compared, a list's end cut. -/
namespace W
open PySem PySem.Spec PyProof.Rows L2 Z
local macro_rules | `(tactic| walk_at "w") => `(tactic| simp only [↓len_r1i, ↓len_r1p, ↓len_r1r, w_mC, w_mVar, w_m2x, w_m1x, w_mTst, w_mAnd, w_mOr, w_mNot, w_mIf, w_mBl, w_mFr, w_mSh, w_mCons, w_mRd, w_mRv, w_pVar, w_pIx, w_mCh, w_mYes', w_m2N, w_m1N, w_mStar, w_mSeq, w_mSl, w_mPart, x_mLook, x_mUse, x_mMov, x_mItV, x_mut, x_comp,
  s_next, s_seq, s_if, s_ret, s_asg, s_sto, s_own, s_drop, s_setI, s_augI, s_aug, s_bad, s_retN, s_brk, s_cnt, s_par, s_for,
  x_call1, x_call2, x_call3, x_call4, x_call5, x_call1s, x_call2s, x_call2t, x_call3s, x_call3t, x_call3u, x_call1b, x_call2b, x_call3b, x_call4b, x_meth0, x_meth1, x_meth2, x_meth1s, x_set, set_i, set_b, en_i, en_p, en_r, f_tupO2, f_tupO3, f_tup2d, fr_t2, fr_t3, slt_ow, ix_t0, ix_t1, ix_t2, wi_t0, wi_t1, og_t0, og_t1, op_t0, op_t1, f_eq_t2, f_ne_t2, o_size, o_wired, r_size, r_wired, x_mk, mk_ok, cut_map, ls_i, ls_r, ls_p, lst_rs, lst_is,
  f_add, f_sub, f_lt, f_le, f_gt, f_ge, f_mod, f_div, f_mul, f_eq, f_ne, f_neg, b_bl, l_sh, v_pl, o_ow, o_own, a_pl, k_pl, k_ow, u_pl, u_ow, mv_pl, mv_ow, i1_int, par2_ok, wF_some, g_nm, f_tp, g_cons, g_nil, wF_map,
  fr_i, fr_p, fr_rs, fr_b, fr_sh, sl_i, sl_p, sl_rs, sl_b, sl_sh, itv_i, itv_p, itv_rs, sq_i, sq_p, sq_r, is_i, is_p, is_r, il_i, il_p, il_rs, il_b,
  m_app_i, m_app_p, m_app_rs, m_app_b, m_rev_i, m_clr_i, m_rem_i, f_len_i, f_len_p, f_len_r, f_in_i, f_ni_i, f_ix_i, f_ix_p, f_ix_r, f_ix_b, p_fst, p_snd, f_list_i, f_list_t, f_list_r, mk_i, mk_p, mk_r, f_srt_i, f_srt_p, f_rev_i, f_rev_p, f_cat_i, f_cat_r, f_cat_p, f_rep_i, minL_map, maxL_map, sum_map, all_map, any_map, f_int1, f_intB, f_max2, f_min2,
  it_r1, it_r2, f_rg, itL_i, itL_p, itL_r, itL_b, itS_i, itS_r, f_lstM, f_lst0, f_lst1, f_lst2, f_lst3, f_lst4, f_lst5, f_lst6, f_lstr1, f_lstr2, f_eq_i, f_ne_i, f_eq_r, f_ne_r, f_eq_p, f_ne_p, f_eq_bl, f_ne_bl, rd_i, rd_b, rd_p, rd_rs, y_size, y_ties, y_wired, y_near, o_neighbours,
  isi_int, f_setL, f_srtU, f_srtS, f_is_bl, f_isn_bl, isi_bl, fr_dic, dic_nil, sl_dic, f_din, f_dni, f_dix, f_dic1, x_rdD, rd_dic, s_setD, set_dic, upF_const, o_ties, r_ties, isi_int_bl, isi_tup, isi_lst, isi_lt, sgx, spx, sgo, spo, og_nil, op_nil, restS, wipeS,
  List.getElem?_cons_zero, List.getElem?_cons_succ, List.set_cons_zero, List.set_cons_succ, List.getD_cons_zero, List.getD_cons_succ, List.cons_append, List.nil_append, List.append_nil, List.length_cons, List.length_nil, List.replicate_succ, List.replicate_zero, Nat.reduceSub, Nat.reduceAdd, true_and, and_true])
local macro_rules | `(tactic| walk_at "v") => `(tactic| simp only [↓len_r1i, ↓len_r1p, ↓len_r1r, w_mC, w_mVar, w_m2x, w_m1x, w_mTst, w_mAnd, w_mOr, w_mNot, w_mIf, w_mBl, w_mFr, w_mSh, w_mCons, w_mRd, w_mRv, w_pVar, w_pIx, w_mCh, w_mYes', w_m2N, w_m1N, w_mStar, w_mSeq, w_mSl, w_mPart, x_mLook, x_mUse, x_mMov, x_mItV, x_mut, x_comp,
  s_next, q_seq, kq_n, kq_r, kq_b, kq_c, s_ret, s_asg, s_sto, s_own, s_drop, s_setI, s_augI, s_aug, s_bad, s_retN, s_brk, s_cnt, s_par, s_for,
  x_call1, x_call2, x_call3, x_call4, x_call5, x_call1s, x_call2s, x_call2t, x_call3s, x_call3t, x_call3u, x_call1b, x_call2b, x_call3b, x_call4b, x_meth0, x_meth1, x_meth2, x_meth1s, x_set, set_i, set_b, en_i, en_p, en_r, f_tupO2, f_tupO3, f_tup2d, fr_t2, fr_t3, slt_ow, ix_t0, ix_t1, ix_t2, wi_t0, wi_t1, og_t0, og_t1, op_t0, op_t1, f_eq_t2, f_ne_t2, o_size, o_wired, r_size, r_wired, x_mk, mk_ok, cut_map, ls_i, ls_r, ls_p, lst_rs, lst_is,
  f_add, f_sub, f_lt, f_le, f_gt, f_ge, f_mod, f_div, f_mul, f_eq, f_ne, f_neg, b_bl, l_sh, v_pl, o_ow, o_own, a_pl, k_pl, k_ow, u_pl, u_ow, mv_pl, mv_ow, i1_int, par2_ok, wF_some, g_nm, f_tp, g_cons, g_nil, wF_map,
  fr_i, fr_p, fr_rs, fr_b, fr_sh, sl_i, sl_p, sl_rs, sl_b, sl_sh, itv_i, itv_p, itv_rs, sq_i, sq_p, sq_r, is_i, is_p, is_r, il_i, il_p, il_rs, il_b,
  m_app_i, m_app_p, m_app_rs, m_app_b, m_rev_i, m_clr_i, m_rem_i, f_len_i, f_len_p, f_len_r, f_in_i, f_ni_i, f_ix_i, f_ix_p, f_ix_r, f_ix_b, p_fst, p_snd, f_list_i, f_list_t, f_list_r, mk_i, mk_p, mk_r, f_srt_i, f_srt_p, f_rev_i, f_rev_p, f_cat_i, f_cat_r, f_cat_p, f_rep_i, minL_map, maxL_map, sum_map, all_map, any_map, f_int1, f_intB, f_max2, f_min2,
  it_r1, it_r2, f_rg, itL_i, itL_p, itL_r, itL_b, itS_i, itS_r, f_lstM, f_lst0, f_lst1, f_lst2, f_lst3, f_lst4, f_lst5, f_lst6, f_lstr1, f_lstr2, f_eq_i, f_ne_i, f_eq_r, f_ne_r, f_eq_p, f_ne_p, f_eq_bl, f_ne_bl, rd_i, rd_b, rd_p, rd_rs, y_size, y_ties, y_wired, y_near, o_neighbours,
  isi_int, f_setL, f_srtU, f_srtS, f_is_bl, f_isn_bl, isi_bl, fr_dic, dic_nil, sl_dic, f_din, f_dni, f_dix, f_dic1, x_rdD, rd_dic, s_setD, set_dic, upF_const, o_ties, r_ties, isi_int_bl, isi_tup, isi_lst, isi_lt, sgx, spx, sgo, spo, og_nil, op_nil, restS, wipeS,
  List.getElem?_cons_zero, List.getElem?_cons_succ, List.set_cons_zero, List.set_cons_succ, List.getD_cons_zero, List.getD_cons_succ, List.cons_append, List.nil_append, List.append_nil, List.length_cons, List.length_nil, List.replicate_succ, List.replicate_zero, Nat.reduceSub, Nat.reduceAdd, true_and, and_true])
theorem scal_b : ∀ bs : List Bool, (bs.map D.bl).all isScal = true
  | [] => rfl
  | _ :: bs => by rw [List.map_cons, List.all_cons, scal_b bs]; rfl
theorem inB_bl {x : Bool} {bs : List Bool} : inB (.bl x) (bD bs) = some (bs.any fun y => y == x) := by
  unfold inB bD
  simp only [scal_b]
  have : isScal (.bl x) = true := rfl
  rw [this]
  simp only [Bool.and_self]
  rw [List.any_map]
  rfl
theorem f_ni_b {x : Bool} {bs : List Bool} {P : D → Prop} : wF (dNi (.bl x) (bD bs)) P = P (.bl (!(bs.any fun y => y == x))) := by
  unfold dNi
  rw [inB_bl]
  rfl
theorem ls_b {bs : List Bool} : lstD (bD bs) = some (bs.map .bl) := rfl
theorem x_mk0 {cn : Str} {f : Fn} {a b : M D} {S : List Sl} {Q : O → List Sl → Prop} : wM (mMake cn 4 [0] f 2 0 (fun as _ => as ++ [.d (.tup [])]) (mCons (aD a) (mCons (aD b) (mC []))) (mC [])) S Q = wM a S fun d S1 => wM b S1 fun e S2 => wO (f [.ow (.obj cn [] []), .pl d, .pl e, .pl (.tup [])]) fun r S4 => wMk r (some (S4.getD 0 .no)) fun o => Q o S2 := by
  rw [w_make]
  simp only [w_mCons, w_aD, w_mC]
  congr; funext d S1
  congr; funext e S2
  have h0 : argOf (S2 ++ [.ow (.obj cn [] [])]) (.b S2.length) = some (.ow (.obj cn [] [])) := by
    show (match (S2 ++ [Sl.ow (.obj cn [] [])])[S2.length]? with | some (.ow o) => some (Sl.ow o) | _ => none) = _
    rw [List.getElem?_append_right (Nat.le_refl _), Nat.sub_self]
    rfl
  rw [wO_make, wO_call]
  have h1 : argsOf (S2 ++ [.ow (.obj cn [] [])]) [.b S2.length, .d d, .d e, .d (.tup [])] = some [.ow (.obj cn [] []), .pl d, .pl e, .pl (.tup [])] := by
    unfold argsOf
    rw [h0]
    rfl
  have h2 : callOk 4 [0] [.b S2.length, .d d, .d e, .d (.tup [])] = true := by simp [callOk, lentAt, Z.shown]
  unfold wC
  show ((2 = 2 ∧ 0 = 0) ∧ match callOk 4 [0] [.b S2.length, .d d, .d e, .d (.tup [])], argsOf (S2 ++ [.ow (.obj cn [] [])]) [.b S2.length, .d d, .d e, .d (.tup [])] with | true, some args => _ | _, _ => False) = _
  rw [h1, h2]
  simp only [and_self, true_and]
  congr; funext r S4
  show ((true = true) ∧ wMk r ((S2 ++ [Sl.ow (.obj cn [] [])]).set S2.length (S4.getD 0 .no)).getLast? fun o => Q o ((S2 ++ [Sl.ow (.obj cn [] [])]).set S2.length (S4.getD 0 .no)).dropLast) = _
  have h3 : (S2 ++ [Sl.ow (.obj cn [] [])]).set S2.length (S4.getD 0 .no) = S2 ++ [S4.getD 0 .no] := by
    rw [List.set_append_right _ _ (Nat.le_refl _), Nat.sub_self]
    rfl
  rw [h3, List.getLast?_concat, List.dropLast_concat]
  simp only [true_and]
end W

/-! Y10: further calls; the wider walk. -/
namespace Z
open PySem PySem.Spec PyProof.Rows L2
theorem x_c_ss {f : Fn} {j0 j1 : Nat} {S : List Sl} {Q : O → List Sl → Prop} : wM (mCall 2 [] f (mCons (aS j0) (mCons (aS j1) (mC [])))) S Q = (isOwS S[j0]? (isOwS S[j1]? (wOw S[j0]? fun o0 => wOw S[j1]? fun o1 => wF (rO (f [.pl (fr o0), .pl (fr o1)])) fun o => clO o = true ∧ Q o S))) := by
  rw [w_call]
  simp only [w_mCons, w_aD, w_aS, w_aB, w_mC]
  congr 1
  congr 1
  cases e0 : S[j0]? with
  | none => simp [wC, argsOf, argOf, e0, wOw]
  | some x0 =>
  cases x0 with
  | no => simp [wC, argsOf, argOf, e0, wOw]
  | pl _ => simp [wC, argsOf, argOf, e0, wOw]
  | ow o0 =>
  cases e1 : S[j1]? with
  | none => simp [wC, argsOf, argOf, e1, wOw]
  | some x1 =>
  cases x1 with
  | no => simp [wC, argsOf, argOf, e1, wOw]
  | pl _ => simp [wC, argsOf, argOf, e1, wOw]
  | ow o1 =>
  simp only [wC, argsOf, argOf, e0, e1, wOw]
  show wO (f [.pl (fr o0), .pl (fr o1)]) (fun o _ => (false || (clO o && true)) = true ∧ Q o S) = _
  simp only [Bool.false_or, Bool.and_true]
  exact wO_r (P := fun o => clO o = true ∧ Q o S)
theorem x_c_dss {f : Fn} {m0 : M D} {j1 j2 : Nat} {S : List Sl} {Q : O → List Sl → Prop} : wM (mCall 3 [] f (mCons (aD m0) (mCons (aS j1) (mCons (aS j2) (mC []))))) S Q = (wM m0 S fun d0 S0 => isOwS S0[j1]? (isOwS S0[j2]? (wOw S0[j1]? fun o1 => wOw S0[j2]? fun o2 => wF (rO (f [.pl d0, .pl (fr o1), .pl (fr o2)])) fun o => clO o = true ∧ Q o S0))) := by
  rw [w_call]
  simp only [w_mCons, w_aD, w_aS, w_aB, w_mC]
  congr; funext d0 S0
  congr 1
  congr 1
  cases e1 : S0[j1]? with
  | none => simp [wC, argsOf, argOf, e1, wOw]
  | some x1 =>
  cases x1 with
  | no => simp [wC, argsOf, argOf, e1, wOw]
  | pl _ => simp [wC, argsOf, argOf, e1, wOw]
  | ow o1 =>
  cases e2 : S0[j2]? with
  | none => simp [wC, argsOf, argOf, e2, wOw]
  | some x2 =>
  cases x2 with
  | no => simp [wC, argsOf, argOf, e2, wOw]
  | pl _ => simp [wC, argsOf, argOf, e2, wOw]
  | ow o2 =>
  simp only [wC, argsOf, argOf, e1, e2, wOw]
  show wO (f [.pl d0, .pl (fr o1), .pl (fr o2)]) (fun o _ => (false || (clO o && true)) = true ∧ Q o S0) = _
  simp only [Bool.false_or, Bool.and_true]
  exact wO_r (P := fun o => clO o = true ∧ Q o S0)
theorem x_c_sddd {f : Fn} {m1 m2 m3 : M D} {j0 : Nat} {S : List Sl} {Q : O → List Sl → Prop} : wM (mCall 4 [] f (mCons (aS j0) (mCons (aD m1) (mCons (aD m2) (mCons (aD m3) (mC [])))))) S Q = (isOwS S[j0]? (wM m1 S fun d1 S1 => wM m2 S1 fun d2 S2 => wM m3 S2 fun d3 S3 => wOw S3[j0]? fun o0 => wF (rO (f [.pl (fr o0), .pl d1, .pl d2, .pl d3])) fun o => clO o = true ∧ Q o S3)) := by
  rw [w_call]
  simp only [w_mCons, w_aD, w_aS, w_aB, w_mC]
  congr 1
  congr; funext d1 S1
  congr; funext d2 S2
  congr; funext d3 S3
  cases e0 : S3[j0]? with
  | none => simp [wC, argsOf, argOf, e0, wOw]
  | some x0 =>
  cases x0 with
  | no => simp [wC, argsOf, argOf, e0, wOw]
  | pl _ => simp [wC, argsOf, argOf, e0, wOw]
  | ow o0 =>
  simp only [wC, argsOf, argOf, e0, wOw]
  show wO (f [.pl (fr o0), .pl d1, .pl d2, .pl d3]) (fun o _ => (false || (clO o && true)) = true ∧ Q o S3) = _
  simp only [Bool.false_or, Bool.and_true]
  exact wO_r (P := fun o => clO o = true ∧ Q o S3)
theorem x_c_ddsd {f : Fn} {m0 m1 m3 : M D} {j2 : Nat} {S : List Sl} {Q : O → List Sl → Prop} : wM (mCall 4 [] f (mCons (aD m0) (mCons (aD m1) (mCons (aS j2) (mCons (aD m3) (mC [])))))) S Q = (wM m0 S fun d0 S0 => wM m1 S0 fun d1 S1 => isOwS S1[j2]? (wM m3 S1 fun d3 S3 => wOw S3[j2]? fun o2 => wF (rO (f [.pl d0, .pl d1, .pl (fr o2), .pl d3])) fun o => clO o = true ∧ Q o S3)) := by
  rw [w_call]
  simp only [w_mCons, w_aD, w_aS, w_aB, w_mC]
  congr; funext d0 S0
  congr; funext d1 S1
  congr 1
  congr; funext d3 S3
  cases e2 : S3[j2]? with
  | none => simp [wC, argsOf, argOf, e2, wOw]
  | some x2 =>
  cases x2 with
  | no => simp [wC, argsOf, argOf, e2, wOw]
  | pl _ => simp [wC, argsOf, argOf, e2, wOw]
  | ow o2 =>
  simp only [wC, argsOf, argOf, e2, wOw]
  show wO (f [.pl d0, .pl d1, .pl (fr o2), .pl d3]) (fun o _ => (false || (clO o && true)) = true ∧ Q o S3) = _
  simp only [Bool.false_or, Bool.and_true]
  exact wO_r (P := fun o => clO o = true ∧ Q o S3)
theorem x_c_ddds {f : Fn} {m0 m1 m2 : M D} {j3 : Nat} {S : List Sl} {Q : O → List Sl → Prop} : wM (mCall 4 [] f (mCons (aD m0) (mCons (aD m1) (mCons (aD m2) (mCons (aS j3) (mC [])))))) S Q = (wM m0 S fun d0 S0 => wM m1 S0 fun d1 S1 => wM m2 S1 fun d2 S2 => isOwS S2[j3]? (wOw S2[j3]? fun o3 => wF (rO (f [.pl d0, .pl d1, .pl d2, .pl (fr o3)])) fun o => clO o = true ∧ Q o S2)) := by
  rw [w_call]
  simp only [w_mCons, w_aD, w_aS, w_aB, w_mC]
  congr; funext d0 S0
  congr; funext d1 S1
  congr; funext d2 S2
  congr 1
  cases e3 : S2[j3]? with
  | none => simp [wC, argsOf, argOf, e3, wOw]
  | some x3 =>
  cases x3 with
  | no => simp [wC, argsOf, argOf, e3, wOw]
  | pl _ => simp [wC, argsOf, argOf, e3, wOw]
  | ow o3 =>
  simp only [wC, argsOf, argOf, e3, wOw]
  show wO (f [.pl d0, .pl d1, .pl d2, .pl (fr o3)]) (fun o _ => (false || (clO o && true)) = true ∧ Q o S2) = _
  simp only [Bool.false_or, Bool.and_true]
  exact wO_r (P := fun o => clO o = true ∧ Q o S2)
theorem x_meth3 {C mt : Str} {mo : M D} {f : Fn} {m0 m1 m2 : M D} {S : List Sl} {Q : O → List Sl → Prop} : wM (mMeth C mt 4 [] f mo (mCons (aD m0) (mCons (aD m1) (mCons (aD m2) (mC []))))) S Q = (wM mo S fun d S9 => wOb C mt d (wM m0 S9 fun d0 S0 => wM m1 S0 fun d1 S1 => wM m2 S1 fun d2 S2 => wF (rO (f [.pl d, .pl d0, .pl d1, .pl d2])) fun o => Q o S2)) := by
  rw [w_meth0]
  simp only [w_mCons, w_aD, w_aS, w_aB, w_mC]
  congr; funext d S9; congr 1
  congr; funext d0 S0
  congr; funext d1 S1
  congr; funext d2 S2
  rw [wO_call]
  show wO (f [.pl d, .pl d0, .pl d1, .pl d2]) (fun o _ => (true = true) ∧ Q o S2) = _
  simp only [true_and]
  exact wO_r (P := fun o => Q o S2)
theorem x_meth2s {C mt : Str} {mo : M D} {f : Fn} {m1 : M D} {j0 : Nat} {S : List Sl} {Q : O → List Sl → Prop} : wM (mMeth C mt 3 [] f mo (mCons (aS j0) (mCons (aD m1) (mC [])))) S Q = (wM mo S fun d S9 => wOb C mt d (isOwS S9[j0]? (wM m1 S9 fun d1 S1 => wOw S1[j0]? fun o0 => wF (rO (f [.pl d, .pl (fr o0), .pl d1])) fun o => clO o = true ∧ Q o S1))) := by
  rw [w_meth0]
  simp only [w_mCons, w_aD, w_aS, w_aB, w_mC]
  congr; funext d S9; congr 1
  congr 1
  congr; funext d1 S1
  rw [wO_call]
  cases e0 : S1[j0]? with
  | none => simp [wC, argsOf, argOf, e0, wOw]
  | some x0 =>
  cases x0 with
  | no => simp [wC, argsOf, argOf, e0, wOw]
  | pl _ => simp [wC, argsOf, argOf, e0, wOw]
  | ow o0 =>
  simp only [wC, argsOf, argOf, e0, wOw]
  show wO (f [.pl d, .pl (fr o0), .pl d1]) (fun o _ => (false || (clO o && true)) = true ∧ Q o S1) = _
  simp only [Bool.false_or, Bool.and_true]
  exact wO_r (P := fun o => clO o = true ∧ Q o S1)
theorem x_meth2t {C mt : Str} {mo : M D} {f : Fn} {m0 : M D} {j1 : Nat} {S : List Sl} {Q : O → List Sl → Prop} : wM (mMeth C mt 3 [] f mo (mCons (aD m0) (mCons (aS j1) (mC [])))) S Q = (wM mo S fun d S9 => wOb C mt d (wM m0 S9 fun d0 S0 => isOwS S0[j1]? (wOw S0[j1]? fun o1 => wF (rO (f [.pl d, .pl d0, .pl (fr o1)])) fun o => clO o = true ∧ Q o S0))) := by
  rw [w_meth0]
  simp only [w_mCons, w_aD, w_aS, w_aB, w_mC]
  congr; funext d S9; congr 1
  congr; funext d0 S0
  congr 1
  rw [wO_call]
  cases e1 : S0[j1]? with
  | none => simp [wC, argsOf, argOf, e1, wOw]
  | some x1 =>
  cases x1 with
  | no => simp [wC, argsOf, argOf, e1, wOw]
  | pl _ => simp [wC, argsOf, argOf, e1, wOw]
  | ow o1 =>
  simp only [wC, argsOf, argOf, e1, wOw]
  show wO (f [.pl d, .pl d0, .pl (fr o1)]) (fun o _ => (false || (clO o && true)) = true ∧ Q o S0) = _
  simp only [Bool.false_or, Bool.and_true]
  exact wO_r (P := fun o => clO o = true ∧ Q o S0)
end Z
namespace W
open PySem PySem.Spec PyProof.Rows L2 Z
end W

/-! T38: the parts of a broom's path: each post in one part, its neighbours are the parts beside it. -/
namespace W
open PySem PySem.Spec PyProof.Rows L2 Z
local macro_rules | `(tactic| walk_at "w") => `(tactic| simp only [↓len_r1i, ↓len_r1p, ↓len_r1r, w_mC, w_mVar, w_m2x, w_m1x, w_mTst, w_mAnd, w_mOr, w_mNot, w_mIf, w_mBl, w_mFr, w_mSh, w_mCons, w_mRd, w_mRv, w_pVar, w_pIx, w_mCh, w_mYes', w_m2N, w_m1N, w_mStar, w_mSeq, w_mSl, w_mPart, x_mLook, x_mUse, x_mMov, x_mItV, x_mut, x_comp,
  s_next, s_seq, s_if, s_ret, s_asg, s_sto, s_own, s_drop, s_setI, s_augI, s_aug, s_bad, s_retN, s_brk, s_cnt, s_par, s_for,
  x_call1, x_call2, x_call3, x_call4, x_call5, x_call1s, x_call2s, x_call2t, x_call3s, x_call3t, x_call3u, x_call1b, x_call2b, x_call3b, x_call4b, x_c_ss, x_c_dss, x_c_sddd, x_c_ddsd, x_c_ddds, x_meth3, x_meth2s, x_meth2t, x_callP, x_mk0, o_leaves, o_path, o_ties, o_rewired, f_itT, set_rs, f_lstr3, f_tup3d, zp_i, f_r3, f_rev_r, wi_l0, og_l0, op_l0, f_lent, f_ni_b, ls_b, fr_t0, fr_pn, fr_ln, fr_os, il_os, sl_os, fr_ot, il_ot, fr_shd, oix_t1, x_meth0, x_meth1, x_meth2, x_meth1s, x_set, set_i, set_b, en_i, en_p, en_r, f_tupO2, f_tupO3, f_tup2d, fr_t2, fr_t3, slt_ow, ix_t0, ix_t1, ix_t2, wi_t0, wi_t1, og_t0, og_t1, op_t0, op_t1, f_eq_t2, f_ne_t2, o_size, o_wired, r_size, r_wired, x_mk, mk_ok, cut_map, ls_i, ls_r, ls_p, lst_rs, lst_is,
  f_add, f_sub, f_lt, f_le, f_gt, f_ge, f_mod, f_div, f_mul, f_eq, f_ne, f_neg, b_bl, l_sh, v_pl, o_ow, o_own, a_pl, k_pl, k_ow, u_pl, u_ow, mv_pl, mv_ow, i1_int, par2_ok, wF_some, g_nm, f_tp, g_cons, g_nil, wF_map,
  fr_i, fr_p, fr_rs, fr_b, fr_sh, sl_i, sl_p, sl_rs, sl_b, sl_sh, itv_i, itv_p, itv_rs, sq_i, sq_p, sq_r, is_i, is_p, is_r, il_i, il_p, il_rs, il_b,
  m_app_i, m_app_p, m_app_rs, m_app_b, m_rev_i, m_clr_i, m_rem_i, f_len_i, f_len_p, f_len_r, f_in_i, f_ni_i, f_ix_i, f_ix_p, f_ix_r, f_ix_b, p_fst, p_snd, f_list_i, f_list_t, f_list_r, mk_i, mk_p, mk_r, f_srt_i, f_srt_p, f_rev_i, f_rev_p, f_cat_i, f_cat_r, f_cat_p, f_rep_i, minL_map, maxL_map, sum_map, all_map, any_map, f_int1, f_intB, f_max2, f_min2,
  it_r1, it_r2, f_rg, itL_i, itL_p, itL_r, itL_b, itS_i, itS_r, f_lstM, f_lst0, f_lst1, f_lst2, f_lst3, f_lst4, f_lst5, f_lst6, f_lstr1, f_lstr2, f_eq_i, f_ne_i, f_eq_r, f_ne_r, f_eq_p, f_ne_p, f_eq_bl, f_ne_bl, rd_i, rd_b, rd_p, rd_rs, y_size, y_ties, y_wired, y_near, o_neighbours,
  isi_int, f_setL, f_srtU, f_srtS, f_is_bl, f_isn_bl, isi_bl, fr_dic, dic_nil, sl_dic, f_din, f_dni, f_dix, f_dic1, x_rdD, rd_dic, s_setD, set_dic, upF_const, o_ties, r_ties, isi_int_bl, isi_tup, isi_lst, isi_lt, sgx, spx, sgo, spo, og_nil, op_nil, restS, wipeS,
  List.getElem?_cons_zero, List.getElem?_cons_succ, List.set_cons_zero, List.set_cons_succ, List.getD_cons_zero, List.getD_cons_succ, List.cons_append, List.nil_append, List.append_nil, List.length_cons, List.length_nil, List.replicate_succ, List.replicate_zero, Nat.reduceSub, Nat.reduceAdd, true_and, and_true])
local macro_rules | `(tactic| walk_at "v") => `(tactic| simp only [↓len_r1i, ↓len_r1p, ↓len_r1r, w_mC, w_mVar, w_m2x, w_m1x, w_mTst, w_mAnd, w_mOr, w_mNot, w_mIf, w_mBl, w_mFr, w_mSh, w_mCons, w_mRd, w_mRv, w_pVar, w_pIx, w_mCh, w_mYes', w_m2N, w_m1N, w_mStar, w_mSeq, w_mSl, w_mPart, x_mLook, x_mUse, x_mMov, x_mItV, x_mut, x_comp,
  s_next, q_seq, kq_n, kq_r, kq_b, kq_c, s_ret, s_asg, s_sto, s_own, s_drop, s_setI, s_augI, s_aug, s_bad, s_retN, s_brk, s_cnt, s_par, s_for,
  x_call1, x_call2, x_call3, x_call4, x_call5, x_call1s, x_call2s, x_call2t, x_call3s, x_call3t, x_call3u, x_call1b, x_call2b, x_call3b, x_call4b, x_c_ss, x_c_dss, x_c_sddd, x_c_ddsd, x_c_ddds, x_meth3, x_meth2s, x_meth2t, x_callP, x_mk0, o_leaves, o_path, o_ties, o_rewired, f_itT, set_rs, f_lstr3, f_tup3d, zp_i, f_r3, f_rev_r, wi_l0, og_l0, op_l0, f_lent, f_ni_b, ls_b, fr_t0, fr_pn, fr_ln, fr_os, il_os, sl_os, fr_ot, il_ot, fr_shd, oix_t1, x_meth0, x_meth1, x_meth2, x_meth1s, x_set, set_i, set_b, en_i, en_p, en_r, f_tupO2, f_tupO3, f_tup2d, fr_t2, fr_t3, slt_ow, ix_t0, ix_t1, ix_t2, wi_t0, wi_t1, og_t0, og_t1, op_t0, op_t1, f_eq_t2, f_ne_t2, o_size, o_wired, r_size, r_wired, x_mk, mk_ok, cut_map, ls_i, ls_r, ls_p, lst_rs, lst_is,
  f_add, f_sub, f_lt, f_le, f_gt, f_ge, f_mod, f_div, f_mul, f_eq, f_ne, f_neg, b_bl, l_sh, v_pl, o_ow, o_own, a_pl, k_pl, k_ow, u_pl, u_ow, mv_pl, mv_ow, i1_int, par2_ok, wF_some, g_nm, f_tp, g_cons, g_nil, wF_map,
  fr_i, fr_p, fr_rs, fr_b, fr_sh, sl_i, sl_p, sl_rs, sl_b, sl_sh, itv_i, itv_p, itv_rs, sq_i, sq_p, sq_r, is_i, is_p, is_r, il_i, il_p, il_rs, il_b,
  m_app_i, m_app_p, m_app_rs, m_app_b, m_rev_i, m_clr_i, m_rem_i, f_len_i, f_len_p, f_len_r, f_in_i, f_ni_i, f_ix_i, f_ix_p, f_ix_r, f_ix_b, p_fst, p_snd, f_list_i, f_list_t, f_list_r, mk_i, mk_p, mk_r, f_srt_i, f_srt_p, f_rev_i, f_rev_p, f_cat_i, f_cat_r, f_cat_p, f_rep_i, minL_map, maxL_map, sum_map, all_map, any_map, f_int1, f_intB, f_max2, f_min2,
  it_r1, it_r2, f_rg, itL_i, itL_p, itL_r, itL_b, itS_i, itS_r, f_lstM, f_lst0, f_lst1, f_lst2, f_lst3, f_lst4, f_lst5, f_lst6, f_lstr1, f_lstr2, f_eq_i, f_ne_i, f_eq_r, f_ne_r, f_eq_p, f_ne_p, f_eq_bl, f_ne_bl, rd_i, rd_b, rd_p, rd_rs, y_size, y_ties, y_wired, y_near, o_neighbours,
  isi_int, f_setL, f_srtU, f_srtS, f_is_bl, f_isn_bl, isi_bl, fr_dic, dic_nil, sl_dic, f_din, f_dni, f_dix, f_dic1, x_rdD, rd_dic, s_setD, set_dic, upF_const, o_ties, r_ties, isi_int_bl, isi_tup, isi_lst, isi_lt, sgx, spx, sgo, spo, og_nil, op_nil, restS, wipeS,
  List.getElem?_cons_zero, List.getElem?_cons_succ, List.set_cons_zero, List.set_cons_succ, List.getD_cons_zero, List.getD_cons_succ, List.cons_append, List.nil_append, List.append_nil, List.length_cons, List.length_nil, List.replicate_succ, List.replicate_zero, Nat.reduceSub, Nat.reduceAdd, true_and, and_true])
structure PartsOk (n : Nat) (nr : List (List Int)) (ps : List (List Int)) : Prop where
  ne : ∀ r ∈ ps, r ≠ []
  pos : ∀ r ∈ ps, r.Nodup ∧ InN n r
  cov : ∀ p : Int, 0 ≤ p → p < n → ∃ (j : Nat) (r : List Int), ps[j]? = some r ∧ p ∈ r
  dj : ∀ (i j : Nat) (r s : List Int) (p : Int), ps[i]? = some r → ps[j]? = some s → p ∈ r → p ∈ s → i = j
  nbp : ∀ (j : Nat) (r : List Int) (p : Int), ps[j]? = some r → p ∈ r → ∀ q, q ∈ nb nr p ↔ (∃ s, 1 ≤ j ∧ ps[j - 1]? = some s ∧ q ∈ s) ∨ (∃ s, ps[j + 1]? = some s ∧ q ∈ s)
section
variable {n : Nat} {A : Int → Int → Prop} {nr : List (List Int)} {size : Int} {ts : List (Int × Int)} {ws up : List Int} {a b c e x y p q : Int} {P Q C L R : List Int}
theorem Pth.pre (h : Pth A a b P) : ∀ {c : Int}, c ∈ P → ∃ S r, P = S ++ r ∧ Pth A a c S := by
  induction h with
  | one a => intro c hc; simp at hc; subst hc; exact ⟨[c], [], rfl, .one c⟩
  | @cons a d b P' h1 h2 h3 ih =>
    intro c hc
    rcases List.mem_cons.mp hc with rfl | hc
    · exact ⟨[c], P', rfl, .one c⟩
    · obtain ⟨S, r, rfl, hS⟩ := ih hc
      exact ⟨a :: S, r, rfl, .cons h1 hS fun z => h3 (List.mem_append_left _ z)⟩
/-- neighbours along a way -/
theorem Pth.step (h : Pth A a b P) : ∀ {i : Nat} {u v : Int}, P[i]? = some u → P[i + 1]? = some v → A u v := by
  induction h with
  | one a => intro i u v _ h2; simp at h2
  | @cons a d b P' h1 h2 h3 ih =>
    intro i u v hu hv
    cases i with
    | zero =>
      obtain ⟨r, rfl⟩ := h2.hd
      simp at hu hv
      subst hu hv
      exact h1
    | succ i => exact ih (by simpa using hu) (by simpa using hv)
end
end W

/-! T39: borders: what a press does to them. -/
namespace W
open PySem PySem.Spec PyProof.Rows L2 Z
local macro_rules | `(tactic| walk_at "w") => `(tactic| simp only [↓len_r1i, ↓len_r1p, ↓len_r1r, w_mC, w_mVar, w_m2x, w_m1x, w_mTst, w_mAnd, w_mOr, w_mNot, w_mIf, w_mBl, w_mFr, w_mSh, w_mCons, w_mRd, w_mRv, w_pVar, w_pIx, w_mCh, w_mYes', w_m2N, w_m1N, w_mStar, w_mSeq, w_mSl, w_mPart, x_mLook, x_mUse, x_mMov, x_mItV, x_mut, x_comp,
  s_next, s_seq, s_if, s_ret, s_asg, s_sto, s_own, s_drop, s_setI, s_augI, s_aug, s_bad, s_retN, s_brk, s_cnt, s_par, s_for,
  x_call1, x_call2, x_call3, x_call4, x_call5, x_call1s, x_call2s, x_call2t, x_call3s, x_call3t, x_call3u, x_call1b, x_call2b, x_call3b, x_call4b, x_c_ss, x_c_dss, x_c_sddd, x_c_ddsd, x_c_ddds, x_meth3, x_meth2s, x_meth2t, x_callP, x_mk0, o_leaves, o_path, o_ties, o_rewired, f_itT, set_rs, f_lstr3, f_tup3d, zp_i, f_r3, f_rev_r, wi_l0, og_l0, op_l0, f_lent, f_ni_b, ls_b, fr_t0, fr_pn, fr_ln, fr_os, il_os, sl_os, fr_ot, il_ot, fr_shd, oix_t1, x_meth0, x_meth1, x_meth2, x_meth1s, x_set, set_i, set_b, en_i, en_p, en_r, f_tupO2, f_tupO3, f_tup2d, fr_t2, fr_t3, slt_ow, ix_t0, ix_t1, ix_t2, wi_t0, wi_t1, og_t0, og_t1, op_t0, op_t1, f_eq_t2, f_ne_t2, o_size, o_wired, r_size, r_wired, x_mk, mk_ok, cut_map, ls_i, ls_r, ls_p, lst_rs, lst_is,
  f_add, f_sub, f_lt, f_le, f_gt, f_ge, f_mod, f_div, f_mul, f_eq, f_ne, f_neg, b_bl, l_sh, v_pl, o_ow, o_own, a_pl, k_pl, k_ow, u_pl, u_ow, mv_pl, mv_ow, i1_int, par2_ok, wF_some, g_nm, f_tp, g_cons, g_nil, wF_map,
  fr_i, fr_p, fr_rs, fr_b, fr_sh, sl_i, sl_p, sl_rs, sl_b, sl_sh, itv_i, itv_p, itv_rs, sq_i, sq_p, sq_r, is_i, is_p, is_r, il_i, il_p, il_rs, il_b,
  m_app_i, m_app_p, m_app_rs, m_app_b, m_rev_i, m_clr_i, m_rem_i, f_len_i, f_len_p, f_len_r, f_in_i, f_ni_i, f_ix_i, f_ix_p, f_ix_r, f_ix_b, p_fst, p_snd, f_list_i, f_list_t, f_list_r, mk_i, mk_p, mk_r, f_srt_i, f_srt_p, f_rev_i, f_rev_p, f_cat_i, f_cat_r, f_cat_p, f_rep_i, minL_map, maxL_map, sum_map, all_map, any_map, f_int1, f_intB, f_max2, f_min2,
  it_r1, it_r2, f_rg, itL_i, itL_p, itL_r, itL_b, itS_i, itS_r, f_lstM, f_lst0, f_lst1, f_lst2, f_lst3, f_lst4, f_lst5, f_lst6, f_lstr1, f_lstr2, f_eq_i, f_ne_i, f_eq_r, f_ne_r, f_eq_p, f_ne_p, f_eq_bl, f_ne_bl, rd_i, rd_b, rd_p, rd_rs, y_size, y_ties, y_wired, y_near, o_neighbours,
  isi_int, f_setL, f_srtU, f_srtS, f_is_bl, f_isn_bl, isi_bl, fr_dic, dic_nil, sl_dic, f_din, f_dni, f_dix, f_dic1, x_rdD, rd_dic, s_setD, set_dic, upF_const, o_ties, r_ties, isi_int_bl, isi_tup, isi_lst, isi_lt, sgx, spx, sgo, spo, og_nil, op_nil, restS, wipeS,
  List.getElem?_cons_zero, List.getElem?_cons_succ, List.set_cons_zero, List.set_cons_succ, List.getD_cons_zero, List.getD_cons_succ, List.cons_append, List.nil_append, List.append_nil, List.length_cons, List.length_nil, List.replicate_succ, List.replicate_zero, Nat.reduceSub, Nat.reduceAdd, true_and, and_true])
local macro_rules | `(tactic| walk_at "v") => `(tactic| simp only [↓len_r1i, ↓len_r1p, ↓len_r1r, w_mC, w_mVar, w_m2x, w_m1x, w_mTst, w_mAnd, w_mOr, w_mNot, w_mIf, w_mBl, w_mFr, w_mSh, w_mCons, w_mRd, w_mRv, w_pVar, w_pIx, w_mCh, w_mYes', w_m2N, w_m1N, w_mStar, w_mSeq, w_mSl, w_mPart, x_mLook, x_mUse, x_mMov, x_mItV, x_mut, x_comp,
  s_next, q_seq, kq_n, kq_r, kq_b, kq_c, s_ret, s_asg, s_sto, s_own, s_drop, s_setI, s_augI, s_aug, s_bad, s_retN, s_brk, s_cnt, s_par, s_for,
  x_call1, x_call2, x_call3, x_call4, x_call5, x_call1s, x_call2s, x_call2t, x_call3s, x_call3t, x_call3u, x_call1b, x_call2b, x_call3b, x_call4b, x_c_ss, x_c_dss, x_c_sddd, x_c_ddsd, x_c_ddds, x_meth3, x_meth2s, x_meth2t, x_callP, x_mk0, o_leaves, o_path, o_ties, o_rewired, f_itT, set_rs, f_lstr3, f_tup3d, zp_i, f_r3, f_rev_r, wi_l0, og_l0, op_l0, f_lent, f_ni_b, ls_b, fr_t0, fr_pn, fr_ln, fr_os, il_os, sl_os, fr_ot, il_ot, fr_shd, oix_t1, x_meth0, x_meth1, x_meth2, x_meth1s, x_set, set_i, set_b, en_i, en_p, en_r, f_tupO2, f_tupO3, f_tup2d, fr_t2, fr_t3, slt_ow, ix_t0, ix_t1, ix_t2, wi_t0, wi_t1, og_t0, og_t1, op_t0, op_t1, f_eq_t2, f_ne_t2, o_size, o_wired, r_size, r_wired, x_mk, mk_ok, cut_map, ls_i, ls_r, ls_p, lst_rs, lst_is,
  f_add, f_sub, f_lt, f_le, f_gt, f_ge, f_mod, f_div, f_mul, f_eq, f_ne, f_neg, b_bl, l_sh, v_pl, o_ow, o_own, a_pl, k_pl, k_ow, u_pl, u_ow, mv_pl, mv_ow, i1_int, par2_ok, wF_some, g_nm, f_tp, g_cons, g_nil, wF_map,
  fr_i, fr_p, fr_rs, fr_b, fr_sh, sl_i, sl_p, sl_rs, sl_b, sl_sh, itv_i, itv_p, itv_rs, sq_i, sq_p, sq_r, is_i, is_p, is_r, il_i, il_p, il_rs, il_b,
  m_app_i, m_app_p, m_app_rs, m_app_b, m_rev_i, m_clr_i, m_rem_i, f_len_i, f_len_p, f_len_r, f_in_i, f_ni_i, f_ix_i, f_ix_p, f_ix_r, f_ix_b, p_fst, p_snd, f_list_i, f_list_t, f_list_r, mk_i, mk_p, mk_r, f_srt_i, f_srt_p, f_rev_i, f_rev_p, f_cat_i, f_cat_r, f_cat_p, f_rep_i, minL_map, maxL_map, sum_map, all_map, any_map, f_int1, f_intB, f_max2, f_min2,
  it_r1, it_r2, f_rg, itL_i, itL_p, itL_r, itL_b, itS_i, itS_r, f_lstM, f_lst0, f_lst1, f_lst2, f_lst3, f_lst4, f_lst5, f_lst6, f_lstr1, f_lstr2, f_eq_i, f_ne_i, f_eq_r, f_ne_r, f_eq_p, f_ne_p, f_eq_bl, f_ne_bl, rd_i, rd_b, rd_p, rd_rs, y_size, y_ties, y_wired, y_near, o_neighbours,
  isi_int, f_setL, f_srtU, f_srtS, f_is_bl, f_isn_bl, isi_bl, fr_dic, dic_nil, sl_dic, f_din, f_dni, f_dix, f_dic1, x_rdD, rd_dic, s_setD, set_dic, upF_const, o_ties, r_ties, isi_int_bl, isi_tup, isi_lst, isi_lt, sgx, spx, sgo, spo, og_nil, op_nil, restS, wipeS,
  List.getElem?_cons_zero, List.getElem?_cons_succ, List.set_cons_zero, List.set_cons_succ, List.getD_cons_zero, List.getD_cons_succ, List.cons_append, List.nil_append, List.append_nil, List.length_cons, List.length_nil, List.replicate_succ, List.replicate_zero, Nat.reduceSub, Nat.reduceAdd, true_and, and_true])
section
variable {n : Nat} {A : Int → Int → Prop} {nr : List (List Int)} {size : Int} {ts : List (Int × Int)} {ws up : List Int} {a b c e x y p q : Int} {P Q C L R : List Int}
end
/-! the line -/
section
variable {n : Nat} {nr : List (List Int)} {ps : List (List Int)} {ws up : List Int} {p : Int}
end
end W

/-! T40: the line of a bound yard as truths: what a post sees, what a press does. -/
namespace Z
open PySem PySem.Spec PyProof.Rows L2
theorem f_in_t2 {x a b : Int} {P : D → Prop} : wF (dIn (.int x) (.tup [.int a, .int b])) P = P (.bl (decide (x ∈ [a, b]))) := f_in_i (ns := [a, b])
theorem f_ni_t2 {x a b : Int} {P : D → Prop} : wF (dNi (.int x) (.tup [.int a, .int b])) P = P (.bl (!decide (x ∈ [a, b]))) := f_ni_i (ns := [a, b])
end Z
namespace W
open PySem PySem.Spec PyProof.Rows L2 Z
local macro_rules | `(tactic| walk_at "w") => `(tactic| simp only [↓len_r1i, ↓len_r1p, ↓len_r1r, w_mC, w_mVar, w_m2x, w_m1x, w_mTst, w_mAnd, w_mOr, w_mNot, w_mIf, w_mBl, w_mFr, w_mSh, w_mCons, w_mRd, w_mRv, w_pVar, w_pIx, w_mCh, w_mYes', w_m2N, w_m1N, w_mStar, w_mSeq, w_mSl, w_mPart, x_mLook, x_mUse, x_mMov, x_mItV, x_mut, x_comp,
  s_next, s_seq, s_if, s_ret, s_asg, s_sto, s_own, s_drop, s_setI, s_augI, s_aug, s_bad, s_retN, s_brk, s_cnt, s_par, s_for,
  x_call1, x_call2, x_call3, x_call4, x_call5, x_call1s, x_call2s, x_call2t, x_call3s, x_call3t, x_call3u, x_call1b, x_call2b, x_call3b, x_call4b, x_c_ss, x_c_dss, x_c_sddd, x_c_ddsd, x_c_ddds, x_meth3, x_meth2s, x_meth2t, x_callP, x_mk0, o_leaves, o_path, o_ties, o_rewired, f_itT, set_rs, f_lstr3, f_tup3d, zp_i, f_r3, f_rev_r, wi_l0, og_l0, op_l0, f_lent, f_ni_b, ls_b, fr_t0, fr_pn, fr_ln, fr_os, il_os, sl_os, fr_ot, il_ot, fr_shd, oix_t1, x_meth0, x_meth1, x_meth2, x_meth1s, x_set, set_i, set_b, en_i, en_p, en_r, f_tupO2, f_tupO3, f_tup2d, fr_t2, fr_t3, slt_ow, ix_t0, ix_t1, ix_t2, wi_t0, wi_t1, og_t0, og_t1, op_t0, op_t1, f_eq_t2, f_ne_t2, o_size, o_wired, r_size, r_wired, x_mk, mk_ok, cut_map, ls_i, ls_r, ls_p, lst_rs, lst_is,
  f_add, f_sub, f_lt, f_le, f_gt, f_ge, f_mod, f_div, f_mul, f_eq, f_ne, f_neg, b_bl, l_sh, v_pl, o_ow, o_own, a_pl, k_pl, k_ow, u_pl, u_ow, mv_pl, mv_ow, i1_int, par2_ok, wF_some, g_nm, f_tp, g_cons, g_nil, wF_map,
  fr_i, fr_p, fr_rs, fr_b, fr_sh, sl_i, sl_p, sl_rs, sl_b, sl_sh, itv_i, itv_p, itv_rs, sq_i, sq_p, sq_r, is_i, is_p, is_r, il_i, il_p, il_rs, il_b,
  m_app_i, m_app_p, m_app_rs, m_app_b, m_rev_i, m_clr_i, m_rem_i, f_len_i, f_len_p, f_len_r, f_in_i, f_ni_i, f_ix_i, f_ix_p, f_ix_r, f_ix_b, p_fst, p_snd, f_list_i, f_list_t, f_list_r, mk_i, mk_p, mk_r, f_srt_i, f_srt_p, f_rev_i, f_rev_p, f_cat_i, f_cat_r, f_cat_p, f_rep_i, minL_map, maxL_map, sum_map, all_map, any_map, f_int1, f_intB, f_max2, f_min2,
  it_r1, it_r2, f_rg, itL_i, itL_p, itL_r, itL_b, itS_i, itS_r, f_lstM, f_lst0, f_lst1, f_lst2, f_lst3, f_lst4, f_lst5, f_lst6, f_lstr1, f_lstr2, f_eq_i, f_ne_i, f_eq_r, f_ne_r, f_eq_p, f_ne_p, f_eq_bl, f_ne_bl, rd_i, rd_b, rd_p, rd_rs, y_size, y_ties, y_wired, y_near, o_neighbours,
  isi_int, f_setL, f_srtU, f_srtS, f_is_bl, f_isn_bl, isi_bl, fr_dic, dic_nil, sl_dic, f_din, f_dni, f_dix, f_dic1, x_rdD, rd_dic, s_setD, set_dic, upF_const, o_ties, r_ties, isi_int_bl, isi_tup, isi_lst, isi_lt, sgx, spx, sgo, spo, og_nil, op_nil, restS, wipeS,
  List.getElem?_cons_zero, List.getElem?_cons_succ, List.set_cons_zero, List.set_cons_succ, List.getD_cons_zero, List.getD_cons_succ, List.cons_append, List.nil_append, List.append_nil, List.length_cons, List.length_nil, List.replicate_succ, List.replicate_zero, Nat.reduceSub, Nat.reduceAdd, true_and, and_true])
local macro_rules | `(tactic| walk_at "v") => `(tactic| simp only [↓len_r1i, ↓len_r1p, ↓len_r1r, w_mC, w_mVar, w_m2x, w_m1x, w_mTst, w_mAnd, w_mOr, w_mNot, w_mIf, w_mBl, w_mFr, w_mSh, w_mCons, w_mRd, w_mRv, w_pVar, w_pIx, w_mCh, w_mYes', w_m2N, w_m1N, w_mStar, w_mSeq, w_mSl, w_mPart, x_mLook, x_mUse, x_mMov, x_mItV, x_mut, x_comp,
  s_next, q_seq, kq_n, kq_r, kq_b, kq_c, s_ret, s_asg, s_sto, s_own, s_drop, s_setI, s_augI, s_aug, s_bad, s_retN, s_brk, s_cnt, s_par, s_for,
  x_call1, x_call2, x_call3, x_call4, x_call5, x_call1s, x_call2s, x_call2t, x_call3s, x_call3t, x_call3u, x_call1b, x_call2b, x_call3b, x_call4b, x_c_ss, x_c_dss, x_c_sddd, x_c_ddsd, x_c_ddds, x_meth3, x_meth2s, x_meth2t, x_callP, x_mk0, o_leaves, o_path, o_ties, o_rewired, f_itT, set_rs, f_lstr3, f_tup3d, zp_i, f_r3, f_rev_r, wi_l0, og_l0, op_l0, f_lent, f_ni_b, ls_b, fr_t0, fr_pn, fr_ln, fr_os, il_os, sl_os, fr_ot, il_ot, fr_shd, oix_t1, x_meth0, x_meth1, x_meth2, x_meth1s, x_set, set_i, set_b, en_i, en_p, en_r, f_tupO2, f_tupO3, f_tup2d, fr_t2, fr_t3, slt_ow, ix_t0, ix_t1, ix_t2, wi_t0, wi_t1, og_t0, og_t1, op_t0, op_t1, f_eq_t2, f_ne_t2, o_size, o_wired, r_size, r_wired, x_mk, mk_ok, cut_map, ls_i, ls_r, ls_p, lst_rs, lst_is,
  f_add, f_sub, f_lt, f_le, f_gt, f_ge, f_mod, f_div, f_mul, f_eq, f_ne, f_neg, b_bl, l_sh, v_pl, o_ow, o_own, a_pl, k_pl, k_ow, u_pl, u_ow, mv_pl, mv_ow, i1_int, par2_ok, wF_some, g_nm, f_tp, g_cons, g_nil, wF_map,
  fr_i, fr_p, fr_rs, fr_b, fr_sh, sl_i, sl_p, sl_rs, sl_b, sl_sh, itv_i, itv_p, itv_rs, sq_i, sq_p, sq_r, is_i, is_p, is_r, il_i, il_p, il_rs, il_b,
  m_app_i, m_app_p, m_app_rs, m_app_b, m_rev_i, m_clr_i, m_rem_i, f_len_i, f_len_p, f_len_r, f_in_i, f_ni_i, f_ix_i, f_ix_p, f_ix_r, f_ix_b, p_fst, p_snd, f_list_i, f_list_t, f_list_r, mk_i, mk_p, mk_r, f_srt_i, f_srt_p, f_rev_i, f_rev_p, f_cat_i, f_cat_r, f_cat_p, f_rep_i, minL_map, maxL_map, sum_map, all_map, any_map, f_int1, f_intB, f_max2, f_min2,
  it_r1, it_r2, f_rg, itL_i, itL_p, itL_r, itL_b, itS_i, itS_r, f_lstM, f_lst0, f_lst1, f_lst2, f_lst3, f_lst4, f_lst5, f_lst6, f_lstr1, f_lstr2, f_eq_i, f_ne_i, f_eq_r, f_ne_r, f_eq_p, f_ne_p, f_eq_bl, f_ne_bl, rd_i, rd_b, rd_p, rd_rs, y_size, y_ties, y_wired, y_near, o_neighbours,
  isi_int, f_setL, f_srtU, f_srtS, f_is_bl, f_isn_bl, isi_bl, fr_dic, dic_nil, sl_dic, f_din, f_dni, f_dix, f_dic1, x_rdD, rd_dic, s_setD, set_dic, upF_const, o_ties, r_ties, isi_int_bl, isi_tup, isi_lst, isi_lt, sgx, spx, sgo, spo, og_nil, op_nil, restS, wipeS,
  List.getElem?_cons_zero, List.getElem?_cons_succ, List.set_cons_zero, List.set_cons_succ, List.getD_cons_zero, List.getD_cons_succ, List.cons_append, List.nil_append, List.append_nil, List.length_cons, List.length_nil, List.replicate_succ, List.replicate_zero, Nat.reduceSub, Nat.reduceAdd, true_and, and_true])
section
variable {n : Nat} {A : Int → Int → Prop} {nr : List (List Int)} {size : Int} {ws up : List Int} {p q : Int} {C L R : List Int}
end
end W

/-! T41: equations modulo 2 brought to reduced form: the plain law of it. -/
namespace W
open PySem PySem.Spec PyProof.Rows L2 Z
local macro_rules | `(tactic| walk_at "w") => `(tactic| simp only [↓len_r1i, ↓len_r1p, ↓len_r1r, w_mC, w_mVar, w_m2x, w_m1x, w_mTst, w_mAnd, w_mOr, w_mNot, w_mIf, w_mBl, w_mFr, w_mSh, w_mCons, w_mRd, w_mRv, w_pVar, w_pIx, w_mCh, w_mYes', w_m2N, w_m1N, w_mStar, w_mSeq, w_mSl, w_mPart, x_mLook, x_mUse, x_mMov, x_mItV, x_mut, x_comp,
  s_next, s_seq, s_if, s_ret, s_asg, s_sto, s_own, s_drop, s_setI, s_augI, s_aug, s_bad, s_retN, s_brk, s_cnt, s_par, s_for,
  x_call1, x_call2, x_call3, x_call4, x_call5, x_call1s, x_call2s, x_call2t, x_call3s, x_call3t, x_call3u, x_call1b, x_call2b, x_call3b, x_call4b, x_c_ss, x_c_dss, x_c_sddd, x_c_ddsd, x_c_ddds, x_meth3, x_meth2s, x_meth2t, x_callP, x_mk0, o_leaves, o_path, o_ties, o_rewired, f_itT, set_rs, f_lstr3, f_tup3d, zp_i, f_r3, f_rev_r, wi_l0, og_l0, op_l0, f_lent, f_ni_b, ls_b, fr_t0, fr_pn, fr_ln, fr_os, il_os, sl_os, fr_ot, il_ot, fr_shd, oix_t1, x_meth0, x_meth1, x_meth2, x_meth1s, x_set, set_i, set_b, en_i, en_p, en_r, f_tupO2, f_tupO3, f_tup2d, fr_t2, fr_t3, slt_ow, ix_t0, ix_t1, ix_t2, wi_t0, wi_t1, og_t0, og_t1, op_t0, op_t1, f_eq_t2, f_ne_t2, o_size, o_wired, r_size, r_wired, x_mk, mk_ok, cut_map, ls_i, ls_r, ls_p, lst_rs, lst_is,
  f_add, f_sub, f_lt, f_le, f_gt, f_ge, f_mod, f_div, f_mul, f_eq, f_ne, f_neg, b_bl, l_sh, v_pl, o_ow, o_own, a_pl, k_pl, k_ow, u_pl, u_ow, mv_pl, mv_ow, i1_int, par2_ok, wF_some, g_nm, f_tp, g_cons, g_nil, wF_map,
  fr_i, fr_p, fr_rs, fr_b, fr_sh, sl_i, sl_p, sl_rs, sl_b, sl_sh, itv_i, itv_p, itv_rs, sq_i, sq_p, sq_r, is_i, is_p, is_r, il_i, il_p, il_rs, il_b,
  m_app_i, m_app_p, m_app_rs, m_app_b, m_rev_i, m_clr_i, m_rem_i, f_len_i, f_len_p, f_len_r, f_in_i, f_ni_i, f_ix_i, f_ix_p, f_ix_r, f_ix_b, p_fst, p_snd, f_list_i, f_list_t, f_list_r, mk_i, mk_p, mk_r, f_srt_i, f_srt_p, f_rev_i, f_rev_p, f_cat_i, f_cat_r, f_cat_p, f_rep_i, minL_map, maxL_map, sum_map, all_map, any_map, f_int1, f_intB, f_max2, f_min2,
  it_r1, it_r2, f_rg, itL_i, itL_p, itL_r, itL_b, itS_i, itS_r, f_lstM, f_lst0, f_lst1, f_lst2, f_lst3, f_lst4, f_lst5, f_lst6, f_lstr1, f_lstr2, f_eq_i, f_ne_i, f_eq_r, f_ne_r, f_eq_p, f_ne_p, f_eq_bl, f_ne_bl, rd_i, rd_b, rd_p, rd_rs, y_size, y_ties, y_wired, y_near, o_neighbours,
  isi_int, f_setL, f_srtU, f_srtS, f_is_bl, f_isn_bl, isi_bl, fr_dic, dic_nil, sl_dic, f_din, f_dni, f_dix, f_dic1, x_rdD, rd_dic, s_setD, set_dic, upF_const, o_ties, r_ties, isi_int_bl, isi_tup, isi_lst, isi_lt, sgx, spx, sgo, spo, og_nil, op_nil, restS, wipeS,
  List.getElem?_cons_zero, List.getElem?_cons_succ, List.set_cons_zero, List.set_cons_succ, List.getD_cons_zero, List.getD_cons_succ, List.cons_append, List.nil_append, List.append_nil, List.length_cons, List.length_nil, List.replicate_succ, List.replicate_zero, Nat.reduceSub, Nat.reduceAdd, true_and, and_true])
local macro_rules | `(tactic| walk_at "v") => `(tactic| simp only [↓len_r1i, ↓len_r1p, ↓len_r1r, w_mC, w_mVar, w_m2x, w_m1x, w_mTst, w_mAnd, w_mOr, w_mNot, w_mIf, w_mBl, w_mFr, w_mSh, w_mCons, w_mRd, w_mRv, w_pVar, w_pIx, w_mCh, w_mYes', w_m2N, w_m1N, w_mStar, w_mSeq, w_mSl, w_mPart, x_mLook, x_mUse, x_mMov, x_mItV, x_mut, x_comp,
  s_next, q_seq, kq_n, kq_r, kq_b, kq_c, s_ret, s_asg, s_sto, s_own, s_drop, s_setI, s_augI, s_aug, s_bad, s_retN, s_brk, s_cnt, s_par, s_for,
  x_call1, x_call2, x_call3, x_call4, x_call5, x_call1s, x_call2s, x_call2t, x_call3s, x_call3t, x_call3u, x_call1b, x_call2b, x_call3b, x_call4b, x_c_ss, x_c_dss, x_c_sddd, x_c_ddsd, x_c_ddds, x_meth3, x_meth2s, x_meth2t, x_callP, x_mk0, o_leaves, o_path, o_ties, o_rewired, f_itT, set_rs, f_lstr3, f_tup3d, zp_i, f_r3, f_rev_r, wi_l0, og_l0, op_l0, f_lent, f_ni_b, ls_b, fr_t0, fr_pn, fr_ln, fr_os, il_os, sl_os, fr_ot, il_ot, fr_shd, oix_t1, x_meth0, x_meth1, x_meth2, x_meth1s, x_set, set_i, set_b, en_i, en_p, en_r, f_tupO2, f_tupO3, f_tup2d, fr_t2, fr_t3, slt_ow, ix_t0, ix_t1, ix_t2, wi_t0, wi_t1, og_t0, og_t1, op_t0, op_t1, f_eq_t2, f_ne_t2, o_size, o_wired, r_size, r_wired, x_mk, mk_ok, cut_map, ls_i, ls_r, ls_p, lst_rs, lst_is,
  f_add, f_sub, f_lt, f_le, f_gt, f_ge, f_mod, f_div, f_mul, f_eq, f_ne, f_neg, b_bl, l_sh, v_pl, o_ow, o_own, a_pl, k_pl, k_ow, u_pl, u_ow, mv_pl, mv_ow, i1_int, par2_ok, wF_some, g_nm, f_tp, g_cons, g_nil, wF_map,
  fr_i, fr_p, fr_rs, fr_b, fr_sh, sl_i, sl_p, sl_rs, sl_b, sl_sh, itv_i, itv_p, itv_rs, sq_i, sq_p, sq_r, is_i, is_p, is_r, il_i, il_p, il_rs, il_b,
  m_app_i, m_app_p, m_app_rs, m_app_b, m_rev_i, m_clr_i, m_rem_i, f_len_i, f_len_p, f_len_r, f_in_i, f_ni_i, f_ix_i, f_ix_p, f_ix_r, f_ix_b, p_fst, p_snd, f_list_i, f_list_t, f_list_r, mk_i, mk_p, mk_r, f_srt_i, f_srt_p, f_rev_i, f_rev_p, f_cat_i, f_cat_r, f_cat_p, f_rep_i, minL_map, maxL_map, sum_map, all_map, any_map, f_int1, f_intB, f_max2, f_min2,
  it_r1, it_r2, f_rg, itL_i, itL_p, itL_r, itL_b, itS_i, itS_r, f_lstM, f_lst0, f_lst1, f_lst2, f_lst3, f_lst4, f_lst5, f_lst6, f_lstr1, f_lstr2, f_eq_i, f_ne_i, f_eq_r, f_ne_r, f_eq_p, f_ne_p, f_eq_bl, f_ne_bl, rd_i, rd_b, rd_p, rd_rs, y_size, y_ties, y_wired, y_near, o_neighbours,
  isi_int, f_setL, f_srtU, f_srtS, f_is_bl, f_isn_bl, isi_bl, fr_dic, dic_nil, sl_dic, f_din, f_dni, f_dix, f_dic1, x_rdD, rd_dic, s_setD, set_dic, upF_const, o_ties, r_ties, isi_int_bl, isi_tup, isi_lst, isi_lt, sgx, spx, sgo, spo, og_nil, op_nil, restS, wipeS,
  List.getElem?_cons_zero, List.getElem?_cons_succ, List.set_cons_zero, List.set_cons_succ, List.getD_cons_zero, List.getD_cons_succ, List.cons_append, List.nil_append, List.append_nil, List.length_cons, List.length_nil, List.replicate_succ, List.replicate_zero, Nat.reduceSub, Nat.reduceAdd, true_and, and_true])
/-- one column done: the rows found, the rows left -/
def redS (st : List (List Int) × List (List Int)) (c : Int) : List (List Int) × List (List Int) :=
  match st.2.filter (fun r => decide (c ∈ r)) with
  | [] => st
  | p :: _ => (st.1.map (fun r => if c ∈ r then sumL r p else r) ++ [p], ((st.2.filter (fun r => !decide (r = p))).map (fun r => if c ∈ r then sumL r p else r)).filter (fun r => !decide (r = [])))
/-- an even number of the row lies in x -/
def Ev (x r : List Int) : Prop := xr (isIn x) r = false
theorem xr_sum2 {x a b : List Int} (hx : x.Nodup) (ha : a.Nodup) (hb : b.Nodup) : xr (isIn x) (sumL a b) = (xr (isIn x) a != xr (isIn x) b) := by
  rw [xr_swap (sum_nodup ha hb) hx, xr_sum, xr_swap hx ha, xr_swap hx hb]
theorem ev_sum {x a b : List Int} (hx : x.Nodup) (ha : a.Nodup) (hb : b.Nodup) (h : Ev x b) : Ev x (sumL a b) ↔ Ev x a := by
  unfold Ev at *
  rw [xr_sum2 hx ha hb, h]
  cases xr (isIn x) a <;> simp
theorem ev_sum_if {x a b : List Int} {c : Int} (hx : x.Nodup) (ha : a.Nodup) (hb : b.Nodup) (h : Ev x b) : Ev x (if c ∈ a then sumL a b else a) ↔ Ev x a := by
  split
  · exact ev_sum hx ha hb h
  · exact Iff.rfl
theorem ev_nil {x : List Int} : Ev x [] := rfl
structure RI (n : Nat) (Sp : List Int → Prop) (rows : List (List Int)) (done piv : List Int) (F L : List (List Int)) : Prop where
  pos : ∀ r, r ∈ F ∨ r ∈ L → PosOk (n + 1) r ∧ Sp r ∧ r.length ≤ n
  ne : ∀ r ∈ L, r ≠ []
  clr : ∀ r ∈ L, ∀ c ∈ done, c ∉ r
  len : piv.length = F.length
  pin : ∀ (j : Nat) (p : Int) (r : List Int), piv[j]? = some p → F[j]? = some r → p ∈ r ∧ (∀ q ∈ r, q < n → q ≤ p) ∧ (p = n → r = [(n : Int)])
  pone : ∀ (j k : Nat) (p : Int) (r : List Int), piv[j]? = some p → F[k]? = some r → p ∈ r → j = k
  pdn : ∀ p ∈ piv, p ∈ done
  ker : ∀ x : List Int, x.Nodup → ((∀ r ∈ rows, Ev x r) ↔ (∀ r ∈ F, Ev x r) ∧ ∀ r ∈ L, Ev x r)
  flen : F.length ≤ done.length
structure Ord (n : Nat) (done : List Int) (c : Int) : Prop where
  rg : 0 ≤ c ∧ c ≤ n
  new : c ∉ done
  lo : ∀ q : Int, 0 ≤ q → q < n → q ∉ done → q ≤ c
  up : ∀ p ∈ done, 0 ≤ p ∧ p < n ∧ (c < n → c < p)
  fin : c = n → ∀ q : Int, 0 ≤ q → q < n → q ∈ done
section
variable {n : Nat} {Sp : List Int → Prop} {rows : List (List Int)} {done piv : List Int} {F L : List (List Int)} {c : Int}
theorem RI.init (h : ∀ r ∈ rows, PosOk (n + 1) r ∧ Sp r ∧ r.length ≤ n) : RI n Sp rows [] [] [] (rows.filter fun r => !decide (r = [])) where
  pos := fun r hr => by
    rcases hr with hr | hr
    · cases hr
    · exact h r (List.mem_filter.mp hr).1
  ne := fun r hr => by simpa using (List.mem_filter.mp hr).2
  clr := fun r _ c hc => by cases hc
  len := rfl
  pin := fun j p r h _ => by simp at h
  pone := fun j k p r h _ => by simp at h
  pdn := fun p h => by cases h
  ker := fun x hx => by
    constructor
    · intro h
      exact ⟨fun r hr => (by cases hr), fun r hr => h r (List.mem_filter.mp hr).1⟩
    · rintro ⟨_, h⟩ r hr
      by_cases e : r = []
      · rw [e]; exact ev_nil
      · exact h r (List.mem_filter.mpr ⟨hr, by simpa using e⟩)
  flen := Nat.le_refl _
theorem pos_less {r : List Int} (h : PosOk (n + 1) r) (hc : 0 ≤ c ∧ c ≤ n) (hn : c ∉ r) : r.length ≤ n := by
  have h1 : (c :: r).length ≤ n + 1 := len_le_n (n := n + 1) (fun v hv => by
    rcases List.mem_cons.mp hv with rfl | hv
    · push_cast; omega
    · exact h.1 v hv) (List.nodup_cons.mpr ⟨hn, h.nd⟩)
  simp at h1
  omega
theorem RI.step (cl : ∀ a b : List Int, PosOk (n + 1) a → PosOk (n + 1) b → Sp a → Sp b → Sp (sumL a b)) (h : RI n Sp rows done piv F L) (o : Ord n done c) : ∃ piv', RI n Sp rows (done ++ [c]) piv' (redS (F, L) c).1 (redS (F, L) c).2 := by
  unfold redS
  cases e : L.filter (fun r => decide (c ∈ r)) with
  | nil =>
    refine ⟨piv, h.pos, h.ne, fun r hr d hd => ?_, h.len, h.pin, h.pone, fun p hp => List.mem_append_left _ (h.pdn p hp), h.ker, by have := h.flen; simp; omega⟩
    rcases List.mem_append.mp hd with hd | hd
    · exact h.clr r hr d hd
    · have := List.filter_eq_nil_iff.mp e r hr
      simp at hd
      rw [hd]
      simpa using this
  | cons P rest =>
    dsimp only
    have hlen := h.len
    have hPm : P ∈ L ∧ c ∈ P := by
      have : P ∈ L.filter (fun r => decide (c ∈ r)) := by rw [e]; exact List.mem_cons_self
      rw [List.mem_filter] at this
      exact ⟨this.1, by simpa using this.2⟩
    obtain ⟨hPL, hcP⟩ := hPm
    obtain ⟨hPp, hPs, hPl⟩ := h.pos P (.inr hPL)
    have good : ∀ r, r ∈ F ∨ r ∈ L → PosOk (n + 1) (if c ∈ r then sumL r P else r) ∧ Sp (if c ∈ r then sumL r P else r) ∧ (if c ∈ r then sumL r P else r).length ≤ n ∧ c ∉ (if c ∈ r then sumL r P else r) := fun r hr => by
      obtain ⟨h1, h2, h3⟩ := h.pos r hr
      by_cases hc : c ∈ r
      · rw [if_pos hc]
        have hs := sum_pos h1 hPp
        have hn : c ∉ sumL r P := by
          rw [sum_mem]
          exact fun z => z ⟨fun _ => hcP, fun _ => hc⟩
        exact ⟨hs, cl r P h1 hPp h2 hPs, pos_less hs o.rg hn, hn⟩
      · rw [if_neg hc]
        exact ⟨h1, h2, h3, hc⟩
    have dP : ∀ d ∈ done, d ∉ P := fun d hd => h.clr P hPL d hd
    have dsum : ∀ d r, d ∉ P → (d ∈ (if c ∈ r then sumL r P else r) ↔ d ∈ r) := fun d r hd => by
      split
      · rw [sum_mem]
        constructor
        · intro z
          refine Classical.byContradiction fun q => z ⟨fun h => absurd h q, fun h => absurd h hd⟩
        · intro h z
          exact hd (z.mp h)
      · exact Iff.rfl
    have oldp : ∀ (j : Nat) (p : Int), piv[j]? = some p → p ∈ done ∧ 0 ≤ p ∧ p < n ∧ (c < n → c < p) := fun j p hp => by
      have h1 := h.pdn p (List.mem_of_getElem? hp)
      exact ⟨h1, o.up p h1⟩
    have hPlo : ∀ q ∈ P, q < n → q ≤ c := fun q hq hqn => o.lo q (hPp.1 q hq).1 hqn fun z => dP q z hq
    refine ⟨piv ++ [c], fun r hr => ?_, fun r hr => by simpa using (List.mem_filter.mp hr).2, fun r hr d hd => ?_, by simp [h.len], fun j p r hp hr => ?_, fun j k p r hp hr hpr => ?_, fun p hp => ?_, fun x hx => ?_, by have := h.flen; simp; omega⟩
    · rcases hr with hr | hr
      · rcases List.mem_append.mp hr with hr | hr
        · obtain ⟨q, hq, rfl⟩ := List.mem_map.mp hr
          obtain ⟨a1, a2, a3, _⟩ := good q (.inl hq)
          exact ⟨a1, a2, a3⟩
        · simp at hr; subst hr
          exact ⟨hPp, hPs, hPl⟩
      · obtain ⟨q, hq, rfl⟩ := List.mem_map.mp (List.mem_filter.mp hr).1
        obtain ⟨a1, a2, a3, _⟩ := good q (.inr (List.mem_filter.mp hq).1)
        exact ⟨a1, a2, a3⟩
    · obtain ⟨q, hq, rfl⟩ := List.mem_map.mp (List.mem_filter.mp hr).1
      have hqL := (List.mem_filter.mp hq).1
      rcases List.mem_append.mp hd with hd | hd
      · rw [dsum d q (dP d hd)]
        exact h.clr q hqL d hd
      · simp at hd
        rw [hd]
        exact (good q (.inr hqL)).2.2.2
    · by_cases hj : j < piv.length
      · rw [List.getElem?_append_left hj] at hp
        rw [List.getElem?_append_left (by rw [List.length_map, ← h.len]; exact hj), List.getElem?_map] at hr
        obtain ⟨q, hq, rfl⟩ := Option.map_eq_some_iff.mp hr
        obtain ⟨b1, b2, b3⟩ := h.pin j p q hp hq
        obtain ⟨d1, d2, d3, d4⟩ := oldp j p hp
        refine ⟨(dsum p q (dP p d1)).mpr b1, fun z hz hzn => ?_, fun z => by omega⟩
        by_cases hc : c ∈ q
        · rw [if_pos hc, sum_mem] at hz
          by_cases hzq : z ∈ q
          · exact b2 z hzq hzn
          · have hzP : z ∈ P := Classical.byContradiction fun w => hz ⟨fun h => absurd h hzq, fun h => absurd h w⟩
            have h1 := hPlo z hzP hzn
            have h2 := b2 c hc
            by_cases hcn : c < n
            · have := d4 hcn; omega
            · exact absurd hzP (dP z (o.fin (by have := o.rg; omega) z (hPp.1 z hzP).1 hzn))
        · rw [if_neg hc] at hz
          exact b2 z hz hzn
      · have hj2 : j = piv.length := by
          have := (List.getElem?_eq_some_iff.mp hp).1
          simp at this
          omega
        subst hj2
        rw [List.getElem?_append_right (Nat.le_refl _), Nat.sub_self] at hp
        have e2 : piv.length - (F.map fun r => if c ∈ r then sumL r P else r).length = 0 := by rw [List.length_map, h.len]; omega
        rw [List.getElem?_append_right (by rw [List.length_map, h.len]; omega), e2] at hr
        simp at hp hr
        subst hp hr
        refine ⟨hcP, hPlo, fun z => ?_⟩
        have h1 : ∀ q ∈ P, q = (n : Int) := fun q hq => by
          have h2 := hPp.1 q hq
          by_cases hqn : q < n
          · exact absurd hq (dP q (o.fin z q h2.1 hqn))
          · push_cast at h2; omega
        have nd := hPp.nd
        match P, hcP, h1, nd with
        | [a], _, h1, _ => rw [h1 a (by simp)]
        | a :: b :: t, _, h1, nd =>
          exact absurd ((h1 a (by simp)).trans (h1 b (by simp)).symm) fun e => (List.nodup_cons.mp nd).1 (by rw [e]; simp)
    · by_cases hj : j < piv.length
      · rw [List.getElem?_append_left hj] at hp
        obtain ⟨d1, d2, d3, d4⟩ := oldp j p hp
        by_cases hk : k < F.length
        · rw [List.getElem?_append_left (by rw [List.length_map]; exact hk), List.getElem?_map] at hr
          obtain ⟨q, hq, rfl⟩ := Option.map_eq_some_iff.mp hr
          exact h.pone j k p q hp hq ((dsum p q (dP p d1)).mp hpr)
        · have hk2 : k = F.length := by
            have := (List.getElem?_eq_some_iff.mp hr).1
            simp at this
            omega
          rw [List.getElem?_append_right (by rw [List.length_map]; omega)] at hr
          have e2 : k - (F.map fun r => if c ∈ r then sumL r P else r).length = 0 := by rw [List.length_map]; omega
          rw [e2] at hr
          simp at hr
          subst hr
          exact absurd hpr (dP p d1)
      · have hj2 : j = piv.length := by
          have := (List.getElem?_eq_some_iff.mp hp).1
          simp at this
          omega
        rw [hj2, List.getElem?_append_right (Nat.le_refl _), Nat.sub_self] at hp
        simp at hp
        subst hp
        by_cases hk : k < F.length
        · rw [List.getElem?_append_left (by rw [List.length_map]; exact hk), List.getElem?_map] at hr
          obtain ⟨q, hq, rfl⟩ := Option.map_eq_some_iff.mp hr
          exact absurd hpr (good q (.inl (List.mem_of_getElem? hq))).2.2.2
        · have := (List.getElem?_eq_some_iff.mp hr).1
          simp at this
          have := h.len
          omega
    · rcases List.mem_append.mp hp with hp | hp
      · exact List.mem_append_left _ (h.pdn p hp)
      · exact List.mem_append_right _ hp
    · rw [h.ker x hx]
      constructor
      · rintro ⟨h1, h2⟩
        have hP := h2 P hPL
        refine ⟨fun r hr => ?_, fun r hr => ?_⟩
        · rcases List.mem_append.mp hr with hr | hr
          · obtain ⟨q, hq, rfl⟩ := List.mem_map.mp hr
            exact (ev_sum_if hx (h.pos q (.inl hq)).1.nd hPp.nd hP).mpr (h1 q hq)
          · simp at hr; subst hr; exact hP
        · obtain ⟨q, hq, rfl⟩ := List.mem_map.mp (List.mem_filter.mp hr).1
          have hqL := (List.mem_filter.mp hq).1
          exact (ev_sum_if hx (h.pos q (.inr hqL)).1.nd hPp.nd hP).mpr (h2 q hqL)
      · rintro ⟨h1, h2⟩
        have hP := h1 P (by simp)
        refine ⟨fun r hr => ?_, fun r hr => ?_⟩
        · exact (ev_sum_if hx (h.pos r (.inl hr)).1.nd hPp.nd hP).mp (h1 _ (List.mem_append_left _ (List.mem_map.mpr ⟨r, hr, rfl⟩)))
        · by_cases hrP : r = P
          · rw [hrP]; exact hP
          · refine (ev_sum_if (c := c) hx (h.pos r (.inr hr)).1.nd hPp.nd hP).mp ?_
            by_cases hz : (if c ∈ r then sumL r P else r) = []
            · rw [hz]; exact ev_nil
            · exact h2 _ (List.mem_filter.mpr ⟨List.mem_map.mpr ⟨r, List.mem_filter.mpr ⟨hr, by simpa using hrP⟩, rfl⟩, by simpa using hz⟩)
theorem RI.all (cl : ∀ a b : List Int, PosOk (n + 1) a → PosOk (n + 1) b → Sp a → Sp b → Sp (sumL a b)) : ∀ (cols : List Int) {done piv : List Int} {F L : List (List Int)}, RI n Sp rows done piv F L → (∀ (i : Nat) (c : Int), cols[i]? = some c → Ord n (done ++ cols.take i) c) → ∃ piv', RI n Sp rows (done ++ cols) piv' (cols.foldl redS (F, L)).1 (cols.foldl redS (F, L)).2
  | [], done, piv, F, L, h, _ => ⟨piv, by simpa using h⟩
  | c :: cols, done, piv, F, L, h, ho => by
    have h0 := ho 0 c rfl
    rw [List.take_zero, List.append_nil] at h0
    obtain ⟨piv1, h1⟩ := h.step cl h0
    obtain ⟨piv2, h2⟩ := RI.all cl cols h1 fun i d hi => by
      have := ho (i + 1) d hi
      rw [List.take_succ_cons] at this
      rw [List.append_assoc]
      exact this
    refine ⟨piv2, ?_⟩
    rw [List.append_assoc] at h2
    exact h2
end
end W

/-! T42: the equations of a tree: plain sets, the basis, the least solution. -/
namespace W
open PySem PySem.Spec PyProof.Rows L2 Z
local macro_rules | `(tactic| walk_at "w") => `(tactic| simp only [↓len_r1i, ↓len_r1p, ↓len_r1r, w_mC, w_mVar, w_m2x, w_m1x, w_mTst, w_mAnd, w_mOr, w_mNot, w_mIf, w_mBl, w_mFr, w_mSh, w_mCons, w_mRd, w_mRv, w_pVar, w_pIx, w_mCh, w_mYes', w_m2N, w_m1N, w_mStar, w_mSeq, w_mSl, w_mPart, x_mLook, x_mUse, x_mMov, x_mItV, x_mut, x_comp,
  s_next, s_seq, s_if, s_ret, s_asg, s_sto, s_own, s_drop, s_setI, s_augI, s_aug, s_bad, s_retN, s_brk, s_cnt, s_par, s_for,
  x_call1, x_call2, x_call3, x_call4, x_call5, x_call1s, x_call2s, x_call2t, x_call3s, x_call3t, x_call3u, x_call1b, x_call2b, x_call3b, x_call4b, x_c_ss, x_c_dss, x_c_sddd, x_c_ddsd, x_c_ddds, x_meth3, x_meth2s, x_meth2t, x_callP, x_mk0, o_leaves, o_path, o_ties, o_rewired, f_itT, set_rs, f_lstr3, f_tup3d, zp_i, f_r3, f_rev_r, wi_l0, og_l0, op_l0, f_lent, f_ni_b, ls_b, fr_t0, fr_pn, fr_ln, fr_os, il_os, sl_os, fr_ot, il_ot, fr_shd, oix_t1, x_meth0, x_meth1, x_meth2, x_meth1s, x_set, set_i, set_b, en_i, en_p, en_r, f_tupO2, f_tupO3, f_tup2d, fr_t2, fr_t3, slt_ow, ix_t0, ix_t1, ix_t2, wi_t0, wi_t1, og_t0, og_t1, op_t0, op_t1, f_eq_t2, f_ne_t2, o_size, o_wired, r_size, r_wired, x_mk, mk_ok, cut_map, ls_i, ls_r, ls_p, lst_rs, lst_is,
  f_add, f_sub, f_lt, f_le, f_gt, f_ge, f_mod, f_div, f_mul, f_eq, f_ne, f_neg, b_bl, l_sh, v_pl, o_ow, o_own, a_pl, k_pl, k_ow, u_pl, u_ow, mv_pl, mv_ow, i1_int, par2_ok, wF_some, g_nm, f_tp, g_cons, g_nil, wF_map,
  fr_i, fr_p, fr_rs, fr_b, fr_sh, sl_i, sl_p, sl_rs, sl_b, sl_sh, itv_i, itv_p, itv_rs, sq_i, sq_p, sq_r, is_i, is_p, is_r, il_i, il_p, il_rs, il_b,
  m_app_i, m_app_p, m_app_rs, m_app_b, m_rev_i, m_clr_i, m_rem_i, f_len_i, f_len_p, f_len_r, f_in_i, f_ni_i, f_ix_i, f_ix_p, f_ix_r, f_ix_b, p_fst, p_snd, f_list_i, f_list_t, f_list_r, mk_i, mk_p, mk_r, f_srt_i, f_srt_p, f_rev_i, f_rev_p, f_cat_i, f_cat_r, f_cat_p, f_rep_i, minL_map, maxL_map, sum_map, all_map, any_map, f_int1, f_intB, f_max2, f_min2,
  it_r1, it_r2, f_rg, itL_i, itL_p, itL_r, itL_b, itS_i, itS_r, f_lstM, f_lst0, f_lst1, f_lst2, f_lst3, f_lst4, f_lst5, f_lst6, f_lstr1, f_lstr2, f_eq_i, f_ne_i, f_eq_r, f_ne_r, f_eq_p, f_ne_p, f_eq_bl, f_ne_bl, rd_i, rd_b, rd_p, rd_rs, y_size, y_ties, y_wired, y_near, o_neighbours,
  isi_int, f_setL, f_srtU, f_srtS, f_is_bl, f_isn_bl, isi_bl, fr_dic, dic_nil, sl_dic, f_din, f_dni, f_dix, f_dic1, x_rdD, rd_dic, s_setD, set_dic, upF_const, o_ties, r_ties, isi_int_bl, isi_tup, isi_lst, isi_lt, sgx, spx, sgo, spo, og_nil, op_nil, restS, wipeS,
  List.getElem?_cons_zero, List.getElem?_cons_succ, List.set_cons_zero, List.set_cons_succ, List.getD_cons_zero, List.getD_cons_succ, List.cons_append, List.nil_append, List.append_nil, List.length_cons, List.length_nil, List.replicate_succ, List.replicate_zero, Nat.reduceSub, Nat.reduceAdd, true_and, and_true])
local macro_rules | `(tactic| walk_at "v") => `(tactic| simp only [↓len_r1i, ↓len_r1p, ↓len_r1r, w_mC, w_mVar, w_m2x, w_m1x, w_mTst, w_mAnd, w_mOr, w_mNot, w_mIf, w_mBl, w_mFr, w_mSh, w_mCons, w_mRd, w_mRv, w_pVar, w_pIx, w_mCh, w_mYes', w_m2N, w_m1N, w_mStar, w_mSeq, w_mSl, w_mPart, x_mLook, x_mUse, x_mMov, x_mItV, x_mut, x_comp,
  s_next, q_seq, kq_n, kq_r, kq_b, kq_c, s_ret, s_asg, s_sto, s_own, s_drop, s_setI, s_augI, s_aug, s_bad, s_retN, s_brk, s_cnt, s_par, s_for,
  x_call1, x_call2, x_call3, x_call4, x_call5, x_call1s, x_call2s, x_call2t, x_call3s, x_call3t, x_call3u, x_call1b, x_call2b, x_call3b, x_call4b, x_c_ss, x_c_dss, x_c_sddd, x_c_ddsd, x_c_ddds, x_meth3, x_meth2s, x_meth2t, x_callP, x_mk0, o_leaves, o_path, o_ties, o_rewired, f_itT, set_rs, f_lstr3, f_tup3d, zp_i, f_r3, f_rev_r, wi_l0, og_l0, op_l0, f_lent, f_ni_b, ls_b, fr_t0, fr_pn, fr_ln, fr_os, il_os, sl_os, fr_ot, il_ot, fr_shd, oix_t1, x_meth0, x_meth1, x_meth2, x_meth1s, x_set, set_i, set_b, en_i, en_p, en_r, f_tupO2, f_tupO3, f_tup2d, fr_t2, fr_t3, slt_ow, ix_t0, ix_t1, ix_t2, wi_t0, wi_t1, og_t0, og_t1, op_t0, op_t1, f_eq_t2, f_ne_t2, o_size, o_wired, r_size, r_wired, x_mk, mk_ok, cut_map, ls_i, ls_r, ls_p, lst_rs, lst_is,
  f_add, f_sub, f_lt, f_le, f_gt, f_ge, f_mod, f_div, f_mul, f_eq, f_ne, f_neg, b_bl, l_sh, v_pl, o_ow, o_own, a_pl, k_pl, k_ow, u_pl, u_ow, mv_pl, mv_ow, i1_int, par2_ok, wF_some, g_nm, f_tp, g_cons, g_nil, wF_map,
  fr_i, fr_p, fr_rs, fr_b, fr_sh, sl_i, sl_p, sl_rs, sl_b, sl_sh, itv_i, itv_p, itv_rs, sq_i, sq_p, sq_r, is_i, is_p, is_r, il_i, il_p, il_rs, il_b,
  m_app_i, m_app_p, m_app_rs, m_app_b, m_rev_i, m_clr_i, m_rem_i, f_len_i, f_len_p, f_len_r, f_in_i, f_ni_i, f_ix_i, f_ix_p, f_ix_r, f_ix_b, p_fst, p_snd, f_list_i, f_list_t, f_list_r, mk_i, mk_p, mk_r, f_srt_i, f_srt_p, f_rev_i, f_rev_p, f_cat_i, f_cat_r, f_cat_p, f_rep_i, minL_map, maxL_map, sum_map, all_map, any_map, f_int1, f_intB, f_max2, f_min2,
  it_r1, it_r2, f_rg, itL_i, itL_p, itL_r, itL_b, itS_i, itS_r, f_lstM, f_lst0, f_lst1, f_lst2, f_lst3, f_lst4, f_lst5, f_lst6, f_lstr1, f_lstr2, f_eq_i, f_ne_i, f_eq_r, f_ne_r, f_eq_p, f_ne_p, f_eq_bl, f_ne_bl, rd_i, rd_b, rd_p, rd_rs, y_size, y_ties, y_wired, y_near, o_neighbours,
  isi_int, f_setL, f_srtU, f_srtS, f_is_bl, f_isn_bl, isi_bl, fr_dic, dic_nil, sl_dic, f_din, f_dni, f_dix, f_dic1, x_rdD, rd_dic, s_setD, set_dic, upF_const, o_ties, r_ties, isi_int_bl, isi_tup, isi_lst, isi_lt, sgx, spx, sgo, spo, og_nil, op_nil, restS, wipeS,
  List.getElem?_cons_zero, List.getElem?_cons_succ, List.set_cons_zero, List.set_cons_succ, List.getD_cons_zero, List.getD_cons_succ, List.cons_append, List.nil_append, List.append_nil, List.length_cons, List.length_nil, List.replicate_succ, List.replicate_zero, Nat.reduceSub, Nat.reduceAdd, true_and, and_true])
/-- the greatest post of a row -/
def mxR (size : Int) (r : List Int) : Int := (maxL (r.filter fun q => decide (q < size))).getD 0
def bnd (size : Int) (F : List (List Int)) : List (List Int) := F.filter fun r => !decide (r = [size])
def pivs (size : Int) (F : List (List Int)) : List Int := (bnd size F).map (mxR size)
def frees (size : Int) (F : List (List Int)) : List Int := (rng 0 size).filter fun f => !decide (f ∈ pivs size F)
/-- each post has an even number of neighbours in s -/
def PlainS (n : Nat) (nr : List (List Int)) (s : List Int) : Prop := ∀ p : Int, 0 ≤ p → p < n → xr (isIn s) (nb nr p) = false
section
variable {n : Nat} {A : Int → Int → Prop} {nr : List (List Int)} {size : Int} {w s t up : List Int} {p q f : Int} {F : List (List Int)}
/-- a sum of the equations -/
def SpnO (n : Nat) (nr : List (List Int)) (w r : List Int) : Prop := ∃ P : List Int, PosOk n P ∧ (∀ c : Int, 0 ≤ c → c < n → isIn r c = xr (isIn P) (nb nr c)) ∧ isIn r n = xr (isIn P) w
/-- the reduced equations, by pivots -/
structure RedO (n : Nat) (nr : List (List Int)) (w : List Int) (F : List (List Int)) : Prop where
  pos : ∀ r ∈ F, PosOk (n + 1) r ∧ SpnO n nr w r
  len : F.length ≤ n + 1
  rlen : ∀ r ∈ F, r.length ≤ n
  mx : ∀ r ∈ bnd n F, mxR n r ∈ r ∧ (0 ≤ mxR n r ∧ mxR n r < n) ∧ ∀ q ∈ r, q < n → q ≤ mxR n r
  one : ∀ r ∈ F, ∀ r' ∈ bnd n F, mxR n r' ∈ r → r = r'
  nd : (bnd n F).Nodup
  pln : ∀ s : List Int, PosOk n s → (PlainS n nr s ↔ ∀ r ∈ F, xr (isIn s) r = false)
  sol : ∀ s : List Int, PosOk n s → ((∀ p : Int, 0 ≤ p → p < n → xr (isIn s) (nb nr p) = isIn w p) ↔ ∀ r ∈ F, xr (isIn s) r = isIn r n)
end
end W

/-! T43: the basis of the plain sets, the least solution. -/
namespace W
open PySem PySem.Spec PyProof.Rows L2 Z
local macro_rules | `(tactic| walk_at "w") => `(tactic| simp only [↓len_r1i, ↓len_r1p, ↓len_r1r, w_mC, w_mVar, w_m2x, w_m1x, w_mTst, w_mAnd, w_mOr, w_mNot, w_mIf, w_mBl, w_mFr, w_mSh, w_mCons, w_mRd, w_mRv, w_pVar, w_pIx, w_mCh, w_mYes', w_m2N, w_m1N, w_mStar, w_mSeq, w_mSl, w_mPart, x_mLook, x_mUse, x_mMov, x_mItV, x_mut, x_comp,
  s_next, s_seq, s_if, s_ret, s_asg, s_sto, s_own, s_drop, s_setI, s_augI, s_aug, s_bad, s_retN, s_brk, s_cnt, s_par, s_for,
  x_call1, x_call2, x_call3, x_call4, x_call5, x_call1s, x_call2s, x_call2t, x_call3s, x_call3t, x_call3u, x_call1b, x_call2b, x_call3b, x_call4b, x_c_ss, x_c_dss, x_c_sddd, x_c_ddsd, x_c_ddds, x_meth3, x_meth2s, x_meth2t, x_callP, x_mk0, o_leaves, o_path, o_ties, o_rewired, f_itT, set_rs, f_lstr3, f_tup3d, zp_i, f_r3, f_rev_r, wi_l0, og_l0, op_l0, f_lent, f_ni_b, ls_b, fr_t0, fr_pn, fr_ln, fr_os, il_os, sl_os, fr_ot, il_ot, fr_shd, oix_t1, x_meth0, x_meth1, x_meth2, x_meth1s, x_set, set_i, set_b, en_i, en_p, en_r, f_tupO2, f_tupO3, f_tup2d, fr_t2, fr_t3, slt_ow, ix_t0, ix_t1, ix_t2, wi_t0, wi_t1, og_t0, og_t1, op_t0, op_t1, f_eq_t2, f_ne_t2, o_size, o_wired, r_size, r_wired, x_mk, mk_ok, cut_map, ls_i, ls_r, ls_p, lst_rs, lst_is,
  f_add, f_sub, f_lt, f_le, f_gt, f_ge, f_mod, f_div, f_mul, f_eq, f_ne, f_neg, b_bl, l_sh, v_pl, o_ow, o_own, a_pl, k_pl, k_ow, u_pl, u_ow, mv_pl, mv_ow, i1_int, par2_ok, wF_some, g_nm, f_tp, g_cons, g_nil, wF_map,
  fr_i, fr_p, fr_rs, fr_b, fr_sh, sl_i, sl_p, sl_rs, sl_b, sl_sh, itv_i, itv_p, itv_rs, sq_i, sq_p, sq_r, is_i, is_p, is_r, il_i, il_p, il_rs, il_b,
  m_app_i, m_app_p, m_app_rs, m_app_b, m_rev_i, m_clr_i, m_rem_i, f_len_i, f_len_p, f_len_r, f_in_i, f_ni_i, f_ix_i, f_ix_p, f_ix_r, f_ix_b, p_fst, p_snd, f_list_i, f_list_t, f_list_r, mk_i, mk_p, mk_r, f_srt_i, f_srt_p, f_rev_i, f_rev_p, f_cat_i, f_cat_r, f_cat_p, f_rep_i, minL_map, maxL_map, sum_map, all_map, any_map, f_int1, f_intB, f_max2, f_min2,
  it_r1, it_r2, f_rg, itL_i, itL_p, itL_r, itL_b, itS_i, itS_r, f_lstM, f_lst0, f_lst1, f_lst2, f_lst3, f_lst4, f_lst5, f_lst6, f_lstr1, f_lstr2, f_eq_i, f_ne_i, f_eq_r, f_ne_r, f_eq_p, f_ne_p, f_eq_bl, f_ne_bl, rd_i, rd_b, rd_p, rd_rs, y_size, y_ties, y_wired, y_near, o_neighbours,
  isi_int, f_setL, f_srtU, f_srtS, f_is_bl, f_isn_bl, isi_bl, fr_dic, dic_nil, sl_dic, f_din, f_dni, f_dix, f_dic1, x_rdD, rd_dic, s_setD, set_dic, upF_const, o_ties, r_ties, isi_int_bl, isi_tup, isi_lst, isi_lt, sgx, spx, sgo, spo, og_nil, op_nil, restS, wipeS,
  List.getElem?_cons_zero, List.getElem?_cons_succ, List.set_cons_zero, List.set_cons_succ, List.getD_cons_zero, List.getD_cons_succ, List.cons_append, List.nil_append, List.append_nil, List.length_cons, List.length_nil, List.replicate_succ, List.replicate_zero, Nat.reduceSub, Nat.reduceAdd, true_and, and_true])
local macro_rules | `(tactic| walk_at "v") => `(tactic| simp only [↓len_r1i, ↓len_r1p, ↓len_r1r, w_mC, w_mVar, w_m2x, w_m1x, w_mTst, w_mAnd, w_mOr, w_mNot, w_mIf, w_mBl, w_mFr, w_mSh, w_mCons, w_mRd, w_mRv, w_pVar, w_pIx, w_mCh, w_mYes', w_m2N, w_m1N, w_mStar, w_mSeq, w_mSl, w_mPart, x_mLook, x_mUse, x_mMov, x_mItV, x_mut, x_comp,
  s_next, q_seq, kq_n, kq_r, kq_b, kq_c, s_ret, s_asg, s_sto, s_own, s_drop, s_setI, s_augI, s_aug, s_bad, s_retN, s_brk, s_cnt, s_par, s_for,
  x_call1, x_call2, x_call3, x_call4, x_call5, x_call1s, x_call2s, x_call2t, x_call3s, x_call3t, x_call3u, x_call1b, x_call2b, x_call3b, x_call4b, x_c_ss, x_c_dss, x_c_sddd, x_c_ddsd, x_c_ddds, x_meth3, x_meth2s, x_meth2t, x_callP, x_mk0, o_leaves, o_path, o_ties, o_rewired, f_itT, set_rs, f_lstr3, f_tup3d, zp_i, f_r3, f_rev_r, wi_l0, og_l0, op_l0, f_lent, f_ni_b, ls_b, fr_t0, fr_pn, fr_ln, fr_os, il_os, sl_os, fr_ot, il_ot, fr_shd, oix_t1, x_meth0, x_meth1, x_meth2, x_meth1s, x_set, set_i, set_b, en_i, en_p, en_r, f_tupO2, f_tupO3, f_tup2d, fr_t2, fr_t3, slt_ow, ix_t0, ix_t1, ix_t2, wi_t0, wi_t1, og_t0, og_t1, op_t0, op_t1, f_eq_t2, f_ne_t2, o_size, o_wired, r_size, r_wired, x_mk, mk_ok, cut_map, ls_i, ls_r, ls_p, lst_rs, lst_is,
  f_add, f_sub, f_lt, f_le, f_gt, f_ge, f_mod, f_div, f_mul, f_eq, f_ne, f_neg, b_bl, l_sh, v_pl, o_ow, o_own, a_pl, k_pl, k_ow, u_pl, u_ow, mv_pl, mv_ow, i1_int, par2_ok, wF_some, g_nm, f_tp, g_cons, g_nil, wF_map,
  fr_i, fr_p, fr_rs, fr_b, fr_sh, sl_i, sl_p, sl_rs, sl_b, sl_sh, itv_i, itv_p, itv_rs, sq_i, sq_p, sq_r, is_i, is_p, is_r, il_i, il_p, il_rs, il_b,
  m_app_i, m_app_p, m_app_rs, m_app_b, m_rev_i, m_clr_i, m_rem_i, f_len_i, f_len_p, f_len_r, f_in_i, f_ni_i, f_ix_i, f_ix_p, f_ix_r, f_ix_b, p_fst, p_snd, f_list_i, f_list_t, f_list_r, mk_i, mk_p, mk_r, f_srt_i, f_srt_p, f_rev_i, f_rev_p, f_cat_i, f_cat_r, f_cat_p, f_rep_i, minL_map, maxL_map, sum_map, all_map, any_map, f_int1, f_intB, f_max2, f_min2,
  it_r1, it_r2, f_rg, itL_i, itL_p, itL_r, itL_b, itS_i, itS_r, f_lstM, f_lst0, f_lst1, f_lst2, f_lst3, f_lst4, f_lst5, f_lst6, f_lstr1, f_lstr2, f_eq_i, f_ne_i, f_eq_r, f_ne_r, f_eq_p, f_ne_p, f_eq_bl, f_ne_bl, rd_i, rd_b, rd_p, rd_rs, y_size, y_ties, y_wired, y_near, o_neighbours,
  isi_int, f_setL, f_srtU, f_srtS, f_is_bl, f_isn_bl, isi_bl, fr_dic, dic_nil, sl_dic, f_din, f_dni, f_dix, f_dic1, x_rdD, rd_dic, s_setD, set_dic, upF_const, o_ties, r_ties, isi_int_bl, isi_tup, isi_lst, isi_lt, sgx, spx, sgo, spo, og_nil, op_nil, restS, wipeS,
  List.getElem?_cons_zero, List.getElem?_cons_succ, List.set_cons_zero, List.set_cons_succ, List.getD_cons_zero, List.getD_cons_succ, List.cons_append, List.nil_append, List.append_nil, List.length_cons, List.length_nil, List.replicate_succ, List.replicate_zero, Nat.reduceSub, Nat.reduceAdd, true_and, and_true])
section
variable {n : Nat} {nr : List (List Int)} {w s t : List Int} {p q f : Int} {F : List (List Int)} {g : List Int → Bool} {r : List Int}
theorem bnd_mem : r ∈ bnd n F ↔ r ∈ F ∧ r ≠ [(n : Int)] := by
  unfold bnd
  rw [List.mem_filter]
  simp
theorem piv_mem : q ∈ pivs n F ↔ ∃ r ∈ bnd n F, mxR n r = q := by
  unfold pivs
  rw [List.mem_map]
theorem RedO.inj (R : RedO n nr w F) {r r' : List Int} (h : r ∈ bnd n F) (h' : r' ∈ bnd n F) (e : mxR n r = mxR n r') : r = r' :=
  R.one r (bnd_mem.mp h).1 r' h' (e ▸ (R.mx r h).1)
theorem free_mem : f ∈ frees n F ↔ (0 ≤ f ∧ f < n) ∧ f ∉ pivs n F := by
  unfold frees
  rw [List.mem_filter, rng_mem]
  simp
/-- a plain set without free posts is empty -/
theorem RedO.zero (R : RedO n nr w F) (hs : PosOk n s) (hp : PlainS n nr s) (hf : ∀ f ∈ frees n F, f ∉ s) : s = [] := by
  refine List.eq_nil_iff_forall_not_mem.mpr fun q hq => ?_
  have hpv : ∀ x ∈ s, ∃ r ∈ bnd n F, mxR n r = x := fun x hx => Classical.byContradiction fun z => hf x (free_mem.mpr ⟨hs.1 x hx, fun y => z (piv_mem.mp y)⟩) hx
  obtain ⟨r, hr, e⟩ := hpv q hq
  have hrF := (bnd_mem.mp hr).1
  have h1 := (R.pln s hs).mp hp r hrF
  have e2 : ∀ x ∈ r, isIn s x = decide (x = q) := fun x hx => by
    unfold isIn
    rw [Bool.eq_iff_iff, decide_eq_true_eq, decide_eq_true_eq]
    constructor
    · intro hxs
      obtain ⟨r', hr', e'⟩ := hpv x hxs
      have := R.one r hrF r' hr' (e' ▸ hx)
      subst this
      rw [← e, ← e']
    · rintro rfl; exact hq
  rw [xr_congr e2, xr_one (R.pos r hrF).1.nd, decide_eq_true (e ▸ (R.mx r hr).1)] at h1
  cases h1
end
end W

/-! Y11: dicts by comprehension, their items, deep membership, extend, slices of tuples. -/
namespace W
open PySem PySem.Spec PyProof.Rows L2 Z
def wDic (x : Option Sl) (P : List Key → List D → Prop) : Prop := match x with
  | some (.pl (.dic ks ds)) => P ks ds
  | _ => False
theorem wdic_pl {ks : List Key} {ds : List D} {P : List Key → List D → Prop} : wDic (some (.pl (.dic ks ds))) P = P ks ds := rfl
section
variable {S : List Sl} {g : Tg} {t : M Bool} {e ek : M D} {vs : List Nat} {i : Nat}
theorem x_compIt {Q : O → List Sl → Prop} : wM (mCompIt i g t e vs) S Q = wDic S[i]? fun ks ds => ((itemsD ks ds).length ≤ 16777216 ∧ (vs.all fun v => notOw S[v]?) = true) ∧ wCmp g t e vs (itemsD ks ds) S (wipeS S vs) Q := by
  have key : ∀ ks ds, wO (match mComp (mC (itemsD ks ds)) g t e vs S with | .ok o S' => .ok o S' | _ => .bad) Q = (((itemsD ks ds).length ≤ 16777216 ∧ (vs.all fun v => notOw S[v]?) = true) ∧ wCmp g t e vs (itemsD ks ds) S (wipeS S vs) Q) := fun ks ds => by
    have h := x_comp (S := S) (mi := mC (itemsD ks ds)) (g := g) (t := t) (e := e) (vs := vs) (Q := Q)
    rw [w_mC] at h
    rw [← h]
    unfold wM
    cases mComp (mC (itemsD ks ds)) g t e vs S <;> rfl
  unfold wM mCompIt wDic
  cases S[i]? with
  | none => rfl
  | some x =>
    cases x with
    | no => rfl
    | ow o => rfl
    | pl d =>
      cases d with
      | dic ks ds => exact key ks ds
      | _ => rfl
def wCmpK (g : Tg) (t : M Bool) (ek e : M D) (vs : List Nat) (ds : List D) (S0 S : List Sl) (Q : O → List Sl → Prop) : Prop := wO (cmpGoK g t ek e vs ds S) fun ps S2 => Q (dicOf ps) (restS S0 S2 vs)
theorem x_compK {mi : M (List D)} {Q : O → List Sl → Prop} : wM (mCompK mi g t ek e vs) S Q = wM mi S fun ds S1 => (ds.length ≤ 16777216 ∧ (vs.all fun v => notOw S1[v]?) = true) ∧ wCmpK g t ek e vs ds S1 (wipeS S1 vs) Q := by
  unfold wM mCompK wCmpK
  rw [wO_bd]
  congr
  funext ds S1
  by_cases h : ds.length ≤ 16777216
  · cases h2 : vs.all fun v => notOw S1[v]? with
    | true =>
      have hd := decide_eq_true h
      simp only [hd, Bool.and_self]
      rw [wO_bn]
      simp only [h, and_self, true_and]
      rfl
    | false => simp [h, wO]
  · simp [h, wO]
theorem f_dniK {L : List Int} {ds : List D} {x : Int} {P : D → Prop} : wF (dDNi (.int x) (.dic (L.map .inl) ds)) P = P (.bl (!decide (x ∈ L))) := by
  show wF (((some (Sum.inl x : Key)).map fun k => inK (L.map .inl) k).map fun b => D.bl (!b)) P = _
  rw [Option.map_some, Option.map_some, inK_i]
  rfl
theorem items_i {α : Type} {kf : α → Int} {vf : α → D} {xs : List α} : itemsD (xs.map fun x => .inl (kf x)) (xs.map vf) = xs.map fun x => D.tup [.int (kf x), vf x] := by
  unfold itemsD
  induction xs with
  | nil => rfl
  | cons x xs ih => exact congrArg (D.tup [.int (kf x), vf x] :: ·) ih
end
/-! membership of rows and of pairs -/
theorem any_dec {α : Type} [DecidableEq α] {f : α → PyData} {x : α} (h : ∀ y, PyData.eqv (f y) (f x) = decide (y = x)) (xs : List α) : ((xs.map f).any fun z => PyData.eqv z (f x)) = decide (x ∈ xs) := by
  induction xs with
  | nil => rfl
  | cons y xs ih =>
    rw [List.map_cons, List.any_cons, ih, h]
    by_cases e : y = x
    · subst e; simp
    · have : ¬ x = y := fun z => e z.symm
      simp [e, this]
theorem f_inD_r {r : List Int} {rs : List (List Int)} {P : D → Prop} : wF (dInD (iD r) (rD rs)) P = P (.bl (decide (r ∈ rs))) := by
  have e : inDB (iD r) (rD rs) = some (decide (r ∈ rs)) := by
    unfold inDB rD
    simp only
    rw [toPy_i, toPyL_f iD (fun r => PyData.list (r.map PyData.int)) (fun _ => toPy_i)]
    simp only [Option.bind_some]
    rw [shp_i, show SeqAt.shaped (.list (rs.map fun r : List Int => PyData.list (r.map PyData.int))) = true from shp_f pyI 1 (by omega) can_i pyI_dep rs]
    simp only [Bool.and_self]
    exact congrArg some ((any_dec (f := fun r : List Int => PyData.list (r.map PyData.int)) (fun y => eqv_i y r) rs).trans (decide_eq_decide.mpr Iff.rfl))
  unfold dInD
  rw [e]
  rfl
theorem f_niD_r {r : List Int} {rs : List (List Int)} {P : D → Prop} : wF (dNiD (iD r) (rD rs)) P = P (.bl (!decide (r ∈ rs))) := by
  have e : inDB (iD r) (rD rs) = some (decide (r ∈ rs)) := by
    unfold inDB rD
    simp only
    rw [toPy_i, toPyL_f iD (fun r => PyData.list (r.map PyData.int)) (fun _ => toPy_i)]
    simp only [Option.bind_some]
    rw [shp_i, show SeqAt.shaped (.list (rs.map fun r : List Int => PyData.list (r.map PyData.int))) = true from shp_f pyI 1 (by omega) can_i pyI_dep rs]
    simp only [Bool.and_self]
    exact congrArg some ((any_dec (f := fun r : List Int => PyData.list (r.map PyData.int)) (fun y => eqv_i y r) rs).trans (decide_eq_decide.mpr Iff.rfl))
  unfold dNiD
  rw [e]
  rfl
/-! extend; slices of tuples -/
theorem m_ext_i {ns ms : List Int} {P : D → O → Prop} : wMutO fExt (some (iO ns)) [iO ms] P = (ns.length + ms.length ≤ 16777216 ∧ P .non (iO (ns ++ ms))) := by
  unfold wMutO fExt iO
  simp only [List.length_map, sl_16]
  by_cases h : ns.length + ms.length ≤ 16777216
  · simp only [decide_eq_true h]
    simp only [h, true_and, List.map_append]
  · simp only [decide_eq_false h]
    simp only [h, false_and]
def wSlT (d : D) (lo hi : Option Int) (P : O → Prop) : Prop := match d with
  | .tup ds => ¬ (HT.sIx ds.length 0 lo = 0 ∧ HT.sIx ds.length ds.length hi = ds.length) ∧ P (.tup ((cutD ds lo hi).map .sh))
  | _ => False
theorem w_mSlT {m : M D} {ml mh : M (Option Int)} {S : List Sl} {Q : O → List Sl → Prop} : wM (mSlT m ml mh) S Q = wM m S fun d S1 => wM ml S1 fun lo S2 => wM mh S2 fun hi S3 => wSlT d lo hi fun o => Q o S3 := by
  unfold wM mSlT
  simp only [wO_bd]
  congr
  funext d S1
  congr
  funext lo S2
  congr
  funext hi S3
  cases d with
  | tup ds =>
    unfold wSlT
    by_cases h : HT.sIx ds.length 0 lo = 0 ∧ HT.sIx ds.length ds.length hi = ds.length
    · simp only [decide_eq_true h]
      simp [h, wO]
    · simp only [decide_eq_false h]
      simp only [h, not_false_eq_true, true_and]
      rfl
  | _ => rfl
end W

/-! Y13: what is shown, found and moved, on the plain side. -/
namespace Z
open PySem PySem.Spec PyProof.Rows L2
section
variable {α : Type} {S : List Sl} {k : Ks} {i x : Nat} {ms io : List Nat}
end
end Z

/-! T44: the program's equations, basis, still positions. -/
namespace W
open PySem PySem.Spec PyProof.Rows L2 Z
local macro_rules | `(tactic| walk_at "w") => `(tactic| simp only [↓len_r1i, ↓len_r1p, ↓len_r1r, w_mC, w_mVar, w_m2x, w_m1x, w_mTst, w_mAnd, w_mOr, w_mNot, w_mIf, w_mBl, w_mFr, w_mSh, w_mCons, w_mRd, w_mRv, w_pVar, w_pIx, w_mCh, w_mYes', w_m2N, w_m1N, w_mStar, w_mSeq, w_mSl, w_mPart, x_mLook, x_mUse, x_mMov, x_mItV, x_mut, x_comp,
  s_next, s_seq, s_if, s_ret, s_asg, s_sto, s_own, s_drop, s_setI, s_augI, s_aug, s_bad, s_retN, s_brk, s_cnt, s_par, s_for,
  x_call1, x_call2, x_call3, x_call4, x_call5, x_call1s, x_call2s, x_call2t, x_call3s, x_call3t, x_call3u, x_call1b, x_call2b, x_call3b, x_call4b, m_app_os, f_in_t2, f_ni_t2, x_compIt, wdic_pl, x_compK, f_dniK, items_i, f_inD_r, f_niD_r, m_ext_i, w_mSlT, x_c_ss, x_c_dss, x_c_sddd, x_c_ddsd, x_c_ddds, x_meth3, x_meth2s, x_meth2t, x_callP, x_mk0, o_leaves, o_path, o_ties, o_rewired, f_itT, set_rs, f_lstr3, f_tup3d, zp_i, f_r3, f_rev_r, wi_l0, og_l0, op_l0, f_lent, f_ni_b, ls_b, fr_t0, fr_pn, fr_ln, fr_os, il_os, sl_os, fr_ot, il_ot, fr_shd, oix_t1, x_meth0, x_meth1, x_meth2, x_meth1s, x_set, set_i, set_b, en_i, en_p, en_r, f_tupO2, f_tupO3, f_tup2d, fr_t2, fr_t3, slt_ow, ix_t0, ix_t1, ix_t2, wi_t0, wi_t1, og_t0, og_t1, op_t0, op_t1, f_eq_t2, f_ne_t2, o_size, o_wired, r_size, r_wired, x_mk, mk_ok, cut_map, ls_i, ls_r, ls_p, lst_rs, lst_is,
  f_add, f_sub, f_lt, f_le, f_gt, f_ge, f_mod, f_div, f_mul, f_eq, f_ne, f_neg, b_bl, l_sh, v_pl, o_ow, o_own, a_pl, k_pl, k_ow, u_pl, u_ow, mv_pl, mv_ow, i1_int, par2_ok, wF_some, g_nm, f_tp, g_cons, g_nil, wF_map,
  fr_i, fr_p, fr_rs, fr_b, fr_sh, sl_i, sl_p, sl_rs, sl_b, sl_sh, itv_i, itv_p, itv_rs, sq_i, sq_p, sq_r, is_i, is_p, is_r, il_i, il_p, il_rs, il_b,
  m_app_i, m_app_p, m_app_rs, m_app_b, m_rev_i, m_clr_i, m_rem_i, f_len_i, f_len_p, f_len_r, f_in_i, f_ni_i, f_ix_i, f_ix_p, f_ix_r, f_ix_b, p_fst, p_snd, f_list_i, f_list_t, f_list_r, mk_i, mk_p, mk_r, f_srt_i, f_srt_p, f_rev_i, f_rev_p, f_cat_i, f_cat_r, f_cat_p, f_rep_i, minL_map, maxL_map, sum_map, all_map, any_map, f_int1, f_intB, f_max2, f_min2,
  it_r1, it_r2, f_rg, itL_i, itL_p, itL_r, itL_b, itS_i, itS_r, f_lstM, f_lst0, f_lst1, f_lst2, f_lst3, f_lst4, f_lst5, f_lst6, f_lstr1, f_lstr2, f_eq_i, f_ne_i, f_eq_r, f_ne_r, f_eq_p, f_ne_p, f_eq_bl, f_ne_bl, rd_i, rd_b, rd_p, rd_rs, y_size, y_ties, y_wired, y_near, o_neighbours,
  isi_int, f_setL, f_srtU, f_srtS, f_is_bl, f_isn_bl, isi_bl, fr_dic, dic_nil, sl_dic, f_din, f_dni, f_dix, f_dic1, x_rdD, rd_dic, s_setD, set_dic, upF_const, o_ties, r_ties, isi_int_bl, isi_tup, isi_lst, isi_lt, sgx, spx, sgo, spo, og_nil, op_nil, restS, wipeS,
  List.getElem?_cons_zero, List.getElem?_cons_succ, List.set_cons_zero, List.set_cons_succ, List.getD_cons_zero, List.getD_cons_succ, List.cons_append, List.nil_append, List.append_nil, List.length_cons, List.length_nil, List.replicate_succ, List.replicate_zero, Nat.reduceSub, Nat.reduceAdd, true_and, and_true])
local macro_rules | `(tactic| walk_at "v") => `(tactic| simp only [↓len_r1i, ↓len_r1p, ↓len_r1r, w_mC, w_mVar, w_m2x, w_m1x, w_mTst, w_mAnd, w_mOr, w_mNot, w_mIf, w_mBl, w_mFr, w_mSh, w_mCons, w_mRd, w_mRv, w_pVar, w_pIx, w_mCh, w_mYes', w_m2N, w_m1N, w_mStar, w_mSeq, w_mSl, w_mPart, x_mLook, x_mUse, x_mMov, x_mItV, x_mut, x_comp,
  s_next, q_seq, kq_n, kq_r, kq_b, kq_c, s_ret, s_asg, s_sto, s_own, s_drop, s_setI, s_augI, s_aug, s_bad, s_retN, s_brk, s_cnt, s_par, s_for,
  x_call1, x_call2, x_call3, x_call4, x_call5, x_call1s, x_call2s, x_call2t, x_call3s, x_call3t, x_call3u, x_call1b, x_call2b, x_call3b, x_call4b, m_app_os, f_in_t2, f_ni_t2, x_compIt, wdic_pl, x_compK, f_dniK, items_i, f_inD_r, f_niD_r, m_ext_i, w_mSlT, x_c_ss, x_c_dss, x_c_sddd, x_c_ddsd, x_c_ddds, x_meth3, x_meth2s, x_meth2t, x_callP, x_mk0, o_leaves, o_path, o_ties, o_rewired, f_itT, set_rs, f_lstr3, f_tup3d, zp_i, f_r3, f_rev_r, wi_l0, og_l0, op_l0, f_lent, f_ni_b, ls_b, fr_t0, fr_pn, fr_ln, fr_os, il_os, sl_os, fr_ot, il_ot, fr_shd, oix_t1, x_meth0, x_meth1, x_meth2, x_meth1s, x_set, set_i, set_b, en_i, en_p, en_r, f_tupO2, f_tupO3, f_tup2d, fr_t2, fr_t3, slt_ow, ix_t0, ix_t1, ix_t2, wi_t0, wi_t1, og_t0, og_t1, op_t0, op_t1, f_eq_t2, f_ne_t2, o_size, o_wired, r_size, r_wired, x_mk, mk_ok, cut_map, ls_i, ls_r, ls_p, lst_rs, lst_is,
  f_add, f_sub, f_lt, f_le, f_gt, f_ge, f_mod, f_div, f_mul, f_eq, f_ne, f_neg, b_bl, l_sh, v_pl, o_ow, o_own, a_pl, k_pl, k_ow, u_pl, u_ow, mv_pl, mv_ow, i1_int, par2_ok, wF_some, g_nm, f_tp, g_cons, g_nil, wF_map,
  fr_i, fr_p, fr_rs, fr_b, fr_sh, sl_i, sl_p, sl_rs, sl_b, sl_sh, itv_i, itv_p, itv_rs, sq_i, sq_p, sq_r, is_i, is_p, is_r, il_i, il_p, il_rs, il_b,
  m_app_i, m_app_p, m_app_rs, m_app_b, m_rev_i, m_clr_i, m_rem_i, f_len_i, f_len_p, f_len_r, f_in_i, f_ni_i, f_ix_i, f_ix_p, f_ix_r, f_ix_b, p_fst, p_snd, f_list_i, f_list_t, f_list_r, mk_i, mk_p, mk_r, f_srt_i, f_srt_p, f_rev_i, f_rev_p, f_cat_i, f_cat_r, f_cat_p, f_rep_i, minL_map, maxL_map, sum_map, all_map, any_map, f_int1, f_intB, f_max2, f_min2,
  it_r1, it_r2, f_rg, itL_i, itL_p, itL_r, itL_b, itS_i, itS_r, f_lstM, f_lst0, f_lst1, f_lst2, f_lst3, f_lst4, f_lst5, f_lst6, f_lstr1, f_lstr2, f_eq_i, f_ne_i, f_eq_r, f_ne_r, f_eq_p, f_ne_p, f_eq_bl, f_ne_bl, rd_i, rd_b, rd_p, rd_rs, y_size, y_ties, y_wired, y_near, o_neighbours,
  isi_int, f_setL, f_srtU, f_srtS, f_is_bl, f_isn_bl, isi_bl, fr_dic, dic_nil, sl_dic, f_din, f_dni, f_dix, f_dic1, x_rdD, rd_dic, s_setD, set_dic, upF_const, o_ties, r_ties, isi_int_bl, isi_tup, isi_lst, isi_lt, sgx, spx, sgo, spo, og_nil, op_nil, restS, wipeS,
  List.getElem?_cons_zero, List.getElem?_cons_succ, List.set_cons_zero, List.set_cons_succ, List.getD_cons_zero, List.getD_cons_succ, List.cons_append, List.nil_append, List.append_nil, List.length_cons, List.length_nil, List.replicate_succ, List.replicate_zero, Nat.reduceSub, Nat.reduceAdd, true_and, and_true])
section
variable {n : Nat} {A : Int → Int → Prop} {nr : List (List Int)} {size : Int} {ts : List (Int × Int)} {ws w s up : List Int} {p q f c : Int} {F : List (List Int)}
end
end W

/-! T45: presses there and back, still positions under presses. -/
namespace W
open PySem PySem.Spec PyProof.Rows L2 Z
local macro_rules | `(tactic| walk_at "w") => `(tactic| simp only [↓len_r1i, ↓len_r1p, ↓len_r1r, w_mC, w_mVar, w_m2x, w_m1x, w_mTst, w_mAnd, w_mOr, w_mNot, w_mIf, w_mBl, w_mFr, w_mSh, w_mCons, w_mRd, w_mRv, w_pVar, w_pIx, w_mCh, w_mYes', w_m2N, w_m1N, w_mStar, w_mSeq, w_mSl, w_mPart, x_mLook, x_mUse, x_mMov, x_mItV, x_mut, x_comp,
  s_next, s_seq, s_if, s_ret, s_asg, s_sto, s_own, s_drop, s_setI, s_augI, s_aug, s_bad, s_retN, s_brk, s_cnt, s_par, s_for,
  x_call1, x_call2, x_call3, x_call4, x_call5, x_call1s, x_call2s, x_call2t, x_call3s, x_call3t, x_call3u, x_call1b, x_call2b, x_call3b, x_call4b, m_app_os, f_in_t2, f_ni_t2, x_compIt, wdic_pl, x_compK, f_dniK, items_i, f_inD_r, f_niD_r, m_ext_i, w_mSlT, x_c_ss, x_c_dss, x_c_sddd, x_c_ddsd, x_c_ddds, x_meth3, x_meth2s, x_meth2t, x_callP, x_mk0, o_leaves, o_path, o_ties, o_rewired, f_itT, set_rs, f_lstr3, f_tup3d, zp_i, f_r3, f_rev_r, wi_l0, og_l0, op_l0, f_lent, f_ni_b, ls_b, fr_t0, fr_pn, fr_ln, fr_os, il_os, sl_os, fr_ot, il_ot, fr_shd, oix_t1, x_meth0, x_meth1, x_meth2, x_meth1s, x_set, set_i, set_b, en_i, en_p, en_r, f_tupO2, f_tupO3, f_tup2d, fr_t2, fr_t3, slt_ow, ix_t0, ix_t1, ix_t2, wi_t0, wi_t1, og_t0, og_t1, op_t0, op_t1, f_eq_t2, f_ne_t2, o_size, o_wired, r_size, r_wired, x_mk, mk_ok, cut_map, ls_i, ls_r, ls_p, lst_rs, lst_is,
  f_add, f_sub, f_lt, f_le, f_gt, f_ge, f_mod, f_div, f_mul, f_eq, f_ne, f_neg, b_bl, l_sh, v_pl, o_ow, o_own, a_pl, k_pl, k_ow, u_pl, u_ow, mv_pl, mv_ow, i1_int, par2_ok, wF_some, g_nm, f_tp, g_cons, g_nil, wF_map,
  fr_i, fr_p, fr_rs, fr_b, fr_sh, sl_i, sl_p, sl_rs, sl_b, sl_sh, itv_i, itv_p, itv_rs, sq_i, sq_p, sq_r, is_i, is_p, is_r, il_i, il_p, il_rs, il_b,
  m_app_i, m_app_p, m_app_rs, m_app_b, m_rev_i, m_clr_i, m_rem_i, f_len_i, f_len_p, f_len_r, f_in_i, f_ni_i, f_ix_i, f_ix_p, f_ix_r, f_ix_b, p_fst, p_snd, f_list_i, f_list_t, f_list_r, mk_i, mk_p, mk_r, f_srt_i, f_srt_p, f_rev_i, f_rev_p, f_cat_i, f_cat_r, f_cat_p, f_rep_i, minL_map, maxL_map, sum_map, all_map, any_map, f_int1, f_intB, f_max2, f_min2,
  it_r1, it_r2, f_rg, itL_i, itL_p, itL_r, itL_b, itS_i, itS_r, f_lstM, f_lst0, f_lst1, f_lst2, f_lst3, f_lst4, f_lst5, f_lst6, f_lstr1, f_lstr2, f_eq_i, f_ne_i, f_eq_r, f_ne_r, f_eq_p, f_ne_p, f_eq_bl, f_ne_bl, rd_i, rd_b, rd_p, rd_rs, y_size, y_ties, y_wired, y_near, o_neighbours,
  isi_int, f_setL, f_srtU, f_srtS, f_is_bl, f_isn_bl, isi_bl, fr_dic, dic_nil, sl_dic, f_din, f_dni, f_dix, f_dic1, x_rdD, rd_dic, s_setD, set_dic, upF_const, o_ties, r_ties, isi_int_bl, isi_tup, isi_lst, isi_lt, sgx, spx, sgo, spo, og_nil, op_nil, restS, wipeS,
  List.getElem?_cons_zero, List.getElem?_cons_succ, List.set_cons_zero, List.set_cons_succ, List.getD_cons_zero, List.getD_cons_succ, List.cons_append, List.nil_append, List.append_nil, List.length_cons, List.length_nil, List.replicate_succ, List.replicate_zero, Nat.reduceSub, Nat.reduceAdd, true_and, and_true])
local macro_rules | `(tactic| walk_at "v") => `(tactic| simp only [↓len_r1i, ↓len_r1p, ↓len_r1r, w_mC, w_mVar, w_m2x, w_m1x, w_mTst, w_mAnd, w_mOr, w_mNot, w_mIf, w_mBl, w_mFr, w_mSh, w_mCons, w_mRd, w_mRv, w_pVar, w_pIx, w_mCh, w_mYes', w_m2N, w_m1N, w_mStar, w_mSeq, w_mSl, w_mPart, x_mLook, x_mUse, x_mMov, x_mItV, x_mut, x_comp,
  s_next, q_seq, kq_n, kq_r, kq_b, kq_c, s_ret, s_asg, s_sto, s_own, s_drop, s_setI, s_augI, s_aug, s_bad, s_retN, s_brk, s_cnt, s_par, s_for,
  x_call1, x_call2, x_call3, x_call4, x_call5, x_call1s, x_call2s, x_call2t, x_call3s, x_call3t, x_call3u, x_call1b, x_call2b, x_call3b, x_call4b, m_app_os, f_in_t2, f_ni_t2, x_compIt, wdic_pl, x_compK, f_dniK, items_i, f_inD_r, f_niD_r, m_ext_i, w_mSlT, x_c_ss, x_c_dss, x_c_sddd, x_c_ddsd, x_c_ddds, x_meth3, x_meth2s, x_meth2t, x_callP, x_mk0, o_leaves, o_path, o_ties, o_rewired, f_itT, set_rs, f_lstr3, f_tup3d, zp_i, f_r3, f_rev_r, wi_l0, og_l0, op_l0, f_lent, f_ni_b, ls_b, fr_t0, fr_pn, fr_ln, fr_os, il_os, sl_os, fr_ot, il_ot, fr_shd, oix_t1, x_meth0, x_meth1, x_meth2, x_meth1s, x_set, set_i, set_b, en_i, en_p, en_r, f_tupO2, f_tupO3, f_tup2d, fr_t2, fr_t3, slt_ow, ix_t0, ix_t1, ix_t2, wi_t0, wi_t1, og_t0, og_t1, op_t0, op_t1, f_eq_t2, f_ne_t2, o_size, o_wired, r_size, r_wired, x_mk, mk_ok, cut_map, ls_i, ls_r, ls_p, lst_rs, lst_is,
  f_add, f_sub, f_lt, f_le, f_gt, f_ge, f_mod, f_div, f_mul, f_eq, f_ne, f_neg, b_bl, l_sh, v_pl, o_ow, o_own, a_pl, k_pl, k_ow, u_pl, u_ow, mv_pl, mv_ow, i1_int, par2_ok, wF_some, g_nm, f_tp, g_cons, g_nil, wF_map,
  fr_i, fr_p, fr_rs, fr_b, fr_sh, sl_i, sl_p, sl_rs, sl_b, sl_sh, itv_i, itv_p, itv_rs, sq_i, sq_p, sq_r, is_i, is_p, is_r, il_i, il_p, il_rs, il_b,
  m_app_i, m_app_p, m_app_rs, m_app_b, m_rev_i, m_clr_i, m_rem_i, f_len_i, f_len_p, f_len_r, f_in_i, f_ni_i, f_ix_i, f_ix_p, f_ix_r, f_ix_b, p_fst, p_snd, f_list_i, f_list_t, f_list_r, mk_i, mk_p, mk_r, f_srt_i, f_srt_p, f_rev_i, f_rev_p, f_cat_i, f_cat_r, f_cat_p, f_rep_i, minL_map, maxL_map, sum_map, all_map, any_map, f_int1, f_intB, f_max2, f_min2,
  it_r1, it_r2, f_rg, itL_i, itL_p, itL_r, itL_b, itS_i, itS_r, f_lstM, f_lst0, f_lst1, f_lst2, f_lst3, f_lst4, f_lst5, f_lst6, f_lstr1, f_lstr2, f_eq_i, f_ne_i, f_eq_r, f_ne_r, f_eq_p, f_ne_p, f_eq_bl, f_ne_bl, rd_i, rd_b, rd_p, rd_rs, y_size, y_ties, y_wired, y_near, o_neighbours,
  isi_int, f_setL, f_srtU, f_srtS, f_is_bl, f_isn_bl, isi_bl, fr_dic, dic_nil, sl_dic, f_din, f_dni, f_dix, f_dic1, x_rdD, rd_dic, s_setD, set_dic, upF_const, o_ties, r_ties, isi_int_bl, isi_tup, isi_lst, isi_lt, sgx, spx, sgo, spo, og_nil, op_nil, restS, wipeS,
  List.getElem?_cons_zero, List.getElem?_cons_succ, List.set_cons_zero, List.set_cons_succ, List.getD_cons_zero, List.getD_cons_succ, List.cons_append, List.nil_append, List.append_nil, List.length_cons, List.length_nil, List.replicate_succ, List.replicate_zero, Nat.reduceSub, Nat.reduceAdd, true_and, and_true])
section
variable {n : Nat} {A : Int → Int → Prop} {nr : List (List Int)} {size : Int} {ts : List (Int × Int)} {ws w s up : List Int} {p q f c : Int} {row : List Int}
end
theorem f_eq_str {x y : Str} (hx : PyData.strOk x = true) (hy : PyData.strOk y = true) {P : D → Prop} : wF (dEq (.str x) (.str y)) P = P (.bl (x == y)) := by
  have sh : ∀ {x : Str}, PyData.strOk x = true → SeqAt.shaped (.str x) = true := fun {x} h => by
    unfold SeqAt.shaped
    rw [show PyData.canLay0 (.str x) = true by simpa only [PyData.canLay0] using h]
    rfl
  unfold dEq
  rw [eqB_of (p := .str x) (q := .str y) (b := x == y) rfl rfl (sh hx) (sh hy) rfl]
  rfl
end W

/-! T46: ready posts as lamps; solve. -/
namespace W
open PySem PySem.Spec PyProof.Rows L2 Z
local macro_rules | `(tactic| walk_at "w") => `(tactic| simp only [↓len_r1i, ↓len_r1p, ↓len_r1r, w_mC, w_mVar, w_m2x, w_m1x, w_mTst, w_mAnd, w_mOr, w_mNot, w_mIf, w_mBl, w_mFr, w_mSh, w_mCons, w_mRd, w_mRv, w_pVar, w_pIx, w_mCh, w_mYes', w_m2N, w_m1N, w_mStar, w_mSeq, w_mSl, w_mPart, x_mLook, x_mUse, x_mMov, x_mItV, x_mut, x_comp,
  s_next, s_seq, s_if, s_ret, s_asg, s_sto, s_own, s_drop, s_setI, s_augI, s_aug, s_bad, s_retN, s_brk, s_cnt, s_par, s_for,
  x_call1, x_call2, x_call3, x_call4, x_call5, x_call1s, x_call2s, x_call2t, x_call3s, x_call3t, x_call3u, x_call1b, x_call2b, x_call3b, x_call4b, m_app_os, f_in_t2, f_ni_t2, x_compIt, wdic_pl, x_compK, f_dniK, items_i, f_inD_r, f_niD_r, m_ext_i, w_mSlT, x_c_ss, x_c_dss, x_c_sddd, x_c_ddsd, x_c_ddds, x_meth3, x_meth2s, x_meth2t, x_callP, x_mk0, o_leaves, o_path, o_ties, o_rewired, f_itT, set_rs, f_lstr3, f_tup3d, zp_i, f_r3, f_rev_r, wi_l0, og_l0, op_l0, f_lent, f_ni_b, ls_b, fr_t0, fr_pn, fr_ln, fr_os, il_os, sl_os, fr_ot, il_ot, fr_shd, oix_t1, x_meth0, x_meth1, x_meth2, x_meth1s, x_set, set_i, set_b, en_i, en_p, en_r, f_tupO2, f_tupO3, f_tup2d, fr_t2, fr_t3, slt_ow, ix_t0, ix_t1, ix_t2, wi_t0, wi_t1, og_t0, og_t1, op_t0, op_t1, f_eq_t2, f_ne_t2, o_size, o_wired, r_size, r_wired, x_mk, mk_ok, cut_map, ls_i, ls_r, ls_p, lst_rs, lst_is,
  f_add, f_sub, f_lt, f_le, f_gt, f_ge, f_mod, f_div, f_mul, f_eq, f_ne, f_neg, b_bl, l_sh, v_pl, o_ow, o_own, a_pl, k_pl, k_ow, u_pl, u_ow, mv_pl, mv_ow, i1_int, par2_ok, wF_some, g_nm, f_tp, g_cons, g_nil, wF_map,
  fr_i, fr_p, fr_rs, fr_b, fr_sh, sl_i, sl_p, sl_rs, sl_b, sl_sh, itv_i, itv_p, itv_rs, sq_i, sq_p, sq_r, is_i, is_p, is_r, il_i, il_p, il_rs, il_b,
  m_app_i, m_app_p, m_app_rs, m_app_b, m_rev_i, m_clr_i, m_rem_i, f_len_i, f_len_p, f_len_r, f_in_i, f_ni_i, f_ix_i, f_ix_p, f_ix_r, f_ix_b, p_fst, p_snd, f_list_i, f_list_t, f_list_r, mk_i, mk_p, mk_r, f_srt_i, f_srt_p, f_rev_i, f_rev_p, f_cat_i, f_cat_r, f_cat_p, f_rep_i, minL_map, maxL_map, sum_map, all_map, any_map, f_int1, f_intB, f_max2, f_min2,
  it_r1, it_r2, f_rg, itL_i, itL_p, itL_r, itL_b, itS_i, itS_r, f_lstM, f_lst0, f_lst1, f_lst2, f_lst3, f_lst4, f_lst5, f_lst6, f_lstr1, f_lstr2, f_eq_i, f_ne_i, f_eq_r, f_ne_r, f_eq_p, f_ne_p, f_eq_bl, f_ne_bl, rd_i, rd_b, rd_p, rd_rs, y_size, y_ties, y_wired, y_near, o_neighbours,
  isi_int, f_setL, f_srtU, f_srtS, f_is_bl, f_isn_bl, isi_bl, fr_dic, dic_nil, sl_dic, f_din, f_dni, f_dix, f_dic1, x_rdD, rd_dic, s_setD, set_dic, upF_const, o_ties, r_ties, isi_int_bl, isi_tup, isi_lst, isi_lt, sgx, spx, sgo, spo, og_nil, op_nil, restS, wipeS,
  List.getElem?_cons_zero, List.getElem?_cons_succ, List.set_cons_zero, List.set_cons_succ, List.getD_cons_zero, List.getD_cons_succ, List.cons_append, List.nil_append, List.append_nil, List.length_cons, List.length_nil, List.replicate_succ, List.replicate_zero, Nat.reduceSub, Nat.reduceAdd, true_and, and_true])
local macro_rules | `(tactic| walk_at "v") => `(tactic| simp only [↓len_r1i, ↓len_r1p, ↓len_r1r, w_mC, w_mVar, w_m2x, w_m1x, w_mTst, w_mAnd, w_mOr, w_mNot, w_mIf, w_mBl, w_mFr, w_mSh, w_mCons, w_mRd, w_mRv, w_pVar, w_pIx, w_mCh, w_mYes', w_m2N, w_m1N, w_mStar, w_mSeq, w_mSl, w_mPart, x_mLook, x_mUse, x_mMov, x_mItV, x_mut, x_comp,
  s_next, q_seq, kq_n, kq_r, kq_b, kq_c, s_ret, s_asg, s_sto, s_own, s_drop, s_setI, s_augI, s_aug, s_bad, s_retN, s_brk, s_cnt, s_par, s_for,
  x_call1, x_call2, x_call3, x_call4, x_call5, x_call1s, x_call2s, x_call2t, x_call3s, x_call3t, x_call3u, x_call1b, x_call2b, x_call3b, x_call4b, m_app_os, f_in_t2, f_ni_t2, x_compIt, wdic_pl, x_compK, f_dniK, items_i, f_inD_r, f_niD_r, m_ext_i, w_mSlT, x_c_ss, x_c_dss, x_c_sddd, x_c_ddsd, x_c_ddds, x_meth3, x_meth2s, x_meth2t, x_callP, x_mk0, o_leaves, o_path, o_ties, o_rewired, f_itT, set_rs, f_lstr3, f_tup3d, zp_i, f_r3, f_rev_r, wi_l0, og_l0, op_l0, f_lent, f_ni_b, ls_b, fr_t0, fr_pn, fr_ln, fr_os, il_os, sl_os, fr_ot, il_ot, fr_shd, oix_t1, x_meth0, x_meth1, x_meth2, x_meth1s, x_set, set_i, set_b, en_i, en_p, en_r, f_tupO2, f_tupO3, f_tup2d, fr_t2, fr_t3, slt_ow, ix_t0, ix_t1, ix_t2, wi_t0, wi_t1, og_t0, og_t1, op_t0, op_t1, f_eq_t2, f_ne_t2, o_size, o_wired, r_size, r_wired, x_mk, mk_ok, cut_map, ls_i, ls_r, ls_p, lst_rs, lst_is,
  f_add, f_sub, f_lt, f_le, f_gt, f_ge, f_mod, f_div, f_mul, f_eq, f_ne, f_neg, b_bl, l_sh, v_pl, o_ow, o_own, a_pl, k_pl, k_ow, u_pl, u_ow, mv_pl, mv_ow, i1_int, par2_ok, wF_some, g_nm, f_tp, g_cons, g_nil, wF_map,
  fr_i, fr_p, fr_rs, fr_b, fr_sh, sl_i, sl_p, sl_rs, sl_b, sl_sh, itv_i, itv_p, itv_rs, sq_i, sq_p, sq_r, is_i, is_p, is_r, il_i, il_p, il_rs, il_b,
  m_app_i, m_app_p, m_app_rs, m_app_b, m_rev_i, m_clr_i, m_rem_i, f_len_i, f_len_p, f_len_r, f_in_i, f_ni_i, f_ix_i, f_ix_p, f_ix_r, f_ix_b, p_fst, p_snd, f_list_i, f_list_t, f_list_r, mk_i, mk_p, mk_r, f_srt_i, f_srt_p, f_rev_i, f_rev_p, f_cat_i, f_cat_r, f_cat_p, f_rep_i, minL_map, maxL_map, sum_map, all_map, any_map, f_int1, f_intB, f_max2, f_min2,
  it_r1, it_r2, f_rg, itL_i, itL_p, itL_r, itL_b, itS_i, itS_r, f_lstM, f_lst0, f_lst1, f_lst2, f_lst3, f_lst4, f_lst5, f_lst6, f_lstr1, f_lstr2, f_eq_i, f_ne_i, f_eq_r, f_ne_r, f_eq_p, f_ne_p, f_eq_bl, f_ne_bl, rd_i, rd_b, rd_p, rd_rs, y_size, y_ties, y_wired, y_near, o_neighbours,
  isi_int, f_setL, f_srtU, f_srtS, f_is_bl, f_isn_bl, isi_bl, fr_dic, dic_nil, sl_dic, f_din, f_dni, f_dix, f_dic1, x_rdD, rd_dic, s_setD, set_dic, upF_const, o_ties, r_ties, isi_int_bl, isi_tup, isi_lst, isi_lt, sgx, spx, sgo, spo, og_nil, op_nil, restS, wipeS,
  List.getElem?_cons_zero, List.getElem?_cons_succ, List.set_cons_zero, List.set_cons_succ, List.getD_cons_zero, List.getD_cons_succ, List.cons_append, List.nil_append, List.append_nil, List.length_cons, List.length_nil, List.replicate_succ, List.replicate_zero, Nat.reduceSub, Nat.reduceAdd, true_and, and_true])
section
variable {n : Nat} {A : Int → Int → Prop} {nr : List (List Int)} {size : Int} {ts : List (Int × Int)} {ws w s up lit goal x : List Int} {p q f c : Int} {row : List Int} {F : List (List Int)}
end
end W

/-! T47: classes told. -/
namespace W
open PySem PySem.Spec PyProof.Rows L2 Z
local macro_rules | `(tactic| walk_at "w") => `(tactic| simp only [↓len_r1i, ↓len_r1p, ↓len_r1r, w_mC, w_mVar, w_m2x, w_m1x, w_mTst, w_mAnd, w_mOr, w_mNot, w_mIf, w_mBl, w_mFr, w_mSh, w_mCons, w_mRd, w_mRv, w_pVar, w_pIx, w_mCh, w_mYes', w_m2N, w_m1N, w_mStar, w_mSeq, w_mSl, w_mPart, x_mLook, x_mUse, x_mMov, x_mItV, x_mut, x_comp,
  s_next, s_seq, s_if, s_ret, s_asg, s_sto, s_own, s_drop, s_setI, s_augI, s_aug, s_bad, s_retN, s_brk, s_cnt, s_par, s_for,
  x_call1, x_call2, x_call3, x_call4, x_call5, x_call1s, x_call2s, x_call2t, x_call3s, x_call3t, x_call3u, x_call1b, x_call2b, x_call3b, x_call4b, m_app_os, f_in_t2, f_ni_t2, x_compIt, wdic_pl, x_compK, f_dniK, items_i, f_inD_r, f_niD_r, m_ext_i, w_mSlT, x_c_ss, x_c_dss, x_c_sddd, x_c_ddsd, x_c_ddds, x_meth3, x_meth2s, x_meth2t, x_callP, x_mk0, o_leaves, o_path, o_ties, o_rewired, f_itT, set_rs, f_lstr3, f_tup3d, zp_i, f_r3, f_rev_r, wi_l0, og_l0, op_l0, f_lent, f_ni_b, ls_b, fr_t0, fr_pn, fr_ln, fr_os, il_os, sl_os, fr_ot, il_ot, fr_shd, oix_t1, x_meth0, x_meth1, x_meth2, x_meth1s, x_set, set_i, set_b, en_i, en_p, en_r, f_tupO2, f_tupO3, f_tup2d, fr_t2, fr_t3, slt_ow, ix_t0, ix_t1, ix_t2, wi_t0, wi_t1, og_t0, og_t1, op_t0, op_t1, f_eq_t2, f_ne_t2, o_size, o_wired, r_size, r_wired, x_mk, mk_ok, cut_map, ls_i, ls_r, ls_p, lst_rs, lst_is,
  f_add, f_sub, f_lt, f_le, f_gt, f_ge, f_mod, f_div, f_mul, f_eq, f_ne, f_neg, b_bl, l_sh, v_pl, o_ow, o_own, a_pl, k_pl, k_ow, u_pl, u_ow, mv_pl, mv_ow, i1_int, par2_ok, wF_some, g_nm, f_tp, g_cons, g_nil, wF_map,
  fr_i, fr_p, fr_rs, fr_b, fr_sh, sl_i, sl_p, sl_rs, sl_b, sl_sh, itv_i, itv_p, itv_rs, sq_i, sq_p, sq_r, is_i, is_p, is_r, il_i, il_p, il_rs, il_b,
  m_app_i, m_app_p, m_app_rs, m_app_b, m_rev_i, m_clr_i, m_rem_i, f_len_i, f_len_p, f_len_r, f_in_i, f_ni_i, f_ix_i, f_ix_p, f_ix_r, f_ix_b, p_fst, p_snd, f_list_i, f_list_t, f_list_r, mk_i, mk_p, mk_r, f_srt_i, f_srt_p, f_rev_i, f_rev_p, f_cat_i, f_cat_r, f_cat_p, f_rep_i, minL_map, maxL_map, sum_map, all_map, any_map, f_int1, f_intB, f_max2, f_min2,
  it_r1, it_r2, f_rg, itL_i, itL_p, itL_r, itL_b, itS_i, itS_r, f_lstM, f_lst0, f_lst1, f_lst2, f_lst3, f_lst4, f_lst5, f_lst6, f_lstr1, f_lstr2, f_eq_i, f_ne_i, f_eq_r, f_ne_r, f_eq_p, f_ne_p, f_eq_bl, f_ne_bl, rd_i, rd_b, rd_p, rd_rs, y_size, y_ties, y_wired, y_near, o_neighbours,
  isi_int, f_setL, f_srtU, f_srtS, f_is_bl, f_isn_bl, isi_bl, fr_dic, dic_nil, sl_dic, f_din, f_dni, f_dix, f_dic1, x_rdD, rd_dic, s_setD, set_dic, upF_const, o_ties, r_ties, isi_int_bl, isi_tup, isi_lst, isi_lt, sgx, spx, sgo, spo, og_nil, op_nil, restS, wipeS,
  List.getElem?_cons_zero, List.getElem?_cons_succ, List.set_cons_zero, List.set_cons_succ, List.getD_cons_zero, List.getD_cons_succ, List.cons_append, List.nil_append, List.append_nil, List.length_cons, List.length_nil, List.replicate_succ, List.replicate_zero, Nat.reduceSub, Nat.reduceAdd, true_and, and_true])
local macro_rules | `(tactic| walk_at "v") => `(tactic| simp only [↓len_r1i, ↓len_r1p, ↓len_r1r, w_mC, w_mVar, w_m2x, w_m1x, w_mTst, w_mAnd, w_mOr, w_mNot, w_mIf, w_mBl, w_mFr, w_mSh, w_mCons, w_mRd, w_mRv, w_pVar, w_pIx, w_mCh, w_mYes', w_m2N, w_m1N, w_mStar, w_mSeq, w_mSl, w_mPart, x_mLook, x_mUse, x_mMov, x_mItV, x_mut, x_comp,
  s_next, q_seq, kq_n, kq_r, kq_b, kq_c, s_ret, s_asg, s_sto, s_own, s_drop, s_setI, s_augI, s_aug, s_bad, s_retN, s_brk, s_cnt, s_par, s_for,
  x_call1, x_call2, x_call3, x_call4, x_call5, x_call1s, x_call2s, x_call2t, x_call3s, x_call3t, x_call3u, x_call1b, x_call2b, x_call3b, x_call4b, m_app_os, f_in_t2, f_ni_t2, x_compIt, wdic_pl, x_compK, f_dniK, items_i, f_inD_r, f_niD_r, m_ext_i, w_mSlT, x_c_ss, x_c_dss, x_c_sddd, x_c_ddsd, x_c_ddds, x_meth3, x_meth2s, x_meth2t, x_callP, x_mk0, o_leaves, o_path, o_ties, o_rewired, f_itT, set_rs, f_lstr3, f_tup3d, zp_i, f_r3, f_rev_r, wi_l0, og_l0, op_l0, f_lent, f_ni_b, ls_b, fr_t0, fr_pn, fr_ln, fr_os, il_os, sl_os, fr_ot, il_ot, fr_shd, oix_t1, x_meth0, x_meth1, x_meth2, x_meth1s, x_set, set_i, set_b, en_i, en_p, en_r, f_tupO2, f_tupO3, f_tup2d, fr_t2, fr_t3, slt_ow, ix_t0, ix_t1, ix_t2, wi_t0, wi_t1, og_t0, og_t1, op_t0, op_t1, f_eq_t2, f_ne_t2, o_size, o_wired, r_size, r_wired, x_mk, mk_ok, cut_map, ls_i, ls_r, ls_p, lst_rs, lst_is,
  f_add, f_sub, f_lt, f_le, f_gt, f_ge, f_mod, f_div, f_mul, f_eq, f_ne, f_neg, b_bl, l_sh, v_pl, o_ow, o_own, a_pl, k_pl, k_ow, u_pl, u_ow, mv_pl, mv_ow, i1_int, par2_ok, wF_some, g_nm, f_tp, g_cons, g_nil, wF_map,
  fr_i, fr_p, fr_rs, fr_b, fr_sh, sl_i, sl_p, sl_rs, sl_b, sl_sh, itv_i, itv_p, itv_rs, sq_i, sq_p, sq_r, is_i, is_p, is_r, il_i, il_p, il_rs, il_b,
  m_app_i, m_app_p, m_app_rs, m_app_b, m_rev_i, m_clr_i, m_rem_i, f_len_i, f_len_p, f_len_r, f_in_i, f_ni_i, f_ix_i, f_ix_p, f_ix_r, f_ix_b, p_fst, p_snd, f_list_i, f_list_t, f_list_r, mk_i, mk_p, mk_r, f_srt_i, f_srt_p, f_rev_i, f_rev_p, f_cat_i, f_cat_r, f_cat_p, f_rep_i, minL_map, maxL_map, sum_map, all_map, any_map, f_int1, f_intB, f_max2, f_min2,
  it_r1, it_r2, f_rg, itL_i, itL_p, itL_r, itL_b, itS_i, itS_r, f_lstM, f_lst0, f_lst1, f_lst2, f_lst3, f_lst4, f_lst5, f_lst6, f_lstr1, f_lstr2, f_eq_i, f_ne_i, f_eq_r, f_ne_r, f_eq_p, f_ne_p, f_eq_bl, f_ne_bl, rd_i, rd_b, rd_p, rd_rs, y_size, y_ties, y_wired, y_near, o_neighbours,
  isi_int, f_setL, f_srtU, f_srtS, f_is_bl, f_isn_bl, isi_bl, fr_dic, dic_nil, sl_dic, f_din, f_dni, f_dix, f_dic1, x_rdD, rd_dic, s_setD, set_dic, upF_const, o_ties, r_ties, isi_int_bl, isi_tup, isi_lst, isi_lt, sgx, spx, sgo, spo, og_nil, op_nil, restS, wipeS,
  List.getElem?_cons_zero, List.getElem?_cons_succ, List.set_cons_zero, List.set_cons_succ, List.getD_cons_zero, List.getD_cons_succ, List.cons_append, List.nil_append, List.append_nil, List.length_cons, List.length_nil, List.replicate_succ, List.replicate_zero, Nat.reduceSub, Nat.reduceAdd, true_and, and_true])
theorem okS_all {x : Str} (h : x.cps.toList.all (fun c => decide (c < 0x110000)) = true) : OkS x := fun c hc => of_decide_eq_true (List.all_eq_true.mp h c hc)
end W

/-! Y14: what is shown, put together of parts. -/
namespace W
open PySem PySem.Spec PyProof.Rows L2 Z
local macro_rules | `(tactic| walk_at "w") => `(tactic| simp only [↓len_r1i, ↓len_r1p, ↓len_r1r, w_mC, w_mVar, w_m2x, w_m1x, w_mTst, w_mAnd, w_mOr, w_mNot, w_mIf, w_mBl, w_mFr, w_mSh, w_mCons, w_mRd, w_mRv, w_pVar, w_pIx, w_mCh, w_mYes', w_m2N, w_m1N, w_mStar, w_mSeq, w_mSl, w_mPart, x_mLook, x_mUse, x_mMov, x_mItV, x_mut, x_comp,
  s_next, s_seq, s_if, s_ret, s_asg, s_sto, s_own, s_drop, s_setI, s_augI, s_aug, s_bad, s_retN, s_brk, s_cnt, s_par, s_for,
  x_call1, x_call2, x_call3, x_call4, x_call5, x_call1s, x_call2s, x_call2t, x_call3s, x_call3t, x_call3u, x_call1b, x_call2b, x_call3b, x_call4b, m_app_os, f_in_t2, f_ni_t2, x_compIt, wdic_pl, x_compK, f_dniK, items_i, f_inD_r, f_niD_r, m_ext_i, w_mSlT, x_c_ss, x_c_dss, x_c_sddd, x_c_ddsd, x_c_ddds, x_meth3, x_meth2s, x_meth2t, x_callP, x_mk0, o_leaves, o_path, o_ties, o_rewired, f_itT, set_rs, f_lstr3, f_tup3d, zp_i, f_r3, f_rev_r, wi_l0, og_l0, op_l0, f_lent, f_ni_b, ls_b, fr_t0, fr_pn, fr_ln, fr_os, il_os, sl_os, fr_ot, il_ot, fr_shd, oix_t1, x_meth0, x_meth1, x_meth2, x_meth1s, x_set, set_i, set_b, en_i, en_p, en_r, f_tupO2, f_tupO3, f_tup2d, fr_t2, fr_t3, slt_ow, ix_t0, ix_t1, ix_t2, wi_t0, wi_t1, og_t0, og_t1, op_t0, op_t1, f_eq_t2, f_ne_t2, o_size, o_wired, r_size, r_wired, x_mk, mk_ok, cut_map, ls_i, ls_r, ls_p, lst_rs, lst_is,
  f_add, f_sub, f_lt, f_le, f_gt, f_ge, f_mod, f_div, f_mul, f_eq, f_ne, f_neg, b_bl, l_sh, v_pl, o_ow, o_own, a_pl, k_pl, k_ow, u_pl, u_ow, mv_pl, mv_ow, i1_int, par2_ok, wF_some, g_nm, f_tp, g_cons, g_nil, wF_map,
  fr_i, fr_p, fr_rs, fr_b, fr_sh, sl_i, sl_p, sl_rs, sl_b, sl_sh, itv_i, itv_p, itv_rs, sq_i, sq_p, sq_r, is_i, is_p, is_r, il_i, il_p, il_rs, il_b,
  m_app_i, m_app_p, m_app_rs, m_app_b, m_rev_i, m_clr_i, m_rem_i, f_len_i, f_len_p, f_len_r, f_in_i, f_ni_i, f_ix_i, f_ix_p, f_ix_r, f_ix_b, p_fst, p_snd, f_list_i, f_list_t, f_list_r, mk_i, mk_p, mk_r, f_srt_i, f_srt_p, f_rev_i, f_rev_p, f_cat_i, f_cat_r, f_cat_p, f_rep_i, minL_map, maxL_map, sum_map, all_map, any_map, f_int1, f_intB, f_max2, f_min2,
  it_r1, it_r2, f_rg, itL_i, itL_p, itL_r, itL_b, itS_i, itS_r, f_lstM, f_lst0, f_lst1, f_lst2, f_lst3, f_lst4, f_lst5, f_lst6, f_lstr1, f_lstr2, f_eq_i, f_ne_i, f_eq_r, f_ne_r, f_eq_p, f_ne_p, f_eq_bl, f_ne_bl, rd_i, rd_b, rd_p, rd_rs, y_size, y_ties, y_wired, y_near, o_neighbours,
  isi_int, f_setL, f_srtU, f_srtS, f_is_bl, f_isn_bl, isi_bl, fr_dic, dic_nil, sl_dic, f_din, f_dni, f_dix, f_dic1, x_rdD, rd_dic, s_setD, set_dic, upF_const, o_ties, r_ties, isi_int_bl, isi_tup, isi_lst, isi_lt, sgx, spx, sgo, spo, og_nil, op_nil, restS, wipeS,
  List.getElem?_cons_zero, List.getElem?_cons_succ, List.set_cons_zero, List.set_cons_succ, List.getD_cons_zero, List.getD_cons_succ, List.cons_append, List.nil_append, List.append_nil, List.length_cons, List.length_nil, List.replicate_succ, List.replicate_zero, Nat.reduceSub, Nat.reduceAdd, true_and, and_true])
local macro_rules | `(tactic| walk_at "v") => `(tactic| simp only [↓len_r1i, ↓len_r1p, ↓len_r1r, w_mC, w_mVar, w_m2x, w_m1x, w_mTst, w_mAnd, w_mOr, w_mNot, w_mIf, w_mBl, w_mFr, w_mSh, w_mCons, w_mRd, w_mRv, w_pVar, w_pIx, w_mCh, w_mYes', w_m2N, w_m1N, w_mStar, w_mSeq, w_mSl, w_mPart, x_mLook, x_mUse, x_mMov, x_mItV, x_mut, x_comp,
  s_next, q_seq, kq_n, kq_r, kq_b, kq_c, s_ret, s_asg, s_sto, s_own, s_drop, s_setI, s_augI, s_aug, s_bad, s_retN, s_brk, s_cnt, s_par, s_for,
  x_call1, x_call2, x_call3, x_call4, x_call5, x_call1s, x_call2s, x_call2t, x_call3s, x_call3t, x_call3u, x_call1b, x_call2b, x_call3b, x_call4b, m_app_os, f_in_t2, f_ni_t2, x_compIt, wdic_pl, x_compK, f_dniK, items_i, f_inD_r, f_niD_r, m_ext_i, w_mSlT, x_c_ss, x_c_dss, x_c_sddd, x_c_ddsd, x_c_ddds, x_meth3, x_meth2s, x_meth2t, x_callP, x_mk0, o_leaves, o_path, o_ties, o_rewired, f_itT, set_rs, f_lstr3, f_tup3d, zp_i, f_r3, f_rev_r, wi_l0, og_l0, op_l0, f_lent, f_ni_b, ls_b, fr_t0, fr_pn, fr_ln, fr_os, il_os, sl_os, fr_ot, il_ot, fr_shd, oix_t1, x_meth0, x_meth1, x_meth2, x_meth1s, x_set, set_i, set_b, en_i, en_p, en_r, f_tupO2, f_tupO3, f_tup2d, fr_t2, fr_t3, slt_ow, ix_t0, ix_t1, ix_t2, wi_t0, wi_t1, og_t0, og_t1, op_t0, op_t1, f_eq_t2, f_ne_t2, o_size, o_wired, r_size, r_wired, x_mk, mk_ok, cut_map, ls_i, ls_r, ls_p, lst_rs, lst_is,
  f_add, f_sub, f_lt, f_le, f_gt, f_ge, f_mod, f_div, f_mul, f_eq, f_ne, f_neg, b_bl, l_sh, v_pl, o_ow, o_own, a_pl, k_pl, k_ow, u_pl, u_ow, mv_pl, mv_ow, i1_int, par2_ok, wF_some, g_nm, f_tp, g_cons, g_nil, wF_map,
  fr_i, fr_p, fr_rs, fr_b, fr_sh, sl_i, sl_p, sl_rs, sl_b, sl_sh, itv_i, itv_p, itv_rs, sq_i, sq_p, sq_r, is_i, is_p, is_r, il_i, il_p, il_rs, il_b,
  m_app_i, m_app_p, m_app_rs, m_app_b, m_rev_i, m_clr_i, m_rem_i, f_len_i, f_len_p, f_len_r, f_in_i, f_ni_i, f_ix_i, f_ix_p, f_ix_r, f_ix_b, p_fst, p_snd, f_list_i, f_list_t, f_list_r, mk_i, mk_p, mk_r, f_srt_i, f_srt_p, f_rev_i, f_rev_p, f_cat_i, f_cat_r, f_cat_p, f_rep_i, minL_map, maxL_map, sum_map, all_map, any_map, f_int1, f_intB, f_max2, f_min2,
  it_r1, it_r2, f_rg, itL_i, itL_p, itL_r, itL_b, itS_i, itS_r, f_lstM, f_lst0, f_lst1, f_lst2, f_lst3, f_lst4, f_lst5, f_lst6, f_lstr1, f_lstr2, f_eq_i, f_ne_i, f_eq_r, f_ne_r, f_eq_p, f_ne_p, f_eq_bl, f_ne_bl, rd_i, rd_b, rd_p, rd_rs, y_size, y_ties, y_wired, y_near, o_neighbours,
  isi_int, f_setL, f_srtU, f_srtS, f_is_bl, f_isn_bl, isi_bl, fr_dic, dic_nil, sl_dic, f_din, f_dni, f_dix, f_dic1, x_rdD, rd_dic, s_setD, set_dic, upF_const, o_ties, r_ties, isi_int_bl, isi_tup, isi_lst, isi_lt, sgx, spx, sgo, spo, og_nil, op_nil, restS, wipeS,
  List.getElem?_cons_zero, List.getElem?_cons_succ, List.set_cons_zero, List.set_cons_succ, List.getD_cons_zero, List.getD_cons_succ, List.cons_append, List.nil_append, List.append_nil, List.length_cons, List.length_nil, List.replicate_succ, List.replicate_zero, Nat.reduceSub, Nat.reduceAdd, true_and, and_true])
structure RG (k w : Nat) (p : PyData) : Prop where
  can : p.canLay0 = true
  dep : p.depth ≤ k
  wt : p.weight ≤ w
  sh : p.intsShort 13 = true
  shw : p.showable = true
  eqv : PyData.eqv p p = true
  ok : OkS p.shown
structure RGA (k w : Nat) (ps : List PyData) : Prop where
  can : PyData.canLayAll0 ps = true
  dep : PyData.depthAll ps ≤ k
  wt : PyData.weightAll ps ≤ w
  sh : PyData.intsShortAll 13 ps = true
  shw : PyData.showableAll ps = true
  eqv : PyData.eqvAll ps ps = true
  ok : ∀ t ∈ PyData.shownAll ps, OkS t
theorem RGA.nil {k w : Nat} : RGA k w [] := ⟨rfl, Nat.zero_le _, Nat.zero_le _, rfl, rfl, rfl, fun t ht => by simp [PyData.shownAll] at ht⟩
theorem RGA.cons {k w v : Nat} {p : PyData} {ps : List PyData} (h : RG k w p) (r : RGA k v ps) : RGA k (w + 1 + v) (p :: ps) where
  can := by show (p.canLay0 && PyData.canLayAll0 ps) = true; rw [h.can, r.can]; rfl
  dep := by show max p.depth (PyData.depthAll ps) ≤ k; have := h.dep; have := r.dep; omega
  wt := by show p.weight + 1 + PyData.weightAll ps ≤ _; have := h.wt; have := r.wt; omega
  sh := by show (p.intsShort 13 && PyData.intsShortAll 13 ps) = true; rw [h.sh, r.sh]; rfl
  shw := by show (p.showable && PyData.showableAll ps) = true; rw [h.shw, r.shw]; rfl
  eqv := by show (PyData.eqv p p && PyData.eqvAll ps ps) = true; rw [h.eqv, r.eqv]; rfl
  ok := fun t ht => by
    have ht' : t ∈ PyData.shown p :: PyData.shownAll ps := ht
    rcases List.mem_cons.mp ht' with e | e
    · rw [e]; exact h.ok
    · exact r.ok t e
theorem RGA.tup {k w : Nat} {ps : List PyData} (r : RGA k w ps) : RG (k + 1) w (.tuple ps) where
  can := r.can
  dep := by show PyData.depthAll ps + 1 ≤ k + 1; have := r.dep; omega
  wt := r.wt
  sh := r.sh
  shw := r.shw
  eqv := r.eqv
  ok := by
    show OkS (tupleText (PyData.shownAll ps))
    exact okS_app (okS_app (okS_of _) (okS_join _ _ r.ok)) (okS_of _)
theorem RGA.lst {k w : Nat} {ps : List PyData} (r : RGA k w ps) : RG (k + 1) w (.list ps) where
  can := r.can
  dep := by show PyData.depthAll ps + 1 ≤ k + 1; have := r.dep; omega
  wt := r.wt
  sh := r.sh
  shw := r.shw
  eqv := r.eqv
  ok := by
    show OkS (listText (PyData.shownAll ps))
    exact okS_app (okS_from _ _ _ r.ok (okS_of _)) (okS_of _)
theorem RG.up {k w k' w' : Nat} {p : PyData} (h : RG k w p) (hk : k ≤ k') (hw : w ≤ w') : RG k' w' p := ⟨h.can, Nat.le_trans h.dep hk, Nat.le_trans h.wt hw, h.sh, h.shw, h.eqv, h.ok⟩
theorem RGA.up {k w k' w' : Nat} {p : List PyData} (h : RGA k w p) (hk : k ≤ k') (hw : w ≤ w') : RGA k' w' p := ⟨h.can, Nat.le_trans h.dep hk, Nat.le_trans h.wt hw, h.sh, h.shw, h.eqv, h.ok⟩
def RD (k w : Nat) (d : D) : Prop := ∃ p, toPy d = some p ∧ RG k w p
def RDA (k w : Nat) (ds : List D) : Prop := ∃ ps, toPyL ds = some ps ∧ RGA k w ps
theorem RDA.nil {k w : Nat} : RDA k w [] := ⟨[], rfl, .nil⟩
theorem RDA.cons {k w v : Nat} {d : D} {ds : List D} (h : RD k w d) (r : RDA k v ds) : RDA k (w + 1 + v) (d :: ds) := by
  obtain ⟨p, h1, h2⟩ := h
  obtain ⟨ps, h3, h4⟩ := r
  refine ⟨p :: ps, ?_, .cons h2 h4⟩
  unfold toPyL
  rw [h1, h3]
theorem RDA.tup {k w : Nat} {ds : List D} (r : RDA k w ds) : RD (k + 1) w (.tup ds) := by
  obtain ⟨ps, h3, h4⟩ := r
  exact ⟨.tuple ps, by unfold toPy; rw [h3]; rfl, h4.tup⟩
theorem RDA.lst {k w : Nat} {ds : List D} (r : RDA k w ds) : RD (k + 1) w (.lst ds) := by
  obtain ⟨ps, h3, h4⟩ := r
  exact ⟨.list ps, by unfold toPy; rw [h3]; rfl, h4.lst⟩
theorem RD.up {k w k' w' : Nat} {d : D} (h : RD k w d) (hk : k ≤ k') (hw : w ≤ w') : RD k' w' d := by
  obtain ⟨p, h1, h2⟩ := h
  exact ⟨p, h1, h2.up hk hw⟩
end W

set_option maxHeartbeats 2000000
/-! Y15: mirrors that end by an error. -/
namespace Z
open PySem PySem.Spec PyProof.Rows L2
abbrev EP0 := Str → List Str → List D → Prop
def eOS (x : OutS) (P : EP0) : Prop := match x with
  | .exc C fs ds _ => P C fs ds
  | _ => False
def eS (s : MS) (S : List Sl) (P : EP0) : Prop := eOS (s S) P
section
variable {α β γ : Type} {S : List Sl} {k : Ks} {P : EP0}
end
end Z

set_option maxHeartbeats 4000000
/-! Y16: repr and != [] of things with great ints, that may be dicts. -/
namespace W
open PySem PySem.Spec PyProof.Rows L2 Z
local macro_rules | `(tactic| walk_at "w") => `(tactic| simp only [↓len_r1i, ↓len_r1p, ↓len_r1r, w_mC, w_mVar, w_m2x, w_m1x, w_mTst, w_mAnd, w_mOr, w_mNot, w_mIf, w_mBl, w_mFr, w_mSh, w_mCons, w_mRd, w_mRv, w_pVar, w_pIx, w_mCh, w_mYes', w_m2N, w_m1N, w_mStar, w_mSeq, w_mSl, w_mPart, x_mLook, x_mUse, x_mMov, x_mItV, x_mut, x_comp,
  s_next, s_seq, s_if, s_ret, s_asg, s_sto, s_own, s_drop, s_setI, s_augI, s_aug, s_bad, s_retN, s_brk, s_cnt, s_par, s_for,
  x_call1, x_call2, x_call3, x_call4, x_call5, x_call1s, x_call2s, x_call2t, x_call3s, x_call3t, x_call3u, x_call1b, x_call2b, x_call3b, x_call4b, m_app_os, f_in_t2, f_ni_t2, x_compIt, wdic_pl, x_compK, f_dniK, items_i, f_inD_r, f_niD_r, m_ext_i, w_mSlT, x_c_ss, x_c_dss, x_c_sddd, x_c_ddsd, x_c_ddds, x_meth3, x_meth2s, x_meth2t, x_callP, x_mk0, o_leaves, o_path, o_ties, o_rewired, f_itT, set_rs, f_lstr3, f_tup3d, zp_i, f_r3, f_rev_r, wi_l0, og_l0, op_l0, f_lent, f_ni_b, ls_b, fr_t0, fr_pn, fr_ln, fr_os, il_os, sl_os, fr_ot, il_ot, fr_shd, oix_t1, x_meth0, x_meth1, x_meth2, x_meth1s, x_set, set_i, set_b, en_i, en_p, en_r, f_tupO2, f_tupO3, f_tup2d, fr_t2, fr_t3, slt_ow, ix_t0, ix_t1, ix_t2, wi_t0, wi_t1, og_t0, og_t1, op_t0, op_t1, f_eq_t2, f_ne_t2, o_size, o_wired, r_size, r_wired, x_mk, mk_ok, cut_map, ls_i, ls_r, ls_p, lst_rs, lst_is,
  f_add, f_sub, f_lt, f_le, f_gt, f_ge, f_mod, f_div, f_mul, f_eq, f_ne, f_neg, b_bl, l_sh, v_pl, o_ow, o_own, a_pl, k_pl, k_ow, u_pl, u_ow, mv_pl, mv_ow, i1_int, par2_ok, wF_some, g_nm, f_tp, g_cons, g_nil, wF_map,
  fr_i, fr_p, fr_rs, fr_b, fr_sh, sl_i, sl_p, sl_rs, sl_b, sl_sh, itv_i, itv_p, itv_rs, sq_i, sq_p, sq_r, is_i, is_p, is_r, il_i, il_p, il_rs, il_b,
  m_app_i, m_app_p, m_app_rs, m_app_b, m_rev_i, m_clr_i, m_rem_i, f_len_i, f_len_p, f_len_r, f_in_i, f_ni_i, f_ix_i, f_ix_p, f_ix_r, f_ix_b, p_fst, p_snd, f_list_i, f_list_t, f_list_r, mk_i, mk_p, mk_r, f_srt_i, f_srt_p, f_rev_i, f_rev_p, f_cat_i, f_cat_r, f_cat_p, f_rep_i, minL_map, maxL_map, sum_map, all_map, any_map, f_int1, f_intB, f_max2, f_min2,
  it_r1, it_r2, f_rg, itL_i, itL_p, itL_r, itL_b, itS_i, itS_r, f_lstM, f_lst0, f_lst1, f_lst2, f_lst3, f_lst4, f_lst5, f_lst6, f_lstr1, f_lstr2, f_eq_i, f_ne_i, f_eq_r, f_ne_r, f_eq_p, f_ne_p, f_eq_bl, f_ne_bl, rd_i, rd_b, rd_p, rd_rs, y_size, y_ties, y_wired, y_near, o_neighbours,
  isi_int, f_setL, f_srtU, f_srtS, f_is_bl, f_isn_bl, isi_bl, fr_dic, dic_nil, sl_dic, f_din, f_dni, f_dix, f_dic1, x_rdD, rd_dic, s_setD, set_dic, upF_const, o_ties, r_ties, isi_int_bl, isi_tup, isi_lst, isi_lt, sgx, spx, sgo, spo, og_nil, op_nil, restS, wipeS,
  List.getElem?_cons_zero, List.getElem?_cons_succ, List.set_cons_zero, List.set_cons_succ, List.getD_cons_zero, List.getD_cons_succ, List.cons_append, List.nil_append, List.append_nil, List.length_cons, List.length_nil, List.replicate_succ, List.replicate_zero, Nat.reduceSub, Nat.reduceAdd, true_and, and_true])
local macro_rules | `(tactic| walk_at "v") => `(tactic| simp only [↓len_r1i, ↓len_r1p, ↓len_r1r, w_mC, w_mVar, w_m2x, w_m1x, w_mTst, w_mAnd, w_mOr, w_mNot, w_mIf, w_mBl, w_mFr, w_mSh, w_mCons, w_mRd, w_mRv, w_pVar, w_pIx, w_mCh, w_mYes', w_m2N, w_m1N, w_mStar, w_mSeq, w_mSl, w_mPart, x_mLook, x_mUse, x_mMov, x_mItV, x_mut, x_comp,
  s_next, q_seq, kq_n, kq_r, kq_b, kq_c, s_ret, s_asg, s_sto, s_own, s_drop, s_setI, s_augI, s_aug, s_bad, s_retN, s_brk, s_cnt, s_par, s_for,
  x_call1, x_call2, x_call3, x_call4, x_call5, x_call1s, x_call2s, x_call2t, x_call3s, x_call3t, x_call3u, x_call1b, x_call2b, x_call3b, x_call4b, m_app_os, f_in_t2, f_ni_t2, x_compIt, wdic_pl, x_compK, f_dniK, items_i, f_inD_r, f_niD_r, m_ext_i, w_mSlT, x_c_ss, x_c_dss, x_c_sddd, x_c_ddsd, x_c_ddds, x_meth3, x_meth2s, x_meth2t, x_callP, x_mk0, o_leaves, o_path, o_ties, o_rewired, f_itT, set_rs, f_lstr3, f_tup3d, zp_i, f_r3, f_rev_r, wi_l0, og_l0, op_l0, f_lent, f_ni_b, ls_b, fr_t0, fr_pn, fr_ln, fr_os, il_os, sl_os, fr_ot, il_ot, fr_shd, oix_t1, x_meth0, x_meth1, x_meth2, x_meth1s, x_set, set_i, set_b, en_i, en_p, en_r, f_tupO2, f_tupO3, f_tup2d, fr_t2, fr_t3, slt_ow, ix_t0, ix_t1, ix_t2, wi_t0, wi_t1, og_t0, og_t1, op_t0, op_t1, f_eq_t2, f_ne_t2, o_size, o_wired, r_size, r_wired, x_mk, mk_ok, cut_map, ls_i, ls_r, ls_p, lst_rs, lst_is,
  f_add, f_sub, f_lt, f_le, f_gt, f_ge, f_mod, f_div, f_mul, f_eq, f_ne, f_neg, b_bl, l_sh, v_pl, o_ow, o_own, a_pl, k_pl, k_ow, u_pl, u_ow, mv_pl, mv_ow, i1_int, par2_ok, wF_some, g_nm, f_tp, g_cons, g_nil, wF_map,
  fr_i, fr_p, fr_rs, fr_b, fr_sh, sl_i, sl_p, sl_rs, sl_b, sl_sh, itv_i, itv_p, itv_rs, sq_i, sq_p, sq_r, is_i, is_p, is_r, il_i, il_p, il_rs, il_b,
  m_app_i, m_app_p, m_app_rs, m_app_b, m_rev_i, m_clr_i, m_rem_i, f_len_i, f_len_p, f_len_r, f_in_i, f_ni_i, f_ix_i, f_ix_p, f_ix_r, f_ix_b, p_fst, p_snd, f_list_i, f_list_t, f_list_r, mk_i, mk_p, mk_r, f_srt_i, f_srt_p, f_rev_i, f_rev_p, f_cat_i, f_cat_r, f_cat_p, f_rep_i, minL_map, maxL_map, sum_map, all_map, any_map, f_int1, f_intB, f_max2, f_min2,
  it_r1, it_r2, f_rg, itL_i, itL_p, itL_r, itL_b, itS_i, itS_r, f_lstM, f_lst0, f_lst1, f_lst2, f_lst3, f_lst4, f_lst5, f_lst6, f_lstr1, f_lstr2, f_eq_i, f_ne_i, f_eq_r, f_ne_r, f_eq_p, f_ne_p, f_eq_bl, f_ne_bl, rd_i, rd_b, rd_p, rd_rs, y_size, y_ties, y_wired, y_near, o_neighbours,
  isi_int, f_setL, f_srtU, f_srtS, f_is_bl, f_isn_bl, isi_bl, fr_dic, dic_nil, sl_dic, f_din, f_dni, f_dix, f_dic1, x_rdD, rd_dic, s_setD, set_dic, upF_const, o_ties, r_ties, isi_int_bl, isi_tup, isi_lst, isi_lt, sgx, spx, sgo, spo, og_nil, op_nil, restS, wipeS,
  List.getElem?_cons_zero, List.getElem?_cons_succ, List.set_cons_zero, List.set_cons_succ, List.getD_cons_zero, List.getD_cons_succ, List.cons_append, List.nil_append, List.append_nil, List.length_cons, List.length_nil, List.replicate_succ, List.replicate_zero, Nat.reduceSub, Nat.reduceAdd, true_and, and_true])
structure RE (k w : Nat) (p : PyData) : Prop where
  can : p.canLay0 = true
  dep : p.depth ≤ k
  wt : p.weight ≤ w
  sh : p.intsShort 50 = true
  shw : p.showable = true
  ok : OkS p.shown
structure REA (k w : Nat) (ps : List PyData) : Prop where
  can : PyData.canLayAll0 ps = true
  dep : PyData.depthAll ps ≤ k
  wt : PyData.weightAll ps ≤ w
  sh : PyData.intsShortAll 50 ps = true
  shw : PyData.showableAll ps = true
  ok : ∀ t ∈ PyData.shownAll ps, OkS t
theorem REA.nil {k w : Nat} : REA k w [] := ⟨rfl, Nat.zero_le _, Nat.zero_le _, rfl, rfl, fun t ht => by simp [PyData.shownAll] at ht⟩
theorem REA.cons {k w v : Nat} {p : PyData} {ps : List PyData} (h : RE k w p) (r : REA k v ps) : REA k (w + 1 + v) (p :: ps) where
  can := by show (p.canLay0 && PyData.canLayAll0 ps) = true; rw [h.can, r.can]; rfl
  dep := by show max p.depth (PyData.depthAll ps) ≤ k; have := h.dep; have := r.dep; omega
  wt := by show p.weight + 1 + PyData.weightAll ps ≤ _; have := h.wt; have := r.wt; omega
  sh := by show (p.intsShort 50 && PyData.intsShortAll 50 ps) = true; rw [h.sh, r.sh]; rfl
  shw := by show (p.showable && PyData.showableAll ps) = true; rw [h.shw, r.shw]; rfl
  ok := fun t ht => by
    have ht' : t ∈ PyData.shown p :: PyData.shownAll ps := ht
    rcases List.mem_cons.mp ht' with e | e
    · rw [e]; exact h.ok
    · exact r.ok t e
theorem REA.tup {k w : Nat} {ps : List PyData} (r : REA k w ps) : RE (k + 1) w (.tuple ps) where
  can := r.can
  dep := by show PyData.depthAll ps + 1 ≤ k + 1; have := r.dep; omega
  wt := r.wt
  sh := r.sh
  shw := r.shw
  ok := by
    show OkS (tupleText (PyData.shownAll ps))
    exact okS_app (okS_app (okS_of _) (okS_join _ _ r.ok)) (okS_of _)
theorem REA.lst {k w : Nat} {ps : List PyData} (r : REA k w ps) : RE (k + 1) w (.list ps) where
  can := r.can
  dep := by show PyData.depthAll ps + 1 ≤ k + 1; have := r.dep; omega
  wt := r.wt
  sh := r.sh
  shw := r.shw
  ok := by
    show OkS (listText (PyData.shownAll ps))
    exact okS_app (okS_from _ _ _ r.ok (okS_of _)) (okS_of _)
theorem RE.up {k w k' w' : Nat} {p : PyData} (h : RE k w p) (hk : k ≤ k') (hw : w ≤ w') : RE k' w' p := ⟨h.can, Nat.le_trans h.dep hk, Nat.le_trans h.wt hw, h.sh, h.shw, h.ok⟩
theorem REA.up {k w k' w' : Nat} {p : List PyData} (h : REA k w p) (hk : k ≤ k') (hw : w ≤ w') : REA k' w' p := ⟨h.can, Nat.le_trans h.dep hk, Nat.le_trans h.wt hw, h.sh, h.shw, h.ok⟩
/-- a thing that can be shown and compared -/
def TD (k w : Nat) (d : D) : Prop := ∃ p, toPy d = some p ∧ toPyX d = some p ∧ RE k w p
def TDA (k w : Nat) (ds : List D) : Prop := ∃ ps, toPyL ds = some ps ∧ toPyXL ds = some ps ∧ REA k w ps
theorem TDA.nil {k w : Nat} : TDA k w [] := ⟨[], rfl, rfl, .nil⟩
theorem TDA.cons {k w v : Nat} {d : D} {ds : List D} (h : TD k w d) (r : TDA k v ds) : TDA k (w + 1 + v) (d :: ds) := by
  obtain ⟨p, h1, h2, h3⟩ := h
  obtain ⟨ps, h4, h5, h6⟩ := r
  refine ⟨p :: ps, ?_, ?_, .cons h3 h6⟩
  · unfold toPyL
    rw [h1, h4]
  · unfold toPyXL
    rw [h2, h5]
theorem TDA.tup {k w : Nat} {ds : List D} (r : TDA k w ds) : TD (k + 1) w (.tup ds) := by
  obtain ⟨ps, h1, h2, h3⟩ := r
  exact ⟨.tuple ps, by unfold toPy; rw [h1]; rfl, by unfold toPyX; rw [h2]; rfl, h3.tup⟩
theorem TDA.lst {k w : Nat} {ds : List D} (r : TDA k w ds) : TD (k + 1) w (.lst ds) := by
  obtain ⟨ps, h1, h2, h3⟩ := r
  exact ⟨.list ps, by unfold toPy; rw [h1]; rfl, by unfold toPyX; rw [h2]; rfl, h3.lst⟩
theorem TD.up {k w k' w' : Nat} {d : D} (h : TD k w d) (hk : k ≤ k') (hw : w ≤ w') : TD k' w' d := by
  obtain ⟨p, h1, h2, h3⟩ := h
  exact ⟨p, h1, h2, h3.up hk hw⟩
theorem TDA.of {k w : Nat} : ∀ {es : List D}, (∀ e ∈ es, TD k w e) → TDA k (es.length * (w + 1)) es
  | [], _ => TDA.nil
  | e :: es, h => by
    obtain ⟨ps, h1, h2, h3⟩ := TDA.cons (h e List.mem_cons_self) (TDA.of fun x hx => h x (List.mem_cons_of_mem _ hx))
    exact ⟨ps, h1, h2, h3.up (Nat.le_refl _) (by rw [List.length_cons, Nat.succ_mul]; omega)⟩
theorem td_int {i : Int} (h : i.natAbs < 10 ^ 45) : TD 0 200 (.int i) := by
  have h2 : i.natAbs < 2 ^ 150 := Nat.lt_of_lt_of_le h (by decide +kernel)
  have hl : i.natAbs.log2 < 150 := by
    by_cases z : i.natAbs = 0
    · rw [z]; decide
    · exact (Nat.log2_lt z).mpr h2
  refine ⟨.int i, rfl, rfl, rfl, Nat.le_refl _, ?_, ?_, ?_, okS_of _⟩
  · show (if i == 0 then 0 else i.natAbs.log2 + 1) ≤ 200
    split <;> omega
  · have e := int_text_length_le10 (k := 45) (by decide) h
    show decide ((Str.ofString (toString i)).length ≤ 50) = true
    rw [PySem.ofString_length]
    exact decide_eq_true (by omega)
  · show decide (i.natAbs.log2 < 1920) = true
    exact decide_eq_true (by omega)
theorem td_non {k w : Nat} : TD k w .non := ⟨.none, rfl, rfl, rfl, Nat.zero_le _, Nat.zero_le _, rfl, rfl, okS_of _⟩
theorem td_bl {k w : Nat} {b : Bool} : TD k w (.bl b) := ⟨.bool b, rfl, rfl, rfl, Nat.zero_le _, Nat.zero_le _, rfl, rfl, by cases b <;> exact okS_of _⟩
end W

/-! T49: matchings and covers of a tree, plainly. -/
namespace W
open PySem PySem.Spec PyProof.Rows L2 Z
local macro_rules | `(tactic| walk_at "w") => `(tactic| simp only [↓len_r1i, ↓len_r1p, ↓len_r1r, w_mC, w_mVar, w_m2x, w_m1x, w_mTst, w_mAnd, w_mOr, w_mNot, w_mIf, w_mBl, w_mFr, w_mSh, w_mCons, w_mRd, w_mRv, w_pVar, w_pIx, w_mCh, w_mYes', w_m2N, w_m1N, w_mStar, w_mSeq, w_mSl, w_mPart, x_mLook, x_mUse, x_mMov, x_mItV, x_mut, x_comp,
  s_next, s_seq, s_if, s_ret, s_asg, s_sto, s_own, s_drop, s_setI, s_augI, s_aug, s_bad, s_retN, s_brk, s_cnt, s_par, s_for,
  x_call1, x_call2, x_call3, x_call4, x_call5, x_call1s, x_call2s, x_call2t, x_call3s, x_call3t, x_call3u, x_call1b, x_call2b, x_call3b, x_call4b, m_app_os, f_in_t2, f_ni_t2, x_compIt, wdic_pl, x_compK, f_dniK, items_i, f_inD_r, f_niD_r, m_ext_i, w_mSlT, x_c_ss, x_c_dss, x_c_sddd, x_c_ddsd, x_c_ddds, x_meth3, x_meth2s, x_meth2t, x_callP, x_mk0, o_leaves, o_path, o_ties, o_rewired, f_itT, set_rs, f_lstr3, f_tup3d, zp_i, f_r3, f_rev_r, wi_l0, og_l0, op_l0, f_lent, f_ni_b, ls_b, fr_t0, fr_pn, fr_ln, fr_os, il_os, sl_os, fr_ot, il_ot, fr_shd, oix_t1, x_meth0, x_meth1, x_meth2, x_meth1s, x_set, set_i, set_b, en_i, en_p, en_r, f_tupO2, f_tupO3, f_tup2d, fr_t2, fr_t3, slt_ow, ix_t0, ix_t1, ix_t2, wi_t0, wi_t1, og_t0, og_t1, op_t0, op_t1, f_eq_t2, f_ne_t2, o_size, o_wired, r_size, r_wired, x_mk, mk_ok, cut_map, ls_i, ls_r, ls_p, lst_rs, lst_is,
  f_add, f_sub, f_lt, f_le, f_gt, f_ge, f_mod, f_div, f_mul, f_eq, f_ne, f_neg, b_bl, l_sh, v_pl, o_ow, o_own, a_pl, k_pl, k_ow, u_pl, u_ow, mv_pl, mv_ow, i1_int, par2_ok, wF_some, g_nm, f_tp, g_cons, g_nil, wF_map,
  fr_i, fr_p, fr_rs, fr_b, fr_sh, sl_i, sl_p, sl_rs, sl_b, sl_sh, itv_i, itv_p, itv_rs, sq_i, sq_p, sq_r, is_i, is_p, is_r, il_i, il_p, il_rs, il_b,
  m_app_i, m_app_p, m_app_rs, m_app_b, m_rev_i, m_clr_i, m_rem_i, f_len_i, f_len_p, f_len_r, f_in_i, f_ni_i, f_ix_i, f_ix_p, f_ix_r, f_ix_b, p_fst, p_snd, f_list_i, f_list_t, f_list_r, mk_i, mk_p, mk_r, f_srt_i, f_srt_p, f_rev_i, f_rev_p, f_cat_i, f_cat_r, f_cat_p, f_rep_i, minL_map, maxL_map, sum_map, all_map, any_map, f_int1, f_intB, f_max2, f_min2,
  it_r1, it_r2, f_rg, itL_i, itL_p, itL_r, itL_b, itS_i, itS_r, f_lstM, f_lst0, f_lst1, f_lst2, f_lst3, f_lst4, f_lst5, f_lst6, f_lstr1, f_lstr2, f_eq_i, f_ne_i, f_eq_r, f_ne_r, f_eq_p, f_ne_p, f_eq_bl, f_ne_bl, rd_i, rd_b, rd_p, rd_rs, y_size, y_ties, y_wired, y_near, o_neighbours,
  isi_int, f_setL, f_srtU, f_srtS, f_is_bl, f_isn_bl, isi_bl, fr_dic, dic_nil, sl_dic, f_din, f_dni, f_dix, f_dic1, x_rdD, rd_dic, s_setD, set_dic, upF_const, o_ties, r_ties, isi_int_bl, isi_tup, isi_lst, isi_lt, sgx, spx, sgo, spo, og_nil, op_nil, restS, wipeS,
  List.getElem?_cons_zero, List.getElem?_cons_succ, List.set_cons_zero, List.set_cons_succ, List.getD_cons_zero, List.getD_cons_succ, List.cons_append, List.nil_append, List.append_nil, List.length_cons, List.length_nil, List.replicate_succ, List.replicate_zero, Nat.reduceSub, Nat.reduceAdd, true_and, and_true])
local macro_rules | `(tactic| walk_at "v") => `(tactic| simp only [↓len_r1i, ↓len_r1p, ↓len_r1r, w_mC, w_mVar, w_m2x, w_m1x, w_mTst, w_mAnd, w_mOr, w_mNot, w_mIf, w_mBl, w_mFr, w_mSh, w_mCons, w_mRd, w_mRv, w_pVar, w_pIx, w_mCh, w_mYes', w_m2N, w_m1N, w_mStar, w_mSeq, w_mSl, w_mPart, x_mLook, x_mUse, x_mMov, x_mItV, x_mut, x_comp,
  s_next, q_seq, kq_n, kq_r, kq_b, kq_c, s_ret, s_asg, s_sto, s_own, s_drop, s_setI, s_augI, s_aug, s_bad, s_retN, s_brk, s_cnt, s_par, s_for,
  x_call1, x_call2, x_call3, x_call4, x_call5, x_call1s, x_call2s, x_call2t, x_call3s, x_call3t, x_call3u, x_call1b, x_call2b, x_call3b, x_call4b, m_app_os, f_in_t2, f_ni_t2, x_compIt, wdic_pl, x_compK, f_dniK, items_i, f_inD_r, f_niD_r, m_ext_i, w_mSlT, x_c_ss, x_c_dss, x_c_sddd, x_c_ddsd, x_c_ddds, x_meth3, x_meth2s, x_meth2t, x_callP, x_mk0, o_leaves, o_path, o_ties, o_rewired, f_itT, set_rs, f_lstr3, f_tup3d, zp_i, f_r3, f_rev_r, wi_l0, og_l0, op_l0, f_lent, f_ni_b, ls_b, fr_t0, fr_pn, fr_ln, fr_os, il_os, sl_os, fr_ot, il_ot, fr_shd, oix_t1, x_meth0, x_meth1, x_meth2, x_meth1s, x_set, set_i, set_b, en_i, en_p, en_r, f_tupO2, f_tupO3, f_tup2d, fr_t2, fr_t3, slt_ow, ix_t0, ix_t1, ix_t2, wi_t0, wi_t1, og_t0, og_t1, op_t0, op_t1, f_eq_t2, f_ne_t2, o_size, o_wired, r_size, r_wired, x_mk, mk_ok, cut_map, ls_i, ls_r, ls_p, lst_rs, lst_is,
  f_add, f_sub, f_lt, f_le, f_gt, f_ge, f_mod, f_div, f_mul, f_eq, f_ne, f_neg, b_bl, l_sh, v_pl, o_ow, o_own, a_pl, k_pl, k_ow, u_pl, u_ow, mv_pl, mv_ow, i1_int, par2_ok, wF_some, g_nm, f_tp, g_cons, g_nil, wF_map,
  fr_i, fr_p, fr_rs, fr_b, fr_sh, sl_i, sl_p, sl_rs, sl_b, sl_sh, itv_i, itv_p, itv_rs, sq_i, sq_p, sq_r, is_i, is_p, is_r, il_i, il_p, il_rs, il_b,
  m_app_i, m_app_p, m_app_rs, m_app_b, m_rev_i, m_clr_i, m_rem_i, f_len_i, f_len_p, f_len_r, f_in_i, f_ni_i, f_ix_i, f_ix_p, f_ix_r, f_ix_b, p_fst, p_snd, f_list_i, f_list_t, f_list_r, mk_i, mk_p, mk_r, f_srt_i, f_srt_p, f_rev_i, f_rev_p, f_cat_i, f_cat_r, f_cat_p, f_rep_i, minL_map, maxL_map, sum_map, all_map, any_map, f_int1, f_intB, f_max2, f_min2,
  it_r1, it_r2, f_rg, itL_i, itL_p, itL_r, itL_b, itS_i, itS_r, f_lstM, f_lst0, f_lst1, f_lst2, f_lst3, f_lst4, f_lst5, f_lst6, f_lstr1, f_lstr2, f_eq_i, f_ne_i, f_eq_r, f_ne_r, f_eq_p, f_ne_p, f_eq_bl, f_ne_bl, rd_i, rd_b, rd_p, rd_rs, y_size, y_ties, y_wired, y_near, o_neighbours,
  isi_int, f_setL, f_srtU, f_srtS, f_is_bl, f_isn_bl, isi_bl, fr_dic, dic_nil, sl_dic, f_din, f_dni, f_dix, f_dic1, x_rdD, rd_dic, s_setD, set_dic, upF_const, o_ties, r_ties, isi_int_bl, isi_tup, isi_lst, isi_lt, sgx, spx, sgo, spo, og_nil, op_nil, restS, wipeS,
  List.getElem?_cons_zero, List.getElem?_cons_succ, List.set_cons_zero, List.set_cons_succ, List.getD_cons_zero, List.getD_cons_succ, List.cons_append, List.nil_append, List.append_nil, List.length_cons, List.length_nil, List.replicate_succ, List.replicate_zero, Nat.reduceSub, Nat.reduceAdd, true_and, and_true])
section
variable {n : Nat} {A : Int → Int → Prop} {nr : List (List Int)} {g : Int} {L : List Int} {f : Int → Int}
def endsM (M : List (Int × Int)) : List Int := M.flatMap fun t => [t.1, t.2]
theorem endM_mem {M : List (Int × Int)} {x : Int} : x ∈ endsM M ↔ ∃ t ∈ M, x = t.1 ∨ x = t.2 := by
  unfold endsM
  rw [List.mem_flatMap]
  simp
theorem endM_app {M N : List (Int × Int)} : endsM (M ++ N) = endsM M ++ endsM N := by
  unfold endsM
  rw [List.flatMap_append]
/-- what is left, matched so far, covering so far -/
structure MoI (n : Nat) (A : Int → Int → Prop) (L : List Int) (M : List (Int × Int)) (C : List Int) : Prop where
  inn : InN n L
  nd : L.Nodup
  ma : ∀ t ∈ M, A t.1 t.2
  mnd : (endsM M).Nodup
  out : ∀ x ∈ endsM M, x ∉ L
  len : C.length = M.length
  cov : ∀ u v, A u v → (u ∈ L ∧ v ∈ L) ∨ u ∈ C ∨ v ∈ C
theorem MoI.step {M : List (Int × Int)} {C : List Int} (sym : ∀ u v, A u v → A v u) (irr : ∀ v : Int, ¬ A v v) (hn : NearOk n A nr) (h : MoI n A L M C) {p : Int} (hp : p ∈ L) {B : List Int} (hB : B = (nb nr p).filter fun q => decide (q ∈ L)) (h2 : B.length < 2) :
    MoI n A (L.filter fun q => decide (q ≠ p) && decide (q ∉ B)) (M ++ B.map fun q => (p, q)) (C ++ B) := by
  have hpn := h.inn p hp
  have hBm : ∀ q, q ∈ B ↔ A p q ∧ q ∈ L := fun q => by
    rw [hB, List.mem_filter, hn.mem p hpn.1 hpn.2]
    simp
  have hc : B = [] ∨ ∃ q, B = [q] := by
    match B, h2 with
    | [], _ => exact .inl rfl
    | [q], _ => exact .inr ⟨q, rfl⟩
  have hLm : ∀ x, x ∈ (L.filter fun q => decide (q ≠ p) && decide (q ∉ B)) ↔ x ∈ L ∧ x ≠ p ∧ x ∉ B := fun x => by
    rw [List.mem_filter]
    simp
  refine ⟨fun v hv => h.inn v ((hLm v).mp hv).1, h.nd.filter _, fun t ht => ?_, ?_, fun x hx => ?_, by simp [h.len], fun u v a => ?_⟩
  · rcases List.mem_append.mp ht with q | q
    · exact h.ma t q
    · obtain ⟨q', hq, rfl⟩ := List.mem_map.mp q
      exact ((hBm q').mp hq).1
  · rw [endM_app]
    rcases hc with e | ⟨q, e⟩
    · rw [e]
      simpa [endsM] using h.mnd
    · have hq := (hBm q).mp (by rw [e]; simp)
      rw [e]
      have e3 : endsM (([q] : List Int).map fun q => (p, q)) = [p, q] := rfl
      rw [e3, List.nodup_append]
      refine ⟨h.mnd, ?_, fun x hx y hy e4 => ?_⟩
      · have : p ≠ q := fun z => irr p (by have := hq.1; rw [← z] at this; exact this)
        simp [this]
      · subst e4
        have := h.out x hx
        simp at hy
        rcases hy with rfl | rfl
        · exact this hp
        · exact this hq.2
  · rw [hLm]
    rintro ⟨h3, h4, h5⟩
    rw [endM_app] at hx
    rcases List.mem_append.mp hx with q | q
    · exact h.out x q h3
    · obtain ⟨t, ht, e⟩ := endM_mem.mp q
      obtain ⟨q', hq, rfl⟩ := List.mem_map.mp ht
      rcases e with rfl | rfl
      · exact h4 rfl
      · exact h5 hq
  · rcases h.cov u v a with ⟨hu, hv⟩ | q | q
    · by_cases e1 : u ∈ B
      · exact .inr (.inl (List.mem_append_right _ e1))
      · by_cases e2 : v ∈ B
        · exact .inr (.inr (List.mem_append_right _ e2))
        · refine .inl ⟨(hLm u).mpr ⟨hu, fun z => e2 ((hBm v).mpr ⟨z ▸ a, hv⟩), e1⟩, (hLm v).mpr ⟨hv, fun z => e1 ((hBm u).mpr ⟨z ▸ sym _ _ a, hu⟩), e2⟩⟩
    · exact .inr (.inl (List.mem_append_left _ q))
    · exact .inr (.inr (List.mem_append_left _ q))
end
end W

/-! T50: the law's count of a matching; the program's order outward. -/
namespace W
open PySem PySem.Spec PyProof.Rows L2 Z
local macro_rules | `(tactic| walk_at "w") => `(tactic| simp only [↓len_r1i, ↓len_r1p, ↓len_r1r, w_mC, w_mVar, w_m2x, w_m1x, w_mTst, w_mAnd, w_mOr, w_mNot, w_mIf, w_mBl, w_mFr, w_mSh, w_mCons, w_mRd, w_mRv, w_pVar, w_pIx, w_mCh, w_mYes', w_m2N, w_m1N, w_mStar, w_mSeq, w_mSl, w_mPart, x_mLook, x_mUse, x_mMov, x_mItV, x_mut, x_comp,
  s_next, s_seq, s_if, s_ret, s_asg, s_sto, s_own, s_drop, s_setI, s_augI, s_aug, s_bad, s_retN, s_brk, s_cnt, s_par, s_for,
  x_call1, x_call2, x_call3, x_call4, x_call5, x_call1s, x_call2s, x_call2t, x_call3s, x_call3t, x_call3u, x_call1b, x_call2b, x_call3b, x_call4b, m_app_os, f_in_t2, f_ni_t2, x_compIt, wdic_pl, x_compK, f_dniK, items_i, f_inD_r, f_niD_r, m_ext_i, w_mSlT, x_c_ss, x_c_dss, x_c_sddd, x_c_ddsd, x_c_ddds, x_meth3, x_meth2s, x_meth2t, x_callP, x_mk0, o_leaves, o_path, o_ties, o_rewired, f_itT, set_rs, f_lstr3, f_tup3d, zp_i, f_r3, f_rev_r, wi_l0, og_l0, op_l0, f_lent, f_ni_b, ls_b, fr_t0, fr_pn, fr_ln, fr_os, il_os, sl_os, fr_ot, il_ot, fr_shd, oix_t1, x_meth0, x_meth1, x_meth2, x_meth1s, x_set, set_i, set_b, en_i, en_p, en_r, f_tupO2, f_tupO3, f_tup2d, fr_t2, fr_t3, slt_ow, ix_t0, ix_t1, ix_t2, wi_t0, wi_t1, og_t0, og_t1, op_t0, op_t1, f_eq_t2, f_ne_t2, o_size, o_wired, r_size, r_wired, x_mk, mk_ok, cut_map, ls_i, ls_r, ls_p, lst_rs, lst_is,
  f_add, f_sub, f_lt, f_le, f_gt, f_ge, f_mod, f_div, f_mul, f_eq, f_ne, f_neg, b_bl, l_sh, v_pl, o_ow, o_own, a_pl, k_pl, k_ow, u_pl, u_ow, mv_pl, mv_ow, i1_int, par2_ok, wF_some, g_nm, f_tp, g_cons, g_nil, wF_map,
  fr_i, fr_p, fr_rs, fr_b, fr_sh, sl_i, sl_p, sl_rs, sl_b, sl_sh, itv_i, itv_p, itv_rs, sq_i, sq_p, sq_r, is_i, is_p, is_r, il_i, il_p, il_rs, il_b,
  m_app_i, m_app_p, m_app_rs, m_app_b, m_rev_i, m_clr_i, m_rem_i, f_len_i, f_len_p, f_len_r, f_in_i, f_ni_i, f_ix_i, f_ix_p, f_ix_r, f_ix_b, p_fst, p_snd, f_list_i, f_list_t, f_list_r, mk_i, mk_p, mk_r, f_srt_i, f_srt_p, f_rev_i, f_rev_p, f_cat_i, f_cat_r, f_cat_p, f_rep_i, minL_map, maxL_map, sum_map, all_map, any_map, f_int1, f_intB, f_max2, f_min2,
  it_r1, it_r2, f_rg, itL_i, itL_p, itL_r, itL_b, itS_i, itS_r, f_lstM, f_lst0, f_lst1, f_lst2, f_lst3, f_lst4, f_lst5, f_lst6, f_lstr1, f_lstr2, f_eq_i, f_ne_i, f_eq_r, f_ne_r, f_eq_p, f_ne_p, f_eq_bl, f_ne_bl, rd_i, rd_b, rd_p, rd_rs, y_size, y_ties, y_wired, y_near, o_neighbours,
  isi_int, f_setL, f_srtU, f_srtS, f_is_bl, f_isn_bl, isi_bl, fr_dic, dic_nil, sl_dic, f_din, f_dni, f_dix, f_dic1, x_rdD, rd_dic, s_setD, set_dic, upF_const, o_ties, r_ties, isi_int_bl, isi_tup, isi_lst, isi_lt, sgx, spx, sgo, spo, og_nil, op_nil, restS, wipeS,
  List.getElem?_cons_zero, List.getElem?_cons_succ, List.set_cons_zero, List.set_cons_succ, List.getD_cons_zero, List.getD_cons_succ, List.cons_append, List.nil_append, List.append_nil, List.length_cons, List.length_nil, List.replicate_succ, List.replicate_zero, Nat.reduceSub, Nat.reduceAdd, true_and, and_true])
local macro_rules | `(tactic| walk_at "v") => `(tactic| simp only [↓len_r1i, ↓len_r1p, ↓len_r1r, w_mC, w_mVar, w_m2x, w_m1x, w_mTst, w_mAnd, w_mOr, w_mNot, w_mIf, w_mBl, w_mFr, w_mSh, w_mCons, w_mRd, w_mRv, w_pVar, w_pIx, w_mCh, w_mYes', w_m2N, w_m1N, w_mStar, w_mSeq, w_mSl, w_mPart, x_mLook, x_mUse, x_mMov, x_mItV, x_mut, x_comp,
  s_next, q_seq, kq_n, kq_r, kq_b, kq_c, s_ret, s_asg, s_sto, s_own, s_drop, s_setI, s_augI, s_aug, s_bad, s_retN, s_brk, s_cnt, s_par, s_for,
  x_call1, x_call2, x_call3, x_call4, x_call5, x_call1s, x_call2s, x_call2t, x_call3s, x_call3t, x_call3u, x_call1b, x_call2b, x_call3b, x_call4b, m_app_os, f_in_t2, f_ni_t2, x_compIt, wdic_pl, x_compK, f_dniK, items_i, f_inD_r, f_niD_r, m_ext_i, w_mSlT, x_c_ss, x_c_dss, x_c_sddd, x_c_ddsd, x_c_ddds, x_meth3, x_meth2s, x_meth2t, x_callP, x_mk0, o_leaves, o_path, o_ties, o_rewired, f_itT, set_rs, f_lstr3, f_tup3d, zp_i, f_r3, f_rev_r, wi_l0, og_l0, op_l0, f_lent, f_ni_b, ls_b, fr_t0, fr_pn, fr_ln, fr_os, il_os, sl_os, fr_ot, il_ot, fr_shd, oix_t1, x_meth0, x_meth1, x_meth2, x_meth1s, x_set, set_i, set_b, en_i, en_p, en_r, f_tupO2, f_tupO3, f_tup2d, fr_t2, fr_t3, slt_ow, ix_t0, ix_t1, ix_t2, wi_t0, wi_t1, og_t0, og_t1, op_t0, op_t1, f_eq_t2, f_ne_t2, o_size, o_wired, r_size, r_wired, x_mk, mk_ok, cut_map, ls_i, ls_r, ls_p, lst_rs, lst_is,
  f_add, f_sub, f_lt, f_le, f_gt, f_ge, f_mod, f_div, f_mul, f_eq, f_ne, f_neg, b_bl, l_sh, v_pl, o_ow, o_own, a_pl, k_pl, k_ow, u_pl, u_ow, mv_pl, mv_ow, i1_int, par2_ok, wF_some, g_nm, f_tp, g_cons, g_nil, wF_map,
  fr_i, fr_p, fr_rs, fr_b, fr_sh, sl_i, sl_p, sl_rs, sl_b, sl_sh, itv_i, itv_p, itv_rs, sq_i, sq_p, sq_r, is_i, is_p, is_r, il_i, il_p, il_rs, il_b,
  m_app_i, m_app_p, m_app_rs, m_app_b, m_rev_i, m_clr_i, m_rem_i, f_len_i, f_len_p, f_len_r, f_in_i, f_ni_i, f_ix_i, f_ix_p, f_ix_r, f_ix_b, p_fst, p_snd, f_list_i, f_list_t, f_list_r, mk_i, mk_p, mk_r, f_srt_i, f_srt_p, f_rev_i, f_rev_p, f_cat_i, f_cat_r, f_cat_p, f_rep_i, minL_map, maxL_map, sum_map, all_map, any_map, f_int1, f_intB, f_max2, f_min2,
  it_r1, it_r2, f_rg, itL_i, itL_p, itL_r, itL_b, itS_i, itS_r, f_lstM, f_lst0, f_lst1, f_lst2, f_lst3, f_lst4, f_lst5, f_lst6, f_lstr1, f_lstr2, f_eq_i, f_ne_i, f_eq_r, f_ne_r, f_eq_p, f_ne_p, f_eq_bl, f_ne_bl, rd_i, rd_b, rd_p, rd_rs, y_size, y_ties, y_wired, y_near, o_neighbours,
  isi_int, f_setL, f_srtU, f_srtS, f_is_bl, f_isn_bl, isi_bl, fr_dic, dic_nil, sl_dic, f_din, f_dni, f_dix, f_dic1, x_rdD, rd_dic, s_setD, set_dic, upF_const, o_ties, r_ties, isi_int_bl, isi_tup, isi_lst, isi_lt, sgx, spx, sgo, spo, og_nil, op_nil, restS, wipeS,
  List.getElem?_cons_zero, List.getElem?_cons_succ, List.set_cons_zero, List.set_cons_succ, List.getD_cons_zero, List.getD_cons_succ, List.cons_append, List.nil_append, List.append_nil, List.length_cons, List.length_nil, List.replicate_succ, List.replicate_zero, Nat.reduceSub, Nat.reduceAdd, true_and, and_true])
section
variable {n : Nat} {A : Int → Int → Prop} {nr : List (List Int)} {size : Int} {ts : List (Int × Int)} {ws up : List Int}
/-! outward -/
end
end W

/-! T51: the program's matching. -/
namespace W
open PySem PySem.Spec PyProof.Rows L2 Z
local macro_rules | `(tactic| walk_at "w") => `(tactic| simp only [↓len_r1i, ↓len_r1p, ↓len_r1r, w_mC, w_mVar, w_m2x, w_m1x, w_mTst, w_mAnd, w_mOr, w_mNot, w_mIf, w_mBl, w_mFr, w_mSh, w_mCons, w_mRd, w_mRv, w_pVar, w_pIx, w_mCh, w_mYes', w_m2N, w_m1N, w_mStar, w_mSeq, w_mSl, w_mPart, x_mLook, x_mUse, x_mMov, x_mItV, x_mut, x_comp,
  s_next, s_seq, s_if, s_ret, s_asg, s_sto, s_own, s_drop, s_setI, s_augI, s_aug, s_bad, s_retN, s_brk, s_cnt, s_par, s_for,
  x_call1, x_call2, x_call3, x_call4, x_call5, x_call1s, x_call2s, x_call2t, x_call3s, x_call3t, x_call3u, x_call1b, x_call2b, x_call3b, x_call4b, m_app_os, f_in_t2, f_ni_t2, x_compIt, wdic_pl, x_compK, f_dniK, items_i, f_inD_r, f_niD_r, m_ext_i, w_mSlT, x_c_ss, x_c_dss, x_c_sddd, x_c_ddsd, x_c_ddds, x_meth3, x_meth2s, x_meth2t, x_callP, x_mk0, o_leaves, o_path, o_ties, o_rewired, f_itT, set_rs, f_lstr3, f_tup3d, zp_i, f_r3, f_rev_r, wi_l0, og_l0, op_l0, f_lent, f_ni_b, ls_b, fr_t0, fr_pn, fr_ln, fr_os, il_os, sl_os, fr_ot, il_ot, fr_shd, oix_t1, x_meth0, x_meth1, x_meth2, x_meth1s, x_set, set_i, set_b, en_i, en_p, en_r, f_tupO2, f_tupO3, f_tup2d, fr_t2, fr_t3, slt_ow, ix_t0, ix_t1, ix_t2, wi_t0, wi_t1, og_t0, og_t1, op_t0, op_t1, f_eq_t2, f_ne_t2, o_size, o_wired, r_size, r_wired, x_mk, mk_ok, cut_map, ls_i, ls_r, ls_p, lst_rs, lst_is,
  f_add, f_sub, f_lt, f_le, f_gt, f_ge, f_mod, f_div, f_mul, f_eq, f_ne, f_neg, b_bl, l_sh, v_pl, o_ow, o_own, a_pl, k_pl, k_ow, u_pl, u_ow, mv_pl, mv_ow, i1_int, par2_ok, wF_some, g_nm, f_tp, g_cons, g_nil, wF_map,
  fr_i, fr_p, fr_rs, fr_b, fr_sh, sl_i, sl_p, sl_rs, sl_b, sl_sh, itv_i, itv_p, itv_rs, sq_i, sq_p, sq_r, is_i, is_p, is_r, il_i, il_p, il_rs, il_b,
  m_app_i, m_app_p, m_app_rs, m_app_b, m_rev_i, m_clr_i, m_rem_i, f_len_i, f_len_p, f_len_r, f_in_i, f_ni_i, f_ix_i, f_ix_p, f_ix_r, f_ix_b, p_fst, p_snd, f_list_i, f_list_t, f_list_r, mk_i, mk_p, mk_r, f_srt_i, f_srt_p, f_rev_i, f_rev_p, f_cat_i, f_cat_r, f_cat_p, f_rep_i, minL_map, maxL_map, sum_map, all_map, any_map, f_int1, f_intB, f_max2, f_min2,
  it_r1, it_r2, f_rg, itL_i, itL_p, itL_r, itL_b, itS_i, itS_r, f_lstM, f_lst0, f_lst1, f_lst2, f_lst3, f_lst4, f_lst5, f_lst6, f_lstr1, f_lstr2, f_eq_i, f_ne_i, f_eq_r, f_ne_r, f_eq_p, f_ne_p, f_eq_bl, f_ne_bl, rd_i, rd_b, rd_p, rd_rs, y_size, y_ties, y_wired, y_near, o_neighbours,
  isi_int, f_setL, f_srtU, f_srtS, f_is_bl, f_isn_bl, isi_bl, fr_dic, dic_nil, sl_dic, f_din, f_dni, f_dix, f_dic1, x_rdD, rd_dic, s_setD, set_dic, upF_const, o_ties, r_ties, isi_int_bl, isi_tup, isi_lst, isi_lt, sgx, spx, sgo, spo, og_nil, op_nil, restS, wipeS,
  List.getElem?_cons_zero, List.getElem?_cons_succ, List.set_cons_zero, List.set_cons_succ, List.getD_cons_zero, List.getD_cons_succ, List.cons_append, List.nil_append, List.append_nil, List.length_cons, List.length_nil, List.replicate_succ, List.replicate_zero, Nat.reduceSub, Nat.reduceAdd, true_and, and_true])
local macro_rules | `(tactic| walk_at "v") => `(tactic| simp only [↓len_r1i, ↓len_r1p, ↓len_r1r, w_mC, w_mVar, w_m2x, w_m1x, w_mTst, w_mAnd, w_mOr, w_mNot, w_mIf, w_mBl, w_mFr, w_mSh, w_mCons, w_mRd, w_mRv, w_pVar, w_pIx, w_mCh, w_mYes', w_m2N, w_m1N, w_mStar, w_mSeq, w_mSl, w_mPart, x_mLook, x_mUse, x_mMov, x_mItV, x_mut, x_comp,
  s_next, q_seq, kq_n, kq_r, kq_b, kq_c, s_ret, s_asg, s_sto, s_own, s_drop, s_setI, s_augI, s_aug, s_bad, s_retN, s_brk, s_cnt, s_par, s_for,
  x_call1, x_call2, x_call3, x_call4, x_call5, x_call1s, x_call2s, x_call2t, x_call3s, x_call3t, x_call3u, x_call1b, x_call2b, x_call3b, x_call4b, m_app_os, f_in_t2, f_ni_t2, x_compIt, wdic_pl, x_compK, f_dniK, items_i, f_inD_r, f_niD_r, m_ext_i, w_mSlT, x_c_ss, x_c_dss, x_c_sddd, x_c_ddsd, x_c_ddds, x_meth3, x_meth2s, x_meth2t, x_callP, x_mk0, o_leaves, o_path, o_ties, o_rewired, f_itT, set_rs, f_lstr3, f_tup3d, zp_i, f_r3, f_rev_r, wi_l0, og_l0, op_l0, f_lent, f_ni_b, ls_b, fr_t0, fr_pn, fr_ln, fr_os, il_os, sl_os, fr_ot, il_ot, fr_shd, oix_t1, x_meth0, x_meth1, x_meth2, x_meth1s, x_set, set_i, set_b, en_i, en_p, en_r, f_tupO2, f_tupO3, f_tup2d, fr_t2, fr_t3, slt_ow, ix_t0, ix_t1, ix_t2, wi_t0, wi_t1, og_t0, og_t1, op_t0, op_t1, f_eq_t2, f_ne_t2, o_size, o_wired, r_size, r_wired, x_mk, mk_ok, cut_map, ls_i, ls_r, ls_p, lst_rs, lst_is,
  f_add, f_sub, f_lt, f_le, f_gt, f_ge, f_mod, f_div, f_mul, f_eq, f_ne, f_neg, b_bl, l_sh, v_pl, o_ow, o_own, a_pl, k_pl, k_ow, u_pl, u_ow, mv_pl, mv_ow, i1_int, par2_ok, wF_some, g_nm, f_tp, g_cons, g_nil, wF_map,
  fr_i, fr_p, fr_rs, fr_b, fr_sh, sl_i, sl_p, sl_rs, sl_b, sl_sh, itv_i, itv_p, itv_rs, sq_i, sq_p, sq_r, is_i, is_p, is_r, il_i, il_p, il_rs, il_b,
  m_app_i, m_app_p, m_app_rs, m_app_b, m_rev_i, m_clr_i, m_rem_i, f_len_i, f_len_p, f_len_r, f_in_i, f_ni_i, f_ix_i, f_ix_p, f_ix_r, f_ix_b, p_fst, p_snd, f_list_i, f_list_t, f_list_r, mk_i, mk_p, mk_r, f_srt_i, f_srt_p, f_rev_i, f_rev_p, f_cat_i, f_cat_r, f_cat_p, f_rep_i, minL_map, maxL_map, sum_map, all_map, any_map, f_int1, f_intB, f_max2, f_min2,
  it_r1, it_r2, f_rg, itL_i, itL_p, itL_r, itL_b, itS_i, itS_r, f_lstM, f_lst0, f_lst1, f_lst2, f_lst3, f_lst4, f_lst5, f_lst6, f_lstr1, f_lstr2, f_eq_i, f_ne_i, f_eq_r, f_ne_r, f_eq_p, f_ne_p, f_eq_bl, f_ne_bl, rd_i, rd_b, rd_p, rd_rs, y_size, y_ties, y_wired, y_near, o_neighbours,
  isi_int, f_setL, f_srtU, f_srtS, f_is_bl, f_isn_bl, isi_bl, fr_dic, dic_nil, sl_dic, f_din, f_dni, f_dix, f_dic1, x_rdD, rd_dic, s_setD, set_dic, upF_const, o_ties, r_ties, isi_int_bl, isi_tup, isi_lst, isi_lt, sgx, spx, sgo, spo, og_nil, op_nil, restS, wipeS,
  List.getElem?_cons_zero, List.getElem?_cons_succ, List.set_cons_zero, List.set_cons_succ, List.getD_cons_zero, List.getD_cons_succ, List.cons_append, List.nil_append, List.append_nil, List.length_cons, List.length_nil, List.replicate_succ, List.replicate_zero, Nat.reduceSub, Nat.reduceAdd, true_and, and_true])
section
variable {n : Nat} {A : Int → Int → Prop} {nr : List (List Int)} {size : Int} {ts : List (Int × Int)} {ws up : List Int}
structure MaI (ts : List (Int × Int)) (L : List Int) (f : Int → Int) (D : List Int) (K : List Int) (M : List (Int × Int)) (P : List Int) : Prop where
  knd : K.Nodup
  kin : ∀ x ∈ K, x ∈ L
  kme : ∀ x, x ∈ K ↔ x ∈ endsM M
  mnd : (endsM M).Nodup
  mts : ∀ t ∈ M, t ∈ ts
  len : P.length = M.length
  pnd : P.Nodup
  pin : ∀ x ∈ P, x ∈ K
  old : ∀ x ∈ K, x ∉ P → x ∈ D
  cov : ∀ x ∈ D, x ≠ 0 → x ∈ P ∨ f x ∈ P
theorem MaI.put {L : List Int} {f : Int → Int} {D K : List Int} {M : List (Int × Int)} {P : List Int} (h : MaI ts L f D K M P) {x a b : Int} (h1 : x ∉ K) (h2 : f x ∉ K) (hne : f x ≠ x) (hxL : x ∈ L) (hfL : f x ∈ L) (h0 : x ≠ 0) (ht : (a, b) ∈ ts) (hab : (a = x ∧ b = f x) ∨ (a = f x ∧ b = x)) : MaI ts L f (D ++ [x]) ((K ++ [x]) ++ [f x]) (M ++ [(a, b)]) (P ++ [f x]) where
  knd := by
    rw [List.append_assoc, List.nodup_append]
    refine ⟨h.knd, ?_, fun u hu v hv e => ?_⟩
    · have : x ≠ f x := fun z => hne z.symm
      simp [this]
    · simp at hv
      subst e
      rcases hv with rfl | rfl
      · exact h1 hu
      · exact h2 hu
  kin := fun y hy => by
    simp at hy
    rcases hy with hy | rfl | rfl
    · exact h.kin y hy
    · exact hxL
    · exact hfL
  kme := fun y => by
    rw [endM_app, List.mem_append (s := endsM M), ← h.kme y]
    have e : endsM [(a, b)] = [a, b] := rfl
    rw [e]
    rcases hab with ⟨rfl, rfl⟩ | ⟨rfl, rfl⟩
    · simp
    · simp
      exact ⟨fun z => z.elim .inl fun z => .inr z.symm, fun z => z.elim .inl fun z => .inr z.symm⟩
  mnd := by
    rw [endM_app]
    have e : endsM [(a, b)] = [a, b] := rfl
    rw [e, List.nodup_append]
    refine ⟨h.mnd, ?_, fun u hu v hv e => ?_⟩
    · have : x ≠ f x := fun z => hne z.symm
      rcases hab with ⟨rfl, rfl⟩ | ⟨rfl, rfl⟩
      · simp [this]
      · simp [hne]
    · simp at hv
      subst e
      have := (h.kme u).mpr hu
      rcases hab with ⟨rfl, rfl⟩ | ⟨rfl, rfl⟩ <;> rcases hv with rfl | rfl
      · exact h1 this
      · exact h2 this
      · exact h2 this
      · exact h1 this
  mts := fun t ht' => by
    rcases List.mem_append.mp ht' with q | q
    · exact h.mts t q
    · simp at q
      rw [q]
      exact ht
  len := by rw [List.length_append, List.length_append, h.len]; rfl
  pnd := by
    rw [List.nodup_append]
    refine ⟨h.pnd, by simp, fun u hu v hv e => ?_⟩
    simp at hv
    subst e
    exact h2 (hv ▸ h.pin u hu)
  pin := fun y hy => by
    rcases List.mem_append.mp hy with q | q
    · exact List.mem_append_left _ (List.mem_append_left _ (h.pin y q))
    · exact List.mem_append_right _ q
  old := fun y hy hp => by
    have hp1 : y ∉ P := fun z => hp (List.mem_append_left _ z)
    have hp2 : y ≠ f x := fun z => hp (List.mem_append_right _ (by simp [z]))
    rcases List.mem_append.mp hy with q | q
    · rcases List.mem_append.mp q with q | q
      · exact List.mem_append_left _ (h.old y q hp1)
      · exact List.mem_append_right _ q
    · simp at q
      exact absurd q hp2
  cov := fun y hy hy0 => by
    rcases List.mem_append.mp hy with hy | hy
    · exact (h.cov y hy hy0).imp (List.mem_append_left _) (List.mem_append_left _)
    · simp at hy
      rw [hy]
      exact .inr (List.mem_append_right _ (by simp))
end
end W

/-! T52: the law's and the program's test of a matching. -/
namespace W
open PySem PySem.Spec PyProof.Rows L2 Z
local macro_rules | `(tactic| walk_at "w") => `(tactic| simp only [↓len_r1i, ↓len_r1p, ↓len_r1r, w_mC, w_mVar, w_m2x, w_m1x, w_mTst, w_mAnd, w_mOr, w_mNot, w_mIf, w_mBl, w_mFr, w_mSh, w_mCons, w_mRd, w_mRv, w_pVar, w_pIx, w_mCh, w_mYes', w_m2N, w_m1N, w_mStar, w_mSeq, w_mSl, w_mPart, x_mLook, x_mUse, x_mMov, x_mItV, x_mut, x_comp,
  s_next, s_seq, s_if, s_ret, s_asg, s_sto, s_own, s_drop, s_setI, s_augI, s_aug, s_bad, s_retN, s_brk, s_cnt, s_par, s_for,
  x_call1, x_call2, x_call3, x_call4, x_call5, x_call1s, x_call2s, x_call2t, x_call3s, x_call3t, x_call3u, x_call1b, x_call2b, x_call3b, x_call4b, m_app_os, f_in_t2, f_ni_t2, x_compIt, wdic_pl, x_compK, f_dniK, items_i, f_inD_r, f_niD_r, m_ext_i, w_mSlT, x_c_ss, x_c_dss, x_c_sddd, x_c_ddsd, x_c_ddds, x_meth3, x_meth2s, x_meth2t, x_callP, x_mk0, o_leaves, o_path, o_ties, o_rewired, f_itT, set_rs, f_lstr3, f_tup3d, zp_i, f_r3, f_rev_r, wi_l0, og_l0, op_l0, f_lent, f_ni_b, ls_b, fr_t0, fr_pn, fr_ln, fr_os, il_os, sl_os, fr_ot, il_ot, fr_shd, oix_t1, x_meth0, x_meth1, x_meth2, x_meth1s, x_set, set_i, set_b, en_i, en_p, en_r, f_tupO2, f_tupO3, f_tup2d, fr_t2, fr_t3, slt_ow, ix_t0, ix_t1, ix_t2, wi_t0, wi_t1, og_t0, og_t1, op_t0, op_t1, f_eq_t2, f_ne_t2, o_size, o_wired, r_size, r_wired, x_mk, mk_ok, cut_map, ls_i, ls_r, ls_p, lst_rs, lst_is,
  f_add, f_sub, f_lt, f_le, f_gt, f_ge, f_mod, f_div, f_mul, f_eq, f_ne, f_neg, b_bl, l_sh, v_pl, o_ow, o_own, a_pl, k_pl, k_ow, u_pl, u_ow, mv_pl, mv_ow, i1_int, par2_ok, wF_some, g_nm, f_tp, g_cons, g_nil, wF_map,
  fr_i, fr_p, fr_rs, fr_b, fr_sh, sl_i, sl_p, sl_rs, sl_b, sl_sh, itv_i, itv_p, itv_rs, sq_i, sq_p, sq_r, is_i, is_p, is_r, il_i, il_p, il_rs, il_b,
  m_app_i, m_app_p, m_app_rs, m_app_b, m_rev_i, m_clr_i, m_rem_i, f_len_i, f_len_p, f_len_r, f_in_i, f_ni_i, f_ix_i, f_ix_p, f_ix_r, f_ix_b, p_fst, p_snd, f_list_i, f_list_t, f_list_r, mk_i, mk_p, mk_r, f_srt_i, f_srt_p, f_rev_i, f_rev_p, f_cat_i, f_cat_r, f_cat_p, f_rep_i, minL_map, maxL_map, sum_map, all_map, any_map, f_int1, f_intB, f_max2, f_min2,
  it_r1, it_r2, f_rg, itL_i, itL_p, itL_r, itL_b, itS_i, itS_r, f_lstM, f_lst0, f_lst1, f_lst2, f_lst3, f_lst4, f_lst5, f_lst6, f_lstr1, f_lstr2, f_eq_i, f_ne_i, f_eq_r, f_ne_r, f_eq_p, f_ne_p, f_eq_bl, f_ne_bl, rd_i, rd_b, rd_p, rd_rs, y_size, y_ties, y_wired, y_near, o_neighbours,
  isi_int, f_setL, f_srtU, f_srtS, f_is_bl, f_isn_bl, isi_bl, fr_dic, dic_nil, sl_dic, f_din, f_dni, f_dix, f_dic1, x_rdD, rd_dic, s_setD, set_dic, upF_const, o_ties, r_ties, isi_int_bl, isi_tup, isi_lst, isi_lt, sgx, spx, sgo, spo, og_nil, op_nil, restS, wipeS,
  List.getElem?_cons_zero, List.getElem?_cons_succ, List.set_cons_zero, List.set_cons_succ, List.getD_cons_zero, List.getD_cons_succ, List.cons_append, List.nil_append, List.append_nil, List.length_cons, List.length_nil, List.replicate_succ, List.replicate_zero, Nat.reduceSub, Nat.reduceAdd, true_and, and_true])
local macro_rules | `(tactic| walk_at "v") => `(tactic| simp only [↓len_r1i, ↓len_r1p, ↓len_r1r, w_mC, w_mVar, w_m2x, w_m1x, w_mTst, w_mAnd, w_mOr, w_mNot, w_mIf, w_mBl, w_mFr, w_mSh, w_mCons, w_mRd, w_mRv, w_pVar, w_pIx, w_mCh, w_mYes', w_m2N, w_m1N, w_mStar, w_mSeq, w_mSl, w_mPart, x_mLook, x_mUse, x_mMov, x_mItV, x_mut, x_comp,
  s_next, q_seq, kq_n, kq_r, kq_b, kq_c, s_ret, s_asg, s_sto, s_own, s_drop, s_setI, s_augI, s_aug, s_bad, s_retN, s_brk, s_cnt, s_par, s_for,
  x_call1, x_call2, x_call3, x_call4, x_call5, x_call1s, x_call2s, x_call2t, x_call3s, x_call3t, x_call3u, x_call1b, x_call2b, x_call3b, x_call4b, m_app_os, f_in_t2, f_ni_t2, x_compIt, wdic_pl, x_compK, f_dniK, items_i, f_inD_r, f_niD_r, m_ext_i, w_mSlT, x_c_ss, x_c_dss, x_c_sddd, x_c_ddsd, x_c_ddds, x_meth3, x_meth2s, x_meth2t, x_callP, x_mk0, o_leaves, o_path, o_ties, o_rewired, f_itT, set_rs, f_lstr3, f_tup3d, zp_i, f_r3, f_rev_r, wi_l0, og_l0, op_l0, f_lent, f_ni_b, ls_b, fr_t0, fr_pn, fr_ln, fr_os, il_os, sl_os, fr_ot, il_ot, fr_shd, oix_t1, x_meth0, x_meth1, x_meth2, x_meth1s, x_set, set_i, set_b, en_i, en_p, en_r, f_tupO2, f_tupO3, f_tup2d, fr_t2, fr_t3, slt_ow, ix_t0, ix_t1, ix_t2, wi_t0, wi_t1, og_t0, og_t1, op_t0, op_t1, f_eq_t2, f_ne_t2, o_size, o_wired, r_size, r_wired, x_mk, mk_ok, cut_map, ls_i, ls_r, ls_p, lst_rs, lst_is,
  f_add, f_sub, f_lt, f_le, f_gt, f_ge, f_mod, f_div, f_mul, f_eq, f_ne, f_neg, b_bl, l_sh, v_pl, o_ow, o_own, a_pl, k_pl, k_ow, u_pl, u_ow, mv_pl, mv_ow, i1_int, par2_ok, wF_some, g_nm, f_tp, g_cons, g_nil, wF_map,
  fr_i, fr_p, fr_rs, fr_b, fr_sh, sl_i, sl_p, sl_rs, sl_b, sl_sh, itv_i, itv_p, itv_rs, sq_i, sq_p, sq_r, is_i, is_p, is_r, il_i, il_p, il_rs, il_b,
  m_app_i, m_app_p, m_app_rs, m_app_b, m_rev_i, m_clr_i, m_rem_i, f_len_i, f_len_p, f_len_r, f_in_i, f_ni_i, f_ix_i, f_ix_p, f_ix_r, f_ix_b, p_fst, p_snd, f_list_i, f_list_t, f_list_r, mk_i, mk_p, mk_r, f_srt_i, f_srt_p, f_rev_i, f_rev_p, f_cat_i, f_cat_r, f_cat_p, f_rep_i, minL_map, maxL_map, sum_map, all_map, any_map, f_int1, f_intB, f_max2, f_min2,
  it_r1, it_r2, f_rg, itL_i, itL_p, itL_r, itL_b, itS_i, itS_r, f_lstM, f_lst0, f_lst1, f_lst2, f_lst3, f_lst4, f_lst5, f_lst6, f_lstr1, f_lstr2, f_eq_i, f_ne_i, f_eq_r, f_ne_r, f_eq_p, f_ne_p, f_eq_bl, f_ne_bl, rd_i, rd_b, rd_p, rd_rs, y_size, y_ties, y_wired, y_near, o_neighbours,
  isi_int, f_setL, f_srtU, f_srtS, f_is_bl, f_isn_bl, isi_bl, fr_dic, dic_nil, sl_dic, f_din, f_dni, f_dix, f_dic1, x_rdD, rd_dic, s_setD, set_dic, upF_const, o_ties, r_ties, isi_int_bl, isi_tup, isi_lst, isi_lt, sgx, spx, sgo, spo, og_nil, op_nil, restS, wipeS,
  List.getElem?_cons_zero, List.getElem?_cons_succ, List.set_cons_zero, List.set_cons_succ, List.getD_cons_zero, List.getD_cons_succ, List.cons_append, List.nil_append, List.append_nil, List.length_cons, List.length_nil, List.replicate_succ, List.replicate_zero, Nat.reduceSub, Nat.reduceAdd, true_and, and_true])
section
variable {n : Nat} {A : Int → Int → Prop} {nr : List (List Int)} {size : Int} {ts ms : List (Int × Int)} {ws up ps : List Int}
structure RtI (ts ms : List (Int × Int)) (ps : List Int) : Prop where
  len : ms.length = ps.length
  l60 : ms.length ≤ 60
  sm : srtP ms = ms
  sp : srtI ps = ps
  sub : ∀ t ∈ ms, t ∈ ts
  nd1 : (ms.map (·.1) ++ ms.map (·.2)).Nodup
  nd2 : ps.Nodup
  cov : ∀ t ∈ ts, t.1 ∈ ps ∨ t.2 ∈ ps
end
end W

/-! T53: sets of posts; the program's test of a matching. -/
namespace W
open PySem PySem.Spec PyProof.Rows L2 Z
local macro_rules | `(tactic| walk_at "w") => `(tactic| simp only [↓len_r1i, ↓len_r1p, ↓len_r1r, w_mC, w_mVar, w_m2x, w_m1x, w_mTst, w_mAnd, w_mOr, w_mNot, w_mIf, w_mBl, w_mFr, w_mSh, w_mCons, w_mRd, w_mRv, w_pVar, w_pIx, w_mCh, w_mYes', w_m2N, w_m1N, w_mStar, w_mSeq, w_mSl, w_mPart, x_mLook, x_mUse, x_mMov, x_mItV, x_mut, x_comp,
  s_next, s_seq, s_if, s_ret, s_asg, s_sto, s_own, s_drop, s_setI, s_augI, s_aug, s_bad, s_retN, s_brk, s_cnt, s_par, s_for,
  x_call1, x_call2, x_call3, x_call4, x_call5, x_call1s, x_call2s, x_call2t, x_call3s, x_call3t, x_call3u, x_call1b, x_call2b, x_call3b, x_call4b, m_app_os, f_in_t2, f_ni_t2, x_compIt, wdic_pl, x_compK, f_dniK, items_i, f_inD_r, f_niD_r, m_ext_i, w_mSlT, x_c_ss, x_c_dss, x_c_sddd, x_c_ddsd, x_c_ddds, x_meth3, x_meth2s, x_meth2t, x_callP, x_mk0, o_leaves, o_path, o_ties, o_rewired, f_itT, set_rs, f_lstr3, f_tup3d, zp_i, f_r3, f_rev_r, wi_l0, og_l0, op_l0, f_lent, f_ni_b, ls_b, fr_t0, fr_pn, fr_ln, fr_os, il_os, sl_os, fr_ot, il_ot, fr_shd, oix_t1, x_meth0, x_meth1, x_meth2, x_meth1s, x_set, set_i, set_b, en_i, en_p, en_r, f_tupO2, f_tupO3, f_tup2d, fr_t2, fr_t3, slt_ow, ix_t0, ix_t1, ix_t2, wi_t0, wi_t1, og_t0, og_t1, op_t0, op_t1, f_eq_t2, f_ne_t2, o_size, o_wired, r_size, r_wired, x_mk, mk_ok, cut_map, ls_i, ls_r, ls_p, lst_rs, lst_is,
  f_add, f_sub, f_lt, f_le, f_gt, f_ge, f_mod, f_div, f_mul, f_eq, f_ne, f_neg, b_bl, l_sh, v_pl, o_ow, o_own, a_pl, k_pl, k_ow, u_pl, u_ow, mv_pl, mv_ow, i1_int, par2_ok, wF_some, g_nm, f_tp, g_cons, g_nil, wF_map,
  fr_i, fr_p, fr_rs, fr_b, fr_sh, sl_i, sl_p, sl_rs, sl_b, sl_sh, itv_i, itv_p, itv_rs, sq_i, sq_p, sq_r, is_i, is_p, is_r, il_i, il_p, il_rs, il_b,
  m_app_i, m_app_p, m_app_rs, m_app_b, m_rev_i, m_clr_i, m_rem_i, f_len_i, f_len_p, f_len_r, f_in_i, f_ni_i, f_ix_i, f_ix_p, f_ix_r, f_ix_b, p_fst, p_snd, f_list_i, f_list_t, f_list_r, mk_i, mk_p, mk_r, f_srt_i, f_srt_p, f_rev_i, f_rev_p, f_cat_i, f_cat_r, f_cat_p, f_rep_i, minL_map, maxL_map, sum_map, all_map, any_map, f_int1, f_intB, f_max2, f_min2,
  it_r1, it_r2, f_rg, itL_i, itL_p, itL_r, itL_b, itS_i, itS_r, f_lstM, f_lst0, f_lst1, f_lst2, f_lst3, f_lst4, f_lst5, f_lst6, f_lstr1, f_lstr2, f_eq_i, f_ne_i, f_eq_r, f_ne_r, f_eq_p, f_ne_p, f_eq_bl, f_ne_bl, rd_i, rd_b, rd_p, rd_rs, y_size, y_ties, y_wired, y_near, o_neighbours,
  isi_int, f_setL, f_srtU, f_srtS, f_is_bl, f_isn_bl, isi_bl, fr_dic, dic_nil, sl_dic, f_din, f_dni, f_dix, f_dic1, x_rdD, rd_dic, s_setD, set_dic, upF_const, o_ties, r_ties, isi_int_bl, isi_tup, isi_lst, isi_lt, sgx, spx, sgo, spo, og_nil, op_nil, restS, wipeS,
  List.getElem?_cons_zero, List.getElem?_cons_succ, List.set_cons_zero, List.set_cons_succ, List.getD_cons_zero, List.getD_cons_succ, List.cons_append, List.nil_append, List.append_nil, List.length_cons, List.length_nil, List.replicate_succ, List.replicate_zero, Nat.reduceSub, Nat.reduceAdd, true_and, and_true])
local macro_rules | `(tactic| walk_at "v") => `(tactic| simp only [↓len_r1i, ↓len_r1p, ↓len_r1r, w_mC, w_mVar, w_m2x, w_m1x, w_mTst, w_mAnd, w_mOr, w_mNot, w_mIf, w_mBl, w_mFr, w_mSh, w_mCons, w_mRd, w_mRv, w_pVar, w_pIx, w_mCh, w_mYes', w_m2N, w_m1N, w_mStar, w_mSeq, w_mSl, w_mPart, x_mLook, x_mUse, x_mMov, x_mItV, x_mut, x_comp,
  s_next, q_seq, kq_n, kq_r, kq_b, kq_c, s_ret, s_asg, s_sto, s_own, s_drop, s_setI, s_augI, s_aug, s_bad, s_retN, s_brk, s_cnt, s_par, s_for,
  x_call1, x_call2, x_call3, x_call4, x_call5, x_call1s, x_call2s, x_call2t, x_call3s, x_call3t, x_call3u, x_call1b, x_call2b, x_call3b, x_call4b, m_app_os, f_in_t2, f_ni_t2, x_compIt, wdic_pl, x_compK, f_dniK, items_i, f_inD_r, f_niD_r, m_ext_i, w_mSlT, x_c_ss, x_c_dss, x_c_sddd, x_c_ddsd, x_c_ddds, x_meth3, x_meth2s, x_meth2t, x_callP, x_mk0, o_leaves, o_path, o_ties, o_rewired, f_itT, set_rs, f_lstr3, f_tup3d, zp_i, f_r3, f_rev_r, wi_l0, og_l0, op_l0, f_lent, f_ni_b, ls_b, fr_t0, fr_pn, fr_ln, fr_os, il_os, sl_os, fr_ot, il_ot, fr_shd, oix_t1, x_meth0, x_meth1, x_meth2, x_meth1s, x_set, set_i, set_b, en_i, en_p, en_r, f_tupO2, f_tupO3, f_tup2d, fr_t2, fr_t3, slt_ow, ix_t0, ix_t1, ix_t2, wi_t0, wi_t1, og_t0, og_t1, op_t0, op_t1, f_eq_t2, f_ne_t2, o_size, o_wired, r_size, r_wired, x_mk, mk_ok, cut_map, ls_i, ls_r, ls_p, lst_rs, lst_is,
  f_add, f_sub, f_lt, f_le, f_gt, f_ge, f_mod, f_div, f_mul, f_eq, f_ne, f_neg, b_bl, l_sh, v_pl, o_ow, o_own, a_pl, k_pl, k_ow, u_pl, u_ow, mv_pl, mv_ow, i1_int, par2_ok, wF_some, g_nm, f_tp, g_cons, g_nil, wF_map,
  fr_i, fr_p, fr_rs, fr_b, fr_sh, sl_i, sl_p, sl_rs, sl_b, sl_sh, itv_i, itv_p, itv_rs, sq_i, sq_p, sq_r, is_i, is_p, is_r, il_i, il_p, il_rs, il_b,
  m_app_i, m_app_p, m_app_rs, m_app_b, m_rev_i, m_clr_i, m_rem_i, f_len_i, f_len_p, f_len_r, f_in_i, f_ni_i, f_ix_i, f_ix_p, f_ix_r, f_ix_b, p_fst, p_snd, f_list_i, f_list_t, f_list_r, mk_i, mk_p, mk_r, f_srt_i, f_srt_p, f_rev_i, f_rev_p, f_cat_i, f_cat_r, f_cat_p, f_rep_i, minL_map, maxL_map, sum_map, all_map, any_map, f_int1, f_intB, f_max2, f_min2,
  it_r1, it_r2, f_rg, itL_i, itL_p, itL_r, itL_b, itS_i, itS_r, f_lstM, f_lst0, f_lst1, f_lst2, f_lst3, f_lst4, f_lst5, f_lst6, f_lstr1, f_lstr2, f_eq_i, f_ne_i, f_eq_r, f_ne_r, f_eq_p, f_ne_p, f_eq_bl, f_ne_bl, rd_i, rd_b, rd_p, rd_rs, y_size, y_ties, y_wired, y_near, o_neighbours,
  isi_int, f_setL, f_srtU, f_srtS, f_is_bl, f_isn_bl, isi_bl, fr_dic, dic_nil, sl_dic, f_din, f_dni, f_dix, f_dic1, x_rdD, rd_dic, s_setD, set_dic, upF_const, o_ties, r_ties, isi_int_bl, isi_tup, isi_lst, isi_lt, sgx, spx, sgo, spo, og_nil, op_nil, restS, wipeS,
  List.getElem?_cons_zero, List.getElem?_cons_succ, List.set_cons_zero, List.set_cons_succ, List.getD_cons_zero, List.getD_cons_succ, List.cons_append, List.nil_append, List.append_nil, List.length_cons, List.length_nil, List.replicate_succ, List.replicate_zero, Nat.reduceSub, Nat.reduceAdd, true_and, and_true])
section
variable {n : Nat} {A : Int → Int → Prop} {nr : List (List Int)} {size : Int} {ts ms : List (Int × Int)} {ws up ps : List Int}
theorem are_posts_ok1 {ws : List Int} {size : Int} {Q : O → List Sl → Prop} (h : ∀ w ∈ ws, 0 ≤ w ∧ w < size) (hl : ws.length < 4000 ∨ ws.length ≤ 16777216 ∧ (unl ws).length < 4000) (k : ∀ S, Q (.sh (.bl (decide (ws.Nodup)))) S) : wO (f_are_posts [.pl (.lst (ws.map .int)), .pl (.int size)]) Q := by
  unfold f_are_posts
  rw [wO_mk]
  unfold m_are_posts
  simp only [s_seq, s_if, w_mOr, w_mNot, w_mTst, w_m1x, w_mVar, w_mCons, w_mC, w_mFr, w_comp0, s_ret, w_mSh, w_m2x, s_next]
  simp [v_pl, isi_lt, b_bl, f_itS]
  refine ⟨⟨by omega, rfl⟩, ?_⟩
  refine comp_pure (fun _ => true) (isPostD size) (fun d hd => ?_) ?_
  · obtain ⟨w, hw, rfl⟩ := List.mem_map.mp hd
    simp only [g_nm, wF_some, w_mYes, w_mFr]
    refine ⟨trivial, fun _ => ?_, fun z => by cases z⟩
    refine c_pure2 (d := .int w) (e := .int size) (by simp [wipeS, w_mVar, v_pl]) (by simp [wipeS, w_mVar, v_pl]) (is_post_ok fun S => ?_)
    exact ⟨rfl, by simp [wipeS]⟩
  · have e : (((ws.map D.int).filter fun _ => true).map (isPostD size)) = (ws.map fun _ => true).map D.bl := by
      rw [List.filter_eq_self.mpr (fun _ _ => rfl), List.map_map, List.map_map]
      apply List.map_congr_left
      intro w hw
      have := h w hw
      simp [isPostD, this]
    rw [e]
    have e2 : fr (O.lst (((ws.map fun _ => true).map D.bl).map O.sh)) = .lst ((ws.map fun _ => true).map D.bl) := by
      show D.lst (frL _) = _
      rw [frL_sh]
    simp only [e2, f_all, b_bl]
    have e3 : (ws.map fun _ => true).all id = true := by
      rw [List.all_map]
      exact List.all_eq_true.mpr fun _ _ => rfl
    rw [e3]
    have e4 : decide (((unl ws).length : Int) = (ws.length : Int)) = decide ws.Nodup := by
      apply decide_eq_decide.mpr
      exact ⟨fun z => unl_eq (by omega), fun z => by rw [unl_of_nodup z]⟩
    have hl2 : ws.length < 4000 ∨ (unl ws).length < 4000 := by omega
    simp [restS, wipeS, v_pl, f_cnt, f_leni, f_eq, hl2]
    rw [e4]
    exact k _
theorem r_are_posts1 (h : ∀ w ∈ ws, 0 ≤ w ∧ w < size) (hl : ws.length < 4000 ∨ ws.length ≤ 16777216 ∧ (unl ws).length < 4000) : rO (f_are_posts [.pl (iD ws), .pl (.int size)]) = some (.sh (.bl (decide ws.Nodup))) := rO_of (are_posts_ok1 h hl fun S => rfl)
theorem isi_li {P : D → Prop} : wF (dIsi (isT .lst) noO (iD ws)) P = P (.bl true) := propext Iff.rfl
def setB (ws : List Int) : Bool := decide ws.Nodup && decide (ws = srtI ws)
theorem r_is_set (h : ∀ w ∈ ws, 0 ≤ w ∧ w < size) (hl : ws.length < 4000 ∨ ws.length ≤ 16777216 ∧ (unl ws).length < 4000) : rO (f_is_set [.pl (iD ws), .pl (.int size)]) = some (.sh (.bl (setB ws))) := by
  refine rO_of ?_
  unfold f_is_set
  rw [wO_mk]
  unfold m_is_set
  walk_at "v"
  rw [r_are_posts1 h hl]
  walk_at "v"
  unfold setB
  simp only [isi_li]
  walk_at "v"
  refine ⟨fun _ => ⟨fun z => ?_, fun z => ?_⟩, fun z => (by cases z)⟩ <;> rw [z] <;> rfl
theorem setB_ok (h : ws.Pairwise (· < ·)) : setB ws = true := by
  unfold setB
  have nd : ws.Nodup := h.imp fun h e => by omega
  have e : ws = srtI ws := srtI_uniq (List.Perm.refl _) (h.imp fun h => by omega)
  rw [decide_eq_true nd, decide_eq_true e]
  rfl
/-- the whole test: a true one and two false ones -/
structure MtI (n : Nat) (ts ms : List (Int × Int)) (ps : List Int) : Prop extends RtI ts ms ps where
  endn : (endsM ms).Nodup
  psrt : ps.Pairwise (· < ·)
  pin : ∀ p ∈ ps, 0 ≤ p ∧ p < (n : Int)
  tin : TieOk n ts
end
end W

/-! T64: sets of posts among things of any kind. -/
namespace W
open PySem PySem.Spec PyProof.Rows L2 Z
local macro_rules | `(tactic| walk_at "w") => `(tactic| simp only [↓len_r1i, ↓len_r1p, ↓len_r1r, w_mC, w_mVar, w_m2x, w_m1x, w_mTst, w_mAnd, w_mOr, w_mNot, w_mIf, w_mBl, w_mFr, w_mSh, w_mCons, w_mRd, w_mRv, w_pVar, w_pIx, w_mCh, w_mYes', w_m2N, w_m1N, w_mStar, w_mSeq, w_mSl, w_mPart, x_mLook, x_mUse, x_mMov, x_mItV, x_mut, x_comp,
  s_next, s_seq, s_if, s_ret, s_asg, s_sto, s_own, s_drop, s_setI, s_augI, s_aug, s_bad, s_retN, s_brk, s_cnt, s_par, s_for,
  x_call1, x_call2, x_call3, x_call4, x_call5, x_call1s, x_call2s, x_call2t, x_call3s, x_call3t, x_call3u, x_call1b, x_call2b, x_call3b, x_call4b, m_app_os, f_in_t2, f_ni_t2, x_compIt, wdic_pl, x_compK, f_dniK, items_i, f_inD_r, f_niD_r, m_ext_i, w_mSlT, x_c_ss, x_c_dss, x_c_sddd, x_c_ddsd, x_c_ddds, x_meth3, x_meth2s, x_meth2t, x_callP, x_mk0, o_leaves, o_path, o_ties, o_rewired, f_itT, set_rs, f_lstr3, f_tup3d, zp_i, f_r3, f_rev_r, wi_l0, og_l0, op_l0, f_lent, f_ni_b, ls_b, fr_t0, fr_pn, fr_ln, fr_os, il_os, sl_os, fr_ot, il_ot, fr_shd, oix_t1, x_meth0, x_meth1, x_meth2, x_meth1s, x_set, set_i, set_b, en_i, en_p, en_r, f_tupO2, f_tupO3, f_tup2d, fr_t2, fr_t3, slt_ow, ix_t0, ix_t1, ix_t2, wi_t0, wi_t1, og_t0, og_t1, op_t0, op_t1, f_eq_t2, f_ne_t2, o_size, o_wired, r_size, r_wired, x_mk, mk_ok, cut_map, ls_i, ls_r, ls_p, lst_rs, lst_is,
  f_add, f_sub, f_lt, f_le, f_gt, f_ge, f_mod, f_div, f_mul, f_eq, f_ne, f_neg, b_bl, l_sh, v_pl, o_ow, o_own, a_pl, k_pl, k_ow, u_pl, u_ow, mv_pl, mv_ow, i1_int, par2_ok, wF_some, g_nm, f_tp, g_cons, g_nil, wF_map,
  fr_i, fr_p, fr_rs, fr_b, fr_sh, sl_i, sl_p, sl_rs, sl_b, sl_sh, itv_i, itv_p, itv_rs, sq_i, sq_p, sq_r, is_i, is_p, is_r, il_i, il_p, il_rs, il_b,
  m_app_i, m_app_p, m_app_rs, m_app_b, m_rev_i, m_clr_i, m_rem_i, f_len_i, f_len_p, f_len_r, f_in_i, f_ni_i, f_ix_i, f_ix_p, f_ix_r, f_ix_b, p_fst, p_snd, f_list_i, f_list_t, f_list_r, mk_i, mk_p, mk_r, f_srt_i, f_srt_p, f_rev_i, f_rev_p, f_cat_i, f_cat_r, f_cat_p, f_rep_i, minL_map, maxL_map, sum_map, all_map, any_map, f_int1, f_intB, f_max2, f_min2,
  it_r1, it_r2, f_rg, itL_i, itL_p, itL_r, itL_b, itS_i, itS_r, f_lstM, f_lst0, f_lst1, f_lst2, f_lst3, f_lst4, f_lst5, f_lst6, f_lstr1, f_lstr2, f_eq_i, f_ne_i, f_eq_r, f_ne_r, f_eq_p, f_ne_p, f_eq_bl, f_ne_bl, rd_i, rd_b, rd_p, rd_rs, y_size, y_ties, y_wired, y_near, o_neighbours,
  isi_int, f_setL, f_srtU, f_srtS, f_is_bl, f_isn_bl, isi_bl, fr_dic, dic_nil, sl_dic, f_din, f_dni, f_dix, f_dic1, x_rdD, rd_dic, s_setD, set_dic, upF_const, o_ties, r_ties, isi_int_bl, isi_tup, isi_lst, isi_lt, sgx, spx, sgo, spo, og_nil, op_nil, restS, wipeS,
  List.getElem?_cons_zero, List.getElem?_cons_succ, List.set_cons_zero, List.set_cons_succ, List.getD_cons_zero, List.getD_cons_succ, List.cons_append, List.nil_append, List.append_nil, List.length_cons, List.length_nil, List.replicate_succ, List.replicate_zero, Nat.reduceSub, Nat.reduceAdd, true_and, and_true])
local macro_rules | `(tactic| walk_at "v") => `(tactic| simp only [↓len_r1i, ↓len_r1p, ↓len_r1r, w_mC, w_mVar, w_m2x, w_m1x, w_mTst, w_mAnd, w_mOr, w_mNot, w_mIf, w_mBl, w_mFr, w_mSh, w_mCons, w_mRd, w_mRv, w_pVar, w_pIx, w_mCh, w_mYes', w_m2N, w_m1N, w_mStar, w_mSeq, w_mSl, w_mPart, x_mLook, x_mUse, x_mMov, x_mItV, x_mut, x_comp,
  s_next, q_seq, kq_n, kq_r, kq_b, kq_c, s_ret, s_asg, s_sto, s_own, s_drop, s_setI, s_augI, s_aug, s_bad, s_retN, s_brk, s_cnt, s_par, s_for,
  x_call1, x_call2, x_call3, x_call4, x_call5, x_call1s, x_call2s, x_call2t, x_call3s, x_call3t, x_call3u, x_call1b, x_call2b, x_call3b, x_call4b, m_app_os, f_in_t2, f_ni_t2, x_compIt, wdic_pl, x_compK, f_dniK, items_i, f_inD_r, f_niD_r, m_ext_i, w_mSlT, x_c_ss, x_c_dss, x_c_sddd, x_c_ddsd, x_c_ddds, x_meth3, x_meth2s, x_meth2t, x_callP, x_mk0, o_leaves, o_path, o_ties, o_rewired, f_itT, set_rs, f_lstr3, f_tup3d, zp_i, f_r3, f_rev_r, wi_l0, og_l0, op_l0, f_lent, f_ni_b, ls_b, fr_t0, fr_pn, fr_ln, fr_os, il_os, sl_os, fr_ot, il_ot, fr_shd, oix_t1, x_meth0, x_meth1, x_meth2, x_meth1s, x_set, set_i, set_b, en_i, en_p, en_r, f_tupO2, f_tupO3, f_tup2d, fr_t2, fr_t3, slt_ow, ix_t0, ix_t1, ix_t2, wi_t0, wi_t1, og_t0, og_t1, op_t0, op_t1, f_eq_t2, f_ne_t2, o_size, o_wired, r_size, r_wired, x_mk, mk_ok, cut_map, ls_i, ls_r, ls_p, lst_rs, lst_is,
  f_add, f_sub, f_lt, f_le, f_gt, f_ge, f_mod, f_div, f_mul, f_eq, f_ne, f_neg, b_bl, l_sh, v_pl, o_ow, o_own, a_pl, k_pl, k_ow, u_pl, u_ow, mv_pl, mv_ow, i1_int, par2_ok, wF_some, g_nm, f_tp, g_cons, g_nil, wF_map,
  fr_i, fr_p, fr_rs, fr_b, fr_sh, sl_i, sl_p, sl_rs, sl_b, sl_sh, itv_i, itv_p, itv_rs, sq_i, sq_p, sq_r, is_i, is_p, is_r, il_i, il_p, il_rs, il_b,
  m_app_i, m_app_p, m_app_rs, m_app_b, m_rev_i, m_clr_i, m_rem_i, f_len_i, f_len_p, f_len_r, f_in_i, f_ni_i, f_ix_i, f_ix_p, f_ix_r, f_ix_b, p_fst, p_snd, f_list_i, f_list_t, f_list_r, mk_i, mk_p, mk_r, f_srt_i, f_srt_p, f_rev_i, f_rev_p, f_cat_i, f_cat_r, f_cat_p, f_rep_i, minL_map, maxL_map, sum_map, all_map, any_map, f_int1, f_intB, f_max2, f_min2,
  it_r1, it_r2, f_rg, itL_i, itL_p, itL_r, itL_b, itS_i, itS_r, f_lstM, f_lst0, f_lst1, f_lst2, f_lst3, f_lst4, f_lst5, f_lst6, f_lstr1, f_lstr2, f_eq_i, f_ne_i, f_eq_r, f_ne_r, f_eq_p, f_ne_p, f_eq_bl, f_ne_bl, rd_i, rd_b, rd_p, rd_rs, y_size, y_ties, y_wired, y_near, o_neighbours,
  isi_int, f_setL, f_srtU, f_srtS, f_is_bl, f_isn_bl, isi_bl, fr_dic, dic_nil, sl_dic, f_din, f_dni, f_dix, f_dic1, x_rdD, rd_dic, s_setD, set_dic, upF_const, o_ties, r_ties, isi_int_bl, isi_tup, isi_lst, isi_lt, sgx, spx, sgo, spo, og_nil, op_nil, restS, wipeS,
  List.getElem?_cons_zero, List.getElem?_cons_succ, List.set_cons_zero, List.set_cons_succ, List.getD_cons_zero, List.getD_cons_succ, List.cons_append, List.nil_append, List.append_nil, List.length_cons, List.length_nil, List.replicate_succ, List.replicate_zero, Nat.reduceSub, Nat.reduceAdd, true_and, and_true])
/-- what may stand in a list -/
inductive El : D → Prop where
  | int (i : Int) (h : i.natAbs < 10 ^ 45) : El (.int i)
  | bl (b : Bool) : El (.bl b)
  | non : El .non
  | s0 : El (.str "0")
  | l0 : El (.lst [.int 0])
  | t0 : El (.tup [.int 0])
/-- what may be asked -/
inductive Th : D → Prop where
  | lst (es : List D) (h : ∀ e ∈ es, El e) : Th (.lst es)
  | tup (es : List D) (h : ∀ e ∈ es, El e) : Th (.tup es)
  | int (i : Int) (h : i.natAbs < 10 ^ 45) : Th (.int i)
  | bl (b : Bool) : Th (.bl b)
  | non : Th .non
  | s0 : Th (.str "0")
  | s1 : Th (.str "")
  | s2 : Th (.str "post")
  | d0 : Th (.dic [] [])
  | d1 : Th (.dic [.inr "a"] [.int 1])
def isIntE : D → Bool
  | .int _ => true
  | _ => false
def postE (size : Int) : D → Bool
  | .int v => decide (0 ≤ v ∧ v < size)
  | _ => false
variable {n : Nat} {size : Int} {es : List D} {ws : List Int}
theorem posts_or (size : Int) (es : List D) : (∃ ws : List Int, es = ws.map D.int ∧ ∀ w ∈ ws, 0 ≤ w ∧ w < size) ∨ es.all (postE size) = false := by
  induction es with
  | nil => exact .inl ⟨[], rfl, fun w hw => nomatch hw⟩
  | cons e es ih =>
    cases hp : postE size e with
    | false => exact .inr (by rw [List.all_cons, hp]; rfl)
    | true =>
      rcases ih with ⟨ws, e1, h⟩ | h
      · obtain ⟨v, rfl, h0, h1⟩ : ∃ v, e = .int v ∧ 0 ≤ v ∧ v < size := by
          cases e <;> first | exact ⟨_, rfl, of_decide_eq_true hp⟩ | cases hp
        exact .inl ⟨v :: ws, by rw [e1]; rfl, fun w hw => by
          rcases List.mem_cons.mp hw with z | z
          · rw [z]; exact ⟨h0, h1⟩
          · exact h w z⟩
      · exact .inr (by rw [List.all_cons, h, Bool.and_false])
/-- a set of posts -/
def setD (size : Int) : D → Bool
  | .lst es => es.all (postE size) && setB (es.map fun e => match e with | .int v => v | _ => 0)
  | _ => false
theorem setD_ints (h : ∀ w ∈ ws, 0 ≤ w ∧ w < size) : setD size (iD ws) = setB ws := by
  show ((ws.map D.int).all (postE size) && setB ((ws.map D.int).map _)) = _
  have e1 : (ws.map D.int).all (postE size) = true := List.all_eq_true.mpr fun d hd => by
    obtain ⟨w, hw, rfl⟩ := List.mem_map.mp hd
    exact decide_eq_true (h w hw)
  rw [e1, Bool.true_and, List.map_map]
  congr 1
  conv => rhs; rw [← List.map_id' ws]
  exact List.map_congr_left fun _ _ => rfl
end W

/-! T66: things of any kind: they have a repr, and are asked what they are. -/
namespace W
open PySem PySem.Spec PyProof.Rows L2 Z
local macro_rules | `(tactic| walk_at "w") => `(tactic| simp only [↓len_r1i, ↓len_r1p, ↓len_r1r, w_mC, w_mVar, w_m2x, w_m1x, w_mTst, w_mAnd, w_mOr, w_mNot, w_mIf, w_mBl, w_mFr, w_mSh, w_mCons, w_mRd, w_mRv, w_pVar, w_pIx, w_mCh, w_mYes', w_m2N, w_m1N, w_mStar, w_mSeq, w_mSl, w_mPart, x_mLook, x_mUse, x_mMov, x_mItV, x_mut, x_comp,
  s_next, s_seq, s_if, s_ret, s_asg, s_sto, s_own, s_drop, s_setI, s_augI, s_aug, s_bad, s_retN, s_brk, s_cnt, s_par, s_for,
  x_call1, x_call2, x_call3, x_call4, x_call5, x_call1s, x_call2s, x_call2t, x_call3s, x_call3t, x_call3u, x_call1b, x_call2b, x_call3b, x_call4b, m_app_os, f_in_t2, f_ni_t2, x_compIt, wdic_pl, x_compK, f_dniK, items_i, f_inD_r, f_niD_r, m_ext_i, w_mSlT, x_c_ss, x_c_dss, x_c_sddd, x_c_ddsd, x_c_ddds, x_meth3, x_meth2s, x_meth2t, x_callP, x_mk0, o_leaves, o_path, o_ties, o_rewired, f_itT, set_rs, f_lstr3, f_tup3d, zp_i, f_r3, f_rev_r, wi_l0, og_l0, op_l0, f_lent, f_ni_b, ls_b, fr_t0, fr_pn, fr_ln, fr_os, il_os, sl_os, fr_ot, il_ot, fr_shd, oix_t1, x_meth0, x_meth1, x_meth2, x_meth1s, x_set, set_i, set_b, en_i, en_p, en_r, f_tupO2, f_tupO3, f_tup2d, fr_t2, fr_t3, slt_ow, ix_t0, ix_t1, ix_t2, wi_t0, wi_t1, og_t0, og_t1, op_t0, op_t1, f_eq_t2, f_ne_t2, o_size, o_wired, r_size, r_wired, x_mk, mk_ok, cut_map, ls_i, ls_r, ls_p, lst_rs, lst_is,
  f_add, f_sub, f_lt, f_le, f_gt, f_ge, f_mod, f_div, f_mul, f_eq, f_ne, f_neg, b_bl, l_sh, v_pl, o_ow, o_own, a_pl, k_pl, k_ow, u_pl, u_ow, mv_pl, mv_ow, i1_int, par2_ok, wF_some, g_nm, f_tp, g_cons, g_nil, wF_map,
  fr_i, fr_p, fr_rs, fr_b, fr_sh, sl_i, sl_p, sl_rs, sl_b, sl_sh, itv_i, itv_p, itv_rs, sq_i, sq_p, sq_r, is_i, is_p, is_r, il_i, il_p, il_rs, il_b,
  m_app_i, m_app_p, m_app_rs, m_app_b, m_rev_i, m_clr_i, m_rem_i, f_len_i, f_len_p, f_len_r, f_in_i, f_ni_i, f_ix_i, f_ix_p, f_ix_r, f_ix_b, p_fst, p_snd, f_list_i, f_list_t, f_list_r, mk_i, mk_p, mk_r, f_srt_i, f_srt_p, f_rev_i, f_rev_p, f_cat_i, f_cat_r, f_cat_p, f_rep_i, minL_map, maxL_map, sum_map, all_map, any_map, f_int1, f_intB, f_max2, f_min2,
  it_r1, it_r2, f_rg, itL_i, itL_p, itL_r, itL_b, itS_i, itS_r, f_lstM, f_lst0, f_lst1, f_lst2, f_lst3, f_lst4, f_lst5, f_lst6, f_lstr1, f_lstr2, f_eq_i, f_ne_i, f_eq_r, f_ne_r, f_eq_p, f_ne_p, f_eq_bl, f_ne_bl, rd_i, rd_b, rd_p, rd_rs, y_size, y_ties, y_wired, y_near, o_neighbours,
  isi_int, f_setL, f_srtU, f_srtS, f_is_bl, f_isn_bl, isi_bl, fr_dic, dic_nil, sl_dic, f_din, f_dni, f_dix, f_dic1, x_rdD, rd_dic, s_setD, set_dic, upF_const, o_ties, r_ties, isi_int_bl, isi_tup, isi_lst, isi_lt, sgx, spx, sgo, spo, og_nil, op_nil, restS, wipeS,
  List.getElem?_cons_zero, List.getElem?_cons_succ, List.set_cons_zero, List.set_cons_succ, List.getD_cons_zero, List.getD_cons_succ, List.cons_append, List.nil_append, List.append_nil, List.length_cons, List.length_nil, List.replicate_succ, List.replicate_zero, Nat.reduceSub, Nat.reduceAdd, true_and, and_true])
local macro_rules | `(tactic| walk_at "v") => `(tactic| simp only [↓len_r1i, ↓len_r1p, ↓len_r1r, w_mC, w_mVar, w_m2x, w_m1x, w_mTst, w_mAnd, w_mOr, w_mNot, w_mIf, w_mBl, w_mFr, w_mSh, w_mCons, w_mRd, w_mRv, w_pVar, w_pIx, w_mCh, w_mYes', w_m2N, w_m1N, w_mStar, w_mSeq, w_mSl, w_mPart, x_mLook, x_mUse, x_mMov, x_mItV, x_mut, x_comp,
  s_next, q_seq, kq_n, kq_r, kq_b, kq_c, s_ret, s_asg, s_sto, s_own, s_drop, s_setI, s_augI, s_aug, s_bad, s_retN, s_brk, s_cnt, s_par, s_for,
  x_call1, x_call2, x_call3, x_call4, x_call5, x_call1s, x_call2s, x_call2t, x_call3s, x_call3t, x_call3u, x_call1b, x_call2b, x_call3b, x_call4b, m_app_os, f_in_t2, f_ni_t2, x_compIt, wdic_pl, x_compK, f_dniK, items_i, f_inD_r, f_niD_r, m_ext_i, w_mSlT, x_c_ss, x_c_dss, x_c_sddd, x_c_ddsd, x_c_ddds, x_meth3, x_meth2s, x_meth2t, x_callP, x_mk0, o_leaves, o_path, o_ties, o_rewired, f_itT, set_rs, f_lstr3, f_tup3d, zp_i, f_r3, f_rev_r, wi_l0, og_l0, op_l0, f_lent, f_ni_b, ls_b, fr_t0, fr_pn, fr_ln, fr_os, il_os, sl_os, fr_ot, il_ot, fr_shd, oix_t1, x_meth0, x_meth1, x_meth2, x_meth1s, x_set, set_i, set_b, en_i, en_p, en_r, f_tupO2, f_tupO3, f_tup2d, fr_t2, fr_t3, slt_ow, ix_t0, ix_t1, ix_t2, wi_t0, wi_t1, og_t0, og_t1, op_t0, op_t1, f_eq_t2, f_ne_t2, o_size, o_wired, r_size, r_wired, x_mk, mk_ok, cut_map, ls_i, ls_r, ls_p, lst_rs, lst_is,
  f_add, f_sub, f_lt, f_le, f_gt, f_ge, f_mod, f_div, f_mul, f_eq, f_ne, f_neg, b_bl, l_sh, v_pl, o_ow, o_own, a_pl, k_pl, k_ow, u_pl, u_ow, mv_pl, mv_ow, i1_int, par2_ok, wF_some, g_nm, f_tp, g_cons, g_nil, wF_map,
  fr_i, fr_p, fr_rs, fr_b, fr_sh, sl_i, sl_p, sl_rs, sl_b, sl_sh, itv_i, itv_p, itv_rs, sq_i, sq_p, sq_r, is_i, is_p, is_r, il_i, il_p, il_rs, il_b,
  m_app_i, m_app_p, m_app_rs, m_app_b, m_rev_i, m_clr_i, m_rem_i, f_len_i, f_len_p, f_len_r, f_in_i, f_ni_i, f_ix_i, f_ix_p, f_ix_r, f_ix_b, p_fst, p_snd, f_list_i, f_list_t, f_list_r, mk_i, mk_p, mk_r, f_srt_i, f_srt_p, f_rev_i, f_rev_p, f_cat_i, f_cat_r, f_cat_p, f_rep_i, minL_map, maxL_map, sum_map, all_map, any_map, f_int1, f_intB, f_max2, f_min2,
  it_r1, it_r2, f_rg, itL_i, itL_p, itL_r, itL_b, itS_i, itS_r, f_lstM, f_lst0, f_lst1, f_lst2, f_lst3, f_lst4, f_lst5, f_lst6, f_lstr1, f_lstr2, f_eq_i, f_ne_i, f_eq_r, f_ne_r, f_eq_p, f_ne_p, f_eq_bl, f_ne_bl, rd_i, rd_b, rd_p, rd_rs, y_size, y_ties, y_wired, y_near, o_neighbours,
  isi_int, f_setL, f_srtU, f_srtS, f_is_bl, f_isn_bl, isi_bl, fr_dic, dic_nil, sl_dic, f_din, f_dni, f_dix, f_dic1, x_rdD, rd_dic, s_setD, set_dic, upF_const, o_ties, r_ties, isi_int_bl, isi_tup, isi_lst, isi_lt, sgx, spx, sgo, spo, og_nil, op_nil, restS, wipeS,
  List.getElem?_cons_zero, List.getElem?_cons_succ, List.set_cons_zero, List.set_cons_succ, List.getD_cons_zero, List.getD_cons_succ, List.cons_append, List.nil_append, List.append_nil, List.length_cons, List.length_nil, List.replicate_succ, List.replicate_zero, Nat.reduceSub, Nat.reduceAdd, true_and, and_true])
/-- it has a repr, of depth at most k -/
def Rp (k : Nat) (d : D) : Prop := ∃ p, toPyX d = some p ∧ p.depth ≤ k ∧ p.showable = true ∧ OkS p.shown
def tl (d : D) : Nat := ((toPyX d).map fun p => p.shown.length).getD 0
def tlL (ds : List D) : Nat := (ds.map fun d => tl d + 2).sum
variable {k w : Nat} {d : D} {ds es : List D}
theorem tlL_app : tlL (ds ++ es) = tlL ds + tlL es := by
  unfold tlL
  rw [List.map_append, List.sum_append]
theorem tlL_cons : tlL (d :: ds) = tl d + 2 + tlL ds := by
  unfold tlL
  rw [List.map_cons, List.sum_cons]
theorem tlL_nil : tlL [] = 0 := rfl
theorem tlL_take {n : Nat} : tlL (ds.take n) ≤ tlL ds := by
  have h : tlL (ds.take n ++ ds.drop n) = tlL ds := by rw [List.take_append_drop]
  rw [tlL_app] at h
  omega
theorem tlL_drop {n : Nat} : tlL (ds.drop n) ≤ tlL ds := by
  have h : tlL (ds.take n ++ ds.drop n) = tlL ds := by rw [List.take_append_drop]
  rw [tlL_app] at h
  omega
theorem tlL_cut {lo hi : Option Int} : tlL (Z.cutD ds lo hi) ≤ tlL ds := Nat.le_trans tlL_take tlL_drop
theorem tlL_rev : tlL ds.reverse = tlL ds := by
  unfold tlL
  rw [List.map_reverse, List.sum_reverse]
theorem Rp.up {k' : Nat} (h : Rp k d) (hk : k ≤ k') : Rp k' d := by
  obtain ⟨p, h1, h2, h3, h4⟩ := h
  exact ⟨p, h1, Nat.le_trans h2 hk, h3, h4⟩
theorem rp_list : ∀ {ds : List D}, (∀ d ∈ ds, Rp k d) → ∃ ps, toPyXL ds = some ps ∧ PyData.depthAll ps ≤ k ∧ PyData.showableAll ps = true ∧ (∀ t ∈ PyData.shownAll ps, OkS t) ∧ ((PyData.shownAll ps).map (·.length)).sum + 2 * (PyData.shownAll ps).length = tlL ds
  | [], _ => ⟨[], rfl, Nat.zero_le _, rfl, fun t ht => by simp [PyData.shownAll] at ht, rfl⟩
  | d :: ds, h => by
    obtain ⟨p, h1, h2, h3, h4⟩ := h d List.mem_cons_self
    obtain ⟨ps, g1, g2, g3, g4, g5⟩ := rp_list fun x hx => h x (List.mem_cons_of_mem _ hx)
    refine ⟨p :: ps, ?_, ?_, ?_, fun t ht => ?_, ?_⟩
    · unfold toPyXL
      rw [h1, g1]
    · show max p.depth (PyData.depthAll ps) ≤ k
      omega
    · show (p.showable && PyData.showableAll ps) = true
      rw [h3, g3]
      rfl
    · have ht' : t ∈ PyData.shown p :: PyData.shownAll ps := ht
      rcases List.mem_cons.mp ht' with e | e
      · rw [e]; exact h4
      · exact g4 t e
    · show ((p.shown :: PyData.shownAll ps).map (·.length)).sum + 2 * (p.shown :: PyData.shownAll ps).length = _
      have e1 : tl d = p.shown.length := by unfold tl; rw [h1]; rfl
      rw [List.map_cons, List.sum_cons, List.length_cons, tlL_cons, e1]
      omega
theorem rp_lst (h : ∀ d ∈ ds, Rp k d) : Rp (k + 1) (.lst ds) ∧ tl (.lst ds) ≤ tlL ds + 3 := by
  obtain ⟨ps, h1, h2, h3, h4, h5⟩ := rp_list h
  have e1 : toPyX (.lst ds) = some (.list ps) := by unfold toPyX; rw [h1]; rfl
  refine ⟨⟨.list ps, e1, ?_, h3, ?_⟩, ?_⟩
  · show PyData.depthAll ps + 1 ≤ k + 1
    omega
  · show OkS (listText (PyData.shownAll ps))
    exact okS_app (okS_from _ _ _ h4 (okS_of _)) (okS_of _)
  · unfold tl
    rw [e1]
    show (listText (PyData.shownAll ps)).length ≤ _
    have := listText_len_le (PyData.shownAll ps)
    omega
theorem rp_tup (h : ∀ d ∈ ds, Rp k d) : Rp (k + 1) (.tup ds) ∧ tl (.tup ds) ≤ tlL ds + 3 := by
  obtain ⟨ps, h1, h2, h3, h4, h5⟩ := rp_list h
  have e1 : toPyX (.tup ds) = some (.tuple ps) := by unfold toPyX; rw [h1]; rfl
  refine ⟨⟨.tuple ps, e1, ?_, h3, ?_⟩, ?_⟩
  · show PyData.depthAll ps + 1 ≤ k + 1
    omega
  · show OkS (tupleText (PyData.shownAll ps))
    exact okS_app (okS_app (okS_of _) (okS_join _ _ h4)) (okS_of _)
  · unfold tl
    rw [e1]
    show (tupleText (PyData.shownAll ps)).length ≤ _
    have := tupleText_len_le (PyData.shownAll ps)
    omega
theorem rp_repr (h : Rp k d) (hk : k ≤ 60) (hw : tl d ≤ 1000000) : ∃ x : Str, PyData.strOk x = true ∧ fReprX [d] = some (.str x) := by
  obtain ⟨p, h1, h2, h3, h4⟩ := h
  have e1 : tl d = p.shown.length := by unfold tl; rw [h1]; rfl
  have ho : repOkX p = true := by
    unfold repOkX
    rw [h3, decide_eq_true (show p.depth ≤ 60 by omega), decide_eq_true (show p.shown.length ≤ sizeLine by rw [sl_16]; omega)]
    rfl
  refine ⟨p.shown, okS_strOk h4, ?_⟩
  show ((toPyX d).bind fun p => match repOkX p with
    | true => some (D.str p.shown)
    | false => none) = _
  rw [h1, Option.bind_some, ho]
theorem rp_int {i : Int} (h : i.natAbs < 10 ^ 45) : Rp 0 (.int i) ∧ tl (.int i) ≤ 50 := by
  obtain ⟨p, h1, h2, h3⟩ := td_int h
  refine ⟨⟨p, h2, h3.dep, h3.shw, h3.ok⟩, ?_⟩
  cases h2
  show (Str.ofString (toString i)).length ≤ 50
  have e := int_text_length_le10 (k := 45) (by decide) h
  rw [PySem.ofString_length]
  omega
theorem rp_non : Rp 0 .non ∧ tl .non ≤ 50 := ⟨⟨.none, rfl, Nat.zero_le _, rfl, okS_of _⟩, by decide +kernel⟩
theorem rp_bl {b : Bool} : Rp 0 (.bl b) ∧ tl (.bl b) ≤ 50 := ⟨⟨.bool b, rfl, Nat.zero_le _, rfl, by cases b <;> exact okS_of _⟩, by cases b <;> decide +kernel⟩
theorem rp_str {x : Str} (h1 : OkS (PyData.shown (.str x))) (h3 : (PyData.str x).showable = true) (h2 : (PyData.shown (.str x)).length ≤ 50) : Rp 0 (.str x) ∧ tl (.str x) ≤ 50 := ⟨⟨.str x, rfl, Nat.zero_le _, h3, h1⟩, h2⟩
theorem rp_d0 : Rp 1 (.dic [] []) ∧ tl (.dic [] []) ≤ 50 := ⟨⟨.dict [], rfl, by decide +kernel, by decide +kernel, okS_all (by decide +kernel)⟩, by decide +kernel⟩
theorem rp_d1 : Rp 1 (.dic [.inr "a"] [.int 1]) ∧ tl (.dic [.inr "a"] [.int 1]) ≤ 50 := ⟨⟨.dict [(.str "a", .int 1)], rfl, by decide +kernel, by decide +kernel, okS_all (by decide +kernel)⟩, by decide +kernel⟩
theorem any_whole (h : Rp k d) : rO (f__law_whole [.pl d]) = some (.sh (.bl (isIntE d))) := by
  obtain ⟨p, h1, _⟩ := h
  cases d with
  | obj => unfold toPyX at h1; cases h1
  | fls => unfold toPyX at h1; cases h1
  | _ => rfl
theorem any_post {size : Int} (h : Rp k d) : rO (f_is_post [.pl d, .pl (.int size)]) = some (.sh (.bl (postE size d))) := by
  obtain ⟨p, h1, _⟩ := h
  cases d with
  | int i => exact rO_of (is_post_ok fun S => rfl)
  | obj => unfold toPyX at h1; cases h1
  | fls => unfold toPyX at h1; cases h1
  | _ => rfl
theorem itS_l {es : List D} {P : List D → Prop} : wF (itS (.lst es)) P = P (es.map fun d => d) := by
  rw [List.map_id']
  rfl
theorem fr_lst {xs : List D} : fr (O.lst (xs.map O.sh)) = .lst xs := by
  show D.lst (frL _) = _
  rw [frL_sh]
theorem fr_lst2 {xs : List D} : fr (O.lst (List.map O.sh (List.map (fun e => e) xs))) = .lst xs := by
  rw [List.map_id']
  exact fr_lst
/-- it can be compared -/
def Lp (k : Nat) (d : D) : Prop := ∃ p, toPy d = some p ∧ p.canLay0 = true ∧ p.depth ≤ k
theorem Lp.up {k' : Nat} (h : Lp k d) (hk : k ≤ k') : Lp k' d := by
  obtain ⟨p, h1, h2, h3⟩ := h
  exact ⟨p, h1, h2, Nat.le_trans h3 hk⟩
theorem lp_list : ∀ {ds : List D}, (∀ d ∈ ds, Lp k d) → ∃ ps, toPyL ds = some ps ∧ PyData.canLayAll0 ps = true ∧ PyData.depthAll ps ≤ k ∧ ps.length = ds.length
  | [], _ => ⟨[], rfl, rfl, Nat.zero_le _, rfl⟩
  | d :: ds, h => by
    obtain ⟨p, h1, h2, h3⟩ := h d List.mem_cons_self
    obtain ⟨ps, g1, g2, g3, g4⟩ := lp_list fun x hx => h x (List.mem_cons_of_mem _ hx)
    refine ⟨p :: ps, ?_, ?_, ?_, by rw [List.length_cons, List.length_cons, g4]⟩
    · unfold toPyL
      rw [h1, g1]
    · show (p.canLay0 && PyData.canLayAll0 ps) = true
      rw [h2, g2]
      rfl
    · show max p.depth (PyData.depthAll ps) ≤ k
      omega
theorem lp_lst (h : ∀ d ∈ ds, Lp k d) : Lp (k + 1) (.lst ds) := by
  obtain ⟨ps, h1, h2, h3, _⟩ := lp_list h
  exact ⟨.list ps, by unfold toPy; rw [h1]; rfl, h2, by show PyData.depthAll ps + 1 ≤ k + 1; omega⟩
theorem lp_tup (h : ∀ d ∈ ds, Lp k d) : Lp (k + 1) (.tup ds) := by
  obtain ⟨ps, h1, h2, h3, _⟩ := lp_list h
  exact ⟨.tuple ps, by unfold toPy; rw [h1]; rfl, h2, by show PyData.depthAll ps + 1 ≤ k + 1; omega⟩
theorem lp_of {w : Nat} (h : TD k w d) : Lp k d := by
  obtain ⟨p, h1, _, h2⟩ := h
  exact ⟨p, h1, h2.can, h2.dep⟩
theorem eqB_nil (h : ∀ e ∈ es, Lp k e) (hk : k ≤ 60) : eqB (.lst es) (.lst []) = some es.isEmpty := by
  obtain ⟨ps, h1, h2, h3, h4⟩ := lp_list h
  have hs : SeqAt.shaped (.list ps) = true := by
    unfold SeqAt.shaped
    rw [show PyData.canLay0 (.list ps) = true from h2, decide_eq_true (show _ ≤ 64 by show PyData.depthAll ps + 1 ≤ 64; omega)]
    rfl
  refine eqB_of (p := .list ps) (q := .list []) (by unfold toPy; rw [h1]; rfl) rfl hs rfl ?_
  cases es with
  | nil =>
    cases (show some [] = some ps from h1)
    rfl
  | cons e es =>
    cases ps with
    | nil => cases h4
    | cons p ps => rfl
theorem eq_nil (h : ∀ e ∈ es, Lp k e) (hk : k ≤ 60) {P : D → Prop} : wF (dEq (.lst es) (.lst [])) P = P (.bl es.isEmpty) := by
  unfold dEq
  rw [eqB_nil h hk]
  rfl
theorem ne_nil (h : ∀ e ∈ es, Lp k e) (hk : k ≤ 60) {P : D → Prop} : wF (dNe (.lst es) (.lst [])) P = P (.bl (!es.isEmpty)) := by
  unfold dNe
  rw [eqB_nil h hk]
  rfl
/-- what may stand in a list; things of at most so many items -/
def Ep (k : Nat) (d : D) : Prop := Rp k d ∧ Lp k d
theorem Ep.up {k' : Nat} (h : Ep k d) (hk : k ≤ k') : Ep k' d := ⟨h.1.up hk, h.2.up hk⟩
def Tt (k w l : Nat) (d : D) : Prop := Rp k d ∧ tl d ≤ w ∧ ∀ es, d = .lst es → (∀ e ∈ es, Ep k e) ∧ tlL es ≤ w ∧ es.length ≤ l
theorem Tt.up {k' w' l l' : Nat} (h : Tt k w l d) (hk : k ≤ k') (hw : w ≤ w') (hl : l ≤ l') : Tt k' w' l' d := ⟨h.1.up hk, Nat.le_trans h.2.1 hw, fun es he => by
  obtain ⟨h1, h2, h3⟩ := h.2.2 es he
  exact ⟨fun e he => (h1 e he).up hk, by omega, by omega⟩⟩
theorem ep_lst (h : ∀ d ∈ ds, Ep k d) : Ep (k + 1) (.lst ds) := ⟨(rp_lst fun d hd => (h d hd).1).1, lp_lst fun d hd => (h d hd).2⟩
theorem ep_tup (h : ∀ d ∈ ds, Ep k d) : Ep (k + 1) (.tup ds) := ⟨(rp_tup fun d hd => (h d hd).1).1, lp_tup fun d hd => (h d hd).2⟩
theorem tt_lst {l : Nat} (h : ∀ d ∈ ds, Ep k d) (hw : tlL ds + 3 ≤ w) (hl : ds.length ≤ l) : Tt (k + 1) w l (.lst ds) := ⟨(ep_lst h).1, Nat.le_trans (rp_lst fun d hd => (h d hd).1).2 hw, fun es he => by
  cases he
  exact ⟨fun e he => (h e he).up (Nat.le_succ k), by omega, hl⟩⟩
theorem tt_tup {l : Nat} (h : ∀ d ∈ ds, Rp k d) (hw : tlL ds + 3 ≤ w) : Tt (k + 1) w l (.tup ds) := ⟨(rp_tup h).1, Nat.le_trans (rp_tup h).2 hw, fun es he => by cases he⟩
theorem ep_int {i : Int} (h : i.natAbs < 10 ^ 45) : Ep 0 (.int i) ∧ tl (.int i) ≤ 50 := ⟨⟨(rp_int h).1, lp_of (td_int h)⟩, (rp_int h).2⟩
theorem ep_non : Ep 0 .non ∧ tl .non ≤ 50 := ⟨⟨rp_non.1, lp_of (td_non (w := 0))⟩, rp_non.2⟩
theorem ep_bl {b : Bool} : Ep 0 (.bl b) ∧ tl (.bl b) ≤ 50 := ⟨⟨rp_bl.1, lp_of (td_bl (w := 0))⟩, rp_bl.2⟩
theorem ep_str {x : Str} (h1 : OkS (PyData.shown (.str x))) (h3 : (PyData.str x).showable = true) (h2 : (PyData.shown (.str x)).length ≤ 50) (hc : PyData.canLay0 (.str x) = true) : Ep 0 (.str x) ∧ tl (.str x) ≤ 50 := ⟨⟨(rp_str h1 h3 h2).1, ⟨.str x, rfl, hc, Nat.le_refl _⟩⟩, h2⟩
theorem small_45 {v : Int} (h : v.natAbs < 1000) : v.natAbs < 10 ^ 45 := Nat.lt_of_lt_of_le h (by decide +kernel)
theorem ep_one (h : Ep k d) : ∀ e ∈ [d], Ep k e := fun e he => by rw [List.mem_singleton.mp he]; exact h
theorem isi_ly {es : List D} {P : D → Prop} : wF (dIsi (isT .lst) noO (.lst es)) P = P (.bl true) := propext Iff.rfl
theorem isi_ln (h : Rp k d) (hn : ∀ es, d ≠ .lst es) {P : D → Prop} : wF (dIsi (isT .lst) noO d) P = P (.bl false) := by
  obtain ⟨p, h1, _⟩ := h
  cases d with
  | lst es => exact absurd rfl (hn es)
  | obj => unfold toPyX at h1; cases h1
  | fls => unfold toPyX at h1; cases h1
  | _ => exact propext Iff.rfl
end W

/-! T65: odd things -/
namespace W
open PySem PySem.Spec PyProof.Rows L2 Z
local macro_rules | `(tactic| walk_at "w") => `(tactic| simp only [↓len_r1i, ↓len_r1p, ↓len_r1r, w_mC, w_mVar, w_m2x, w_m1x, w_mTst, w_mAnd, w_mOr, w_mNot, w_mIf, w_mBl, w_mFr, w_mSh, w_mCons, w_mRd, w_mRv, w_pVar, w_pIx, w_mCh, w_mYes', w_m2N, w_m1N, w_mStar, w_mSeq, w_mSl, w_mPart, x_mLook, x_mUse, x_mMov, x_mItV, x_mut, x_comp,
  s_next, s_seq, s_if, s_ret, s_asg, s_sto, s_own, s_drop, s_setI, s_augI, s_aug, s_bad, s_retN, s_brk, s_cnt, s_par, s_for,
  x_call1, x_call2, x_call3, x_call4, x_call5, x_call1s, x_call2s, x_call2t, x_call3s, x_call3t, x_call3u, x_call1b, x_call2b, x_call3b, x_call4b, m_app_os, f_in_t2, f_ni_t2, x_compIt, wdic_pl, x_compK, f_dniK, items_i, f_inD_r, f_niD_r, m_ext_i, w_mSlT, x_c_ss, x_c_dss, x_c_sddd, x_c_ddsd, x_c_ddds, x_meth3, x_meth2s, x_meth2t, x_callP, x_mk0, o_leaves, o_path, o_ties, o_rewired, f_itT, set_rs, f_lstr3, f_tup3d, zp_i, f_r3, f_rev_r, wi_l0, og_l0, op_l0, f_lent, f_ni_b, ls_b, fr_t0, fr_pn, fr_ln, fr_os, il_os, sl_os, fr_ot, il_ot, fr_shd, oix_t1, x_meth0, x_meth1, x_meth2, x_meth1s, x_set, set_i, set_b, en_i, en_p, en_r, f_tupO2, f_tupO3, f_tup2d, fr_t2, fr_t3, slt_ow, ix_t0, ix_t1, ix_t2, wi_t0, wi_t1, og_t0, og_t1, op_t0, op_t1, f_eq_t2, f_ne_t2, o_size, o_wired, r_size, r_wired, x_mk, mk_ok, cut_map, ls_i, ls_r, ls_p, lst_rs, lst_is,
  f_add, f_sub, f_lt, f_le, f_gt, f_ge, f_mod, f_div, f_mul, f_eq, f_ne, f_neg, b_bl, l_sh, v_pl, o_ow, o_own, a_pl, k_pl, k_ow, u_pl, u_ow, mv_pl, mv_ow, i1_int, par2_ok, wF_some, g_nm, f_tp, g_cons, g_nil, wF_map,
  fr_i, fr_p, fr_rs, fr_b, fr_sh, sl_i, sl_p, sl_rs, sl_b, sl_sh, itv_i, itv_p, itv_rs, sq_i, sq_p, sq_r, is_i, is_p, is_r, il_i, il_p, il_rs, il_b,
  m_app_i, m_app_p, m_app_rs, m_app_b, m_rev_i, m_clr_i, m_rem_i, f_len_i, f_len_p, f_len_r, f_in_i, f_ni_i, f_ix_i, f_ix_p, f_ix_r, f_ix_b, p_fst, p_snd, f_list_i, f_list_t, f_list_r, mk_i, mk_p, mk_r, f_srt_i, f_srt_p, f_rev_i, f_rev_p, f_cat_i, f_cat_r, f_cat_p, f_rep_i, minL_map, maxL_map, sum_map, all_map, any_map, f_int1, f_intB, f_max2, f_min2,
  it_r1, it_r2, f_rg, itL_i, itL_p, itL_r, itL_b, itS_i, itS_r, f_lstM, f_lst0, f_lst1, f_lst2, f_lst3, f_lst4, f_lst5, f_lst6, f_lstr1, f_lstr2, f_eq_i, f_ne_i, f_eq_r, f_ne_r, f_eq_p, f_ne_p, f_eq_bl, f_ne_bl, rd_i, rd_b, rd_p, rd_rs, y_size, y_ties, y_wired, y_near, o_neighbours,
  isi_int, f_setL, f_srtU, f_srtS, f_is_bl, f_isn_bl, isi_bl, fr_dic, dic_nil, sl_dic, f_din, f_dni, f_dix, f_dic1, x_rdD, rd_dic, s_setD, set_dic, upF_const, o_ties, r_ties, isi_int_bl, isi_tup, isi_lst, isi_lt, sgx, spx, sgo, spo, og_nil, op_nil, restS, wipeS,
  List.getElem?_cons_zero, List.getElem?_cons_succ, List.set_cons_zero, List.set_cons_succ, List.getD_cons_zero, List.getD_cons_succ, List.cons_append, List.nil_append, List.append_nil, List.length_cons, List.length_nil, List.replicate_succ, List.replicate_zero, Nat.reduceSub, Nat.reduceAdd, true_and, and_true])
local macro_rules | `(tactic| walk_at "v") => `(tactic| simp only [↓len_r1i, ↓len_r1p, ↓len_r1r, w_mC, w_mVar, w_m2x, w_m1x, w_mTst, w_mAnd, w_mOr, w_mNot, w_mIf, w_mBl, w_mFr, w_mSh, w_mCons, w_mRd, w_mRv, w_pVar, w_pIx, w_mCh, w_mYes', w_m2N, w_m1N, w_mStar, w_mSeq, w_mSl, w_mPart, x_mLook, x_mUse, x_mMov, x_mItV, x_mut, x_comp,
  s_next, q_seq, kq_n, kq_r, kq_b, kq_c, s_ret, s_asg, s_sto, s_own, s_drop, s_setI, s_augI, s_aug, s_bad, s_retN, s_brk, s_cnt, s_par, s_for,
  x_call1, x_call2, x_call3, x_call4, x_call5, x_call1s, x_call2s, x_call2t, x_call3s, x_call3t, x_call3u, x_call1b, x_call2b, x_call3b, x_call4b, m_app_os, f_in_t2, f_ni_t2, x_compIt, wdic_pl, x_compK, f_dniK, items_i, f_inD_r, f_niD_r, m_ext_i, w_mSlT, x_c_ss, x_c_dss, x_c_sddd, x_c_ddsd, x_c_ddds, x_meth3, x_meth2s, x_meth2t, x_callP, x_mk0, o_leaves, o_path, o_ties, o_rewired, f_itT, set_rs, f_lstr3, f_tup3d, zp_i, f_r3, f_rev_r, wi_l0, og_l0, op_l0, f_lent, f_ni_b, ls_b, fr_t0, fr_pn, fr_ln, fr_os, il_os, sl_os, fr_ot, il_ot, fr_shd, oix_t1, x_meth0, x_meth1, x_meth2, x_meth1s, x_set, set_i, set_b, en_i, en_p, en_r, f_tupO2, f_tupO3, f_tup2d, fr_t2, fr_t3, slt_ow, ix_t0, ix_t1, ix_t2, wi_t0, wi_t1, og_t0, og_t1, op_t0, op_t1, f_eq_t2, f_ne_t2, o_size, o_wired, r_size, r_wired, x_mk, mk_ok, cut_map, ls_i, ls_r, ls_p, lst_rs, lst_is,
  f_add, f_sub, f_lt, f_le, f_gt, f_ge, f_mod, f_div, f_mul, f_eq, f_ne, f_neg, b_bl, l_sh, v_pl, o_ow, o_own, a_pl, k_pl, k_ow, u_pl, u_ow, mv_pl, mv_ow, i1_int, par2_ok, wF_some, g_nm, f_tp, g_cons, g_nil, wF_map,
  fr_i, fr_p, fr_rs, fr_b, fr_sh, sl_i, sl_p, sl_rs, sl_b, sl_sh, itv_i, itv_p, itv_rs, sq_i, sq_p, sq_r, is_i, is_p, is_r, il_i, il_p, il_rs, il_b,
  m_app_i, m_app_p, m_app_rs, m_app_b, m_rev_i, m_clr_i, m_rem_i, f_len_i, f_len_p, f_len_r, f_in_i, f_ni_i, f_ix_i, f_ix_p, f_ix_r, f_ix_b, p_fst, p_snd, f_list_i, f_list_t, f_list_r, mk_i, mk_p, mk_r, f_srt_i, f_srt_p, f_rev_i, f_rev_p, f_cat_i, f_cat_r, f_cat_p, f_rep_i, minL_map, maxL_map, sum_map, all_map, any_map, f_int1, f_intB, f_max2, f_min2,
  it_r1, it_r2, f_rg, itL_i, itL_p, itL_r, itL_b, itS_i, itS_r, f_lstM, f_lst0, f_lst1, f_lst2, f_lst3, f_lst4, f_lst5, f_lst6, f_lstr1, f_lstr2, f_eq_i, f_ne_i, f_eq_r, f_ne_r, f_eq_p, f_ne_p, f_eq_bl, f_ne_bl, rd_i, rd_b, rd_p, rd_rs, y_size, y_ties, y_wired, y_near, o_neighbours,
  isi_int, f_setL, f_srtU, f_srtS, f_is_bl, f_isn_bl, isi_bl, fr_dic, dic_nil, sl_dic, f_din, f_dni, f_dix, f_dic1, x_rdD, rd_dic, s_setD, set_dic, upF_const, o_ties, r_ties, isi_int_bl, isi_tup, isi_lst, isi_lt, sgx, spx, sgo, spo, og_nil, op_nil, restS, wipeS,
  List.getElem?_cons_zero, List.getElem?_cons_succ, List.set_cons_zero, List.set_cons_succ, List.getD_cons_zero, List.getD_cons_succ, List.cons_append, List.nil_append, List.append_nil, List.length_cons, List.length_nil, List.replicate_succ, List.replicate_zero, Nat.reduceSub, Nat.reduceAdd, true_and, and_true])
theorem fr_lsh {xs : List D} : fr (O.lst (xs.map O.sh)) = .lst xs := by
  show D.lst (frL _) = _
  rw [frL_sh]
theorem fr_tsh {xs : List D} : fr (O.tup (xs.map O.sh)) = .tup xs := by
  show D.tup (frL _) = _
  rw [frL_sh]
theorem f_catD {a b : List D} {P : List D → Prop} : wF (dCat (.lst a) (.lst b)) P = (a.length + b.length ≤ sizeLine ∧ P (a ++ b)) := by
  unfold dCat
  by_cases h : a.length + b.length ≤ sizeLine
  · simp only [decide_eq_true h]
    simp [wF, h]
  · simp only [decide_eq_false h]
    simp [wF, h]
theorem f_lstD {ds : List D} {P : List D → Prop} : wF (lstD (.lst ds)) P = P ds := propext Iff.rfl
theorem f_lst1D {d : D} {P : O → Prop} : wF (dLst [d]) P = P (.lst (([d] : List D).map .sh)) := propext Iff.rfl
theorem f_ixD {xs : List D} {v : Int} (h0 : 0 ≤ v) (h1 : v < xs.length) : ∃ d ∈ xs, ∀ P : D → Prop, wF (dIx (.lst xs) (.int v)) P = P d := by
  have hl : v.toNat < xs.length := by omega
  refine ⟨xs[v.toNat], List.getElem_mem hl, fun P => ?_⟩
  rw [f_ix]
  unfold atI
  rw [ixN_ok h0 (by omega)]
  simp only [Option.bind_some, List.getElem?_eq_getElem hl, wF_some]
def oddT : List D := [.non, .bl true, .bl false, .str "0", .str "", .lst [], .tup [], .dic [] [], .lst [.int 0], .tup [.int 0], .int (-1), .int (10 ^ 30), .lst [.lst [.int 0]], .dic [.inr "a"] [.int 1], .str "post", .lst [.non], .int (1 - 10 ^ 40)]
theorem odd_th : ∀ d ∈ oddT, Th d ∧ ∀ es, d = .lst es ∨ d = .tup es → es.length ≤ 1 := by
  have nl : ∀ fs : List D, fs.length ≤ 1 → ∀ es, D.lst fs = .lst es ∨ D.lst fs = .tup es → es.length ≤ 1 := fun fs h es he => by
    rcases he with he | he
    · cases he; exact h
    · cases he
  have nt : ∀ fs : List D, fs.length ≤ 1 → ∀ es, D.tup fs = .lst es ∨ D.tup fs = .tup es → es.length ≤ 1 := fun fs h es he => by
    rcases he with he | he
    · cases he
    · cases he; exact h
  have one : ∀ e : D, El e → ∀ x ∈ [e], El x := fun e he x hx => by rw [List.mem_singleton.mp hx]; exact he
  intro d hd
  unfold oddT at hd
  simp only [List.mem_cons, List.not_mem_nil, or_false] at hd
  rcases hd with rfl | rfl | rfl | rfl | rfl | rfl | rfl | rfl | rfl | rfl | rfl | rfl | rfl | rfl | rfl | rfl | rfl
  · exact ⟨.non, fun es he => by rcases he with he | he <;> cases he⟩
  · exact ⟨.bl _, fun es he => by rcases he with he | he <;> cases he⟩
  · exact ⟨.bl _, fun es he => by rcases he with he | he <;> cases he⟩
  · exact ⟨.s0, fun es he => by rcases he with he | he <;> cases he⟩
  · exact ⟨.s1, fun es he => by rcases he with he | he <;> cases he⟩
  · exact ⟨.lst _ (fun e he => nomatch he), nl _ (Nat.zero_le _)⟩
  · exact ⟨.tup _ (fun e he => nomatch he), nt _ (Nat.zero_le _)⟩
  · exact ⟨.d0, fun es he => by rcases he with he | he <;> cases he⟩
  · exact ⟨.lst _ (one _ (.int 0 (by decide))), nl _ (Nat.le_refl _)⟩
  · exact ⟨.tup _ (one _ (.int 0 (by decide))), nt _ (Nat.le_refl _)⟩
  · exact ⟨.int _ (by decide), fun es he => by rcases he with he | he <;> cases he⟩
  · exact ⟨.int _ (by decide +kernel), fun es he => by rcases he with he | he <;> cases he⟩
  · exact ⟨.lst _ (one _ .l0), nl _ (Nat.le_refl _)⟩
  · exact ⟨.d1, fun es he => by rcases he with he | he <;> cases he⟩
  · exact ⟨.s2, fun es he => by rcases he with he | he <;> cases he⟩
  · exact ⟨.lst _ (one _ .non), nl _ (Nat.le_refl _)⟩
  · exact ⟨.int _ (by decide +kernel), fun es he => by rcases he with he | he <;> cases he⟩
theorem t_oddM {B : O} {Q : O → List Sl → Prop} (hB : BagOk B) (k : ∀ (d : D) (B' : O) (S : List Sl), d ∈ oddT → BagOk B' → S.getD 0 .no = .ow B' → Q (.sh d) S) : wO (f__law_odd_thing [.ow B]) Q := by
  unfold f__law_odd_thing
  rw [wO_mk]
  unfold m__law_odd_thing
  walk_at "v"
  rw [show dTup [] = some (.tup (([] : List D).map .sh)) from rfl]
  walk_at "v"
  rw [show dTup [D.int 0] = some (.tup (([D.int 0] : List D).map .sh)) from rfl]
  walk_at "v"
  rw [show dPow (D.int 10) (D.int 30) = some (.int (10 ^ 30)) from rfl]
  walk_at "v"
  rw [show dDic1 (D.str "a") (D.int 1) = some (.dic [.inr "a"] [.sh (.int 1)]) from rfl]
  walk_at "v"
  rw [show dLst [D.non] = some (.lst (([D.non] : List D).map .sh)) from rfl]
  walk_at "v"
  rw [fr_lsh, fr_tsh, fr_tsh, show fr (O.dic [.inr (Str.ofString "a")] [.sh (.int 1)]) = .dic [.inr "a"] [.int 1] from rfl]
  rw [show dLst [D.non, D.bl true, D.bl false, D.str "0", D.str "", iD [], .tup [], dicD [] fun _ => D.non, iD [0], .tup [.int 0], D.int (-1), D.int (10 ^ 30), rD [[0]], .dic [.inr "a"] [.int 1], D.str "post", .lst [.non]] = some (.lst ((oddT.take 16).map .sh)) from rfl]
  walk_at "v"
  rw [show dPow (D.int 10) (D.int 40) = some (.int (10 ^ 40)) from rfl]
  walk_at "v"
  rw [fr_lsh, show iD [1 - 10 ^ 40] = D.lst [D.int (1 - 10 ^ 40)] from rfl, f_catD]
  refine ⟨by rw [sizeLine_eq]; exact Nat.le_of_ble_eq_true rfl, ?_⟩
  rw [f_mkT, fr_lsh, show oddT.take 16 ++ [D.int (1 - 10 ^ 40)] = oddT from rfl]
  refine t_take hB (by omega) fun r B1 S1 r0 r1 hB1 e1 => ?_
  simp only [e1]
  walk_at "v"
  obtain ⟨d, hd, ex⟩ := f_ixD (xs := oddT) r0 (by show r < 17; omega)
  rw [ex]
  exact k d B1 _ hd hB1 rfl
theorem six_nat {m d : Nat} {v : Int} (h : 0 ≤ v) : HT.sIx m d (some v) = min v.toNat m := by
  show (if v < 0 then (v + (m : Int)).toNat else min v.toNat m) = _
  rw [if_neg (by omega)]
theorem cut_to {ds : List D} {v : Int} (h : 0 ≤ v) : (Z.cutD ds none (some v)).length = min v.toNat ds.length := by
  unfold Z.cutD
  rw [six_nat h, List.length_take, List.length_drop]
  show min (min v.toNat ds.length - 0) (ds.length - 0) = _
  omega
theorem cut_from {ds : List D} {v : Int} (h : 0 ≤ v) : (Z.cutD ds (some v) none).length = ds.length - v.toNat := by
  unfold Z.cutD
  rw [six_nat h, List.length_take, List.length_drop]
  show min (ds.length - min v.toNat ds.length) (ds.length - min v.toNat ds.length) = _
  omega
theorem cut_mid {ds : List D} {v : Int} (h : 0 ≤ v) : (Z.cutD ds (some v) (some (v + 1))).length ≤ 1 := by
  unfold Z.cutD
  rw [six_nat h, six_nat (by omega), List.length_take, List.length_drop]
  omega
theorem ne_str2 {x : Str} (hx : PyData.strOk x = true) {P : D → Prop} : wF (dNe (.str x) (.str x)) P = P (.bl false) := by
  have h := f_eq_str hx hx (P := fun d => d = .bl true)
  unfold dEq at h
  unfold dNe
  cases e : eqB (.str x) (.str x) with
  | none =>
    rw [e] at h
    have : (D.bl (x == x) = D.bl true) := congrArg D.bl (by simp)
    rw [← h] at this
    exact this.elim
  | some b =>
    rw [e] at h
    have h2 : (D.bl (x == x) = D.bl true) := congrArg D.bl (by simp)
    rw [← h] at h2
    have h3 : D.bl b = D.bl true := h2
    injection h3 with h3
    rw [h3]
    rfl
theorem tt_sc {k w : Nat} {d : D} (h : Rp k d ∧ tl d ≤ w) (hn : ∀ es, d ≠ .lst es) : Tt k w 0 d := ⟨h.1, h.2, fun es he => absurd he (hn es)⟩
theorem ep_s0 : Ep 0 (.str "0") ∧ tl (.str "0") ≤ 50 := ep_str (okS_all (by decide +kernel)) (by decide +kernel) (by decide +kernel) (by decide +kernel)
theorem ep_s1 : Ep 0 (.str "") ∧ tl (.str "") ≤ 50 := ep_str (okS_all (by decide +kernel)) (by decide +kernel) (by decide +kernel) (by decide +kernel)
theorem ep_s2 : Ep 0 (.str "post") ∧ tl (.str "post") ≤ 50 := ep_str (okS_all (by decide +kernel)) (by decide +kernel) (by decide +kernel) (by decide +kernel)
theorem ep_l0 : Ep 1 (.lst [.int 0]) ∧ tl (.lst [.int 0]) ≤ 100 := ⟨ep_lst (ep_one (ep_int (i := 0) (by decide)).1), Nat.le_trans (rp_lst (fun d hd => (ep_one (ep_int (i := 0) (by decide)).1 d hd).1)).2 (by rw [tlL_cons, tlL_nil]; have := (ep_int (i := 0) (by decide)).2; omega)⟩
theorem ep_t0 : Ep 1 (.tup [.int 0]) ∧ tl (.tup [.int 0]) ≤ 100 := ⟨ep_tup (ep_one (ep_int (i := 0) (by decide)).1), Nat.le_trans (rp_tup (fun d hd => (ep_one (ep_int (i := 0) (by decide)).1 d hd).1)).2 (by rw [tlL_cons, tlL_nil]; have := (ep_int (i := 0) (by decide)).2; omega)⟩
theorem odd_tt : ∀ d ∈ oddT, Tt 2 200 1 d := by
  have l1 : ∀ e : D, Ep 1 e → tl e ≤ 100 → Tt 2 200 1 (.lst [e]) := fun e he hw => tt_lst (ep_one he) (by rw [tlL_cons, tlL_nil]; omega) (Nat.le_refl _)
  have sc : ∀ (k : Nat) (d : D), k ≤ 2 → Rp k d ∧ tl d ≤ 50 → (∀ es, d ≠ .lst es) → Tt 2 200 1 d := fun k d hk h hn => (tt_sc h hn).up hk (by omega) (by omega)
  intro d hd
  unfold oddT at hd
  simp only [List.mem_cons, List.not_mem_nil, or_false] at hd
  rcases hd with rfl | rfl | rfl | rfl | rfl | rfl | rfl | rfl | rfl | rfl | rfl | rfl | rfl | rfl | rfl | rfl | rfl
  · exact sc 0 _ (by omega) rp_non (fun es h => by cases h)
  · exact sc 0 _ (by omega) rp_bl (fun es h => by cases h)
  · exact sc 0 _ (by omega) rp_bl (fun es h => by cases h)
  · exact sc 0 _ (by omega) ⟨ep_s0.1.1, ep_s0.2⟩ (fun es h => by cases h)
  · exact sc 0 _ (by omega) ⟨ep_s1.1.1, ep_s1.2⟩ (fun es h => by cases h)
  · exact (tt_lst (k := 1) (ds := []) (fun d hd => nomatch hd) (by rw [tlL_nil]; omega) (Nat.zero_le _)).up (Nat.le_refl _) (Nat.le_refl _) (Nat.le_refl _)
  · exact (tt_tup (k := 1) (l := 1) (ds := []) (fun d hd => nomatch hd) (by rw [tlL_nil]; omega))
  · exact sc 1 _ (by omega) rp_d0 (fun es h => by cases h)
  · exact l1 _ ((ep_int (by decide)).1.up (by omega)) (Nat.le_trans (ep_int (by decide)).2 (by omega))
  · exact tt_tup (k := 1) (fun d hd => by rw [List.mem_singleton.mp hd]; exact ((ep_int (by decide)).1.up (by omega)).1) (by rw [tlL_cons, tlL_nil]; have := (ep_int (i := 0) (by decide)).2; omega)
  · exact sc 0 _ (by omega) (rp_int (by decide)) (fun es h => by cases h)
  · exact sc 0 _ (by omega) (rp_int (by decide +kernel)) (fun es h => by cases h)
  · exact l1 _ ep_l0.1 ep_l0.2
  · exact sc 1 _ (by omega) rp_d1 (fun es h => by cases h)
  · exact sc 0 _ (by omega) ⟨ep_s2.1.1, ep_s2.2⟩ (fun es h => by cases h)
  · exact l1 _ (ep_non.1.up (by omega)) (Nat.le_trans ep_non.2 (by omega))
  · exact sc 0 _ (by omega) (rp_int (by decide +kernel)) (fun es h => by cases h)
theorem t_oddT {B : O} {Q : O → List Sl → Prop} (hB : BagOk B) (k : ∀ (d : D) (B' : O) (S : List Sl), Tt 2 200 1 d → Th d → BagOk B' → S.getD 0 .no = .ow B' → Q (.sh d) S) : wO (f__law_odd_thing [.ow B]) Q :=
  t_oddM hB fun d B' S h => k d B' S (odd_tt d h) (odd_th d h).1
end W

/-! T69: more of things: `a or b` of lists, changed lists. -/
namespace W
open PySem PySem.Spec PyProof.Rows L2 Z
local macro_rules | `(tactic| walk_at "w") => `(tactic| simp only [↓len_r1i, ↓len_r1p, ↓len_r1r, w_mC, w_mVar, w_m2x, w_m1x, w_mTst, w_mAnd, w_mOr, w_mNot, w_mIf, w_mBl, w_mFr, w_mSh, w_mCons, w_mRd, w_mRv, w_pVar, w_pIx, w_mCh, w_mYes', w_m2N, w_m1N, w_mStar, w_mSeq, w_mSl, w_mPart, x_mLook, x_mUse, x_mMov, x_mItV, x_mut, x_comp,
  s_next, s_seq, s_if, s_ret, s_asg, s_sto, s_own, s_drop, s_setI, s_augI, s_aug, s_bad, s_retN, s_brk, s_cnt, s_par, s_for,
  x_call1, x_call2, x_call3, x_call4, x_call5, x_call1s, x_call2s, x_call2t, x_call3s, x_call3t, x_call3u, x_call1b, x_call2b, x_call3b, x_call4b, m_app_os, f_in_t2, f_ni_t2, x_compIt, wdic_pl, x_compK, f_dniK, items_i, f_inD_r, f_niD_r, m_ext_i, w_mSlT, x_c_ss, x_c_dss, x_c_sddd, x_c_ddsd, x_c_ddds, x_meth3, x_meth2s, x_meth2t, x_callP, x_mk0, o_leaves, o_path, o_ties, o_rewired, f_itT, set_rs, f_lstr3, f_tup3d, zp_i, f_r3, f_rev_r, wi_l0, og_l0, op_l0, f_lent, f_ni_b, ls_b, fr_t0, fr_pn, fr_ln, fr_os, il_os, sl_os, fr_ot, il_ot, fr_shd, oix_t1, x_meth0, x_meth1, x_meth2, x_meth1s, x_set, set_i, set_b, en_i, en_p, en_r, f_tupO2, f_tupO3, f_tup2d, fr_t2, fr_t3, slt_ow, ix_t0, ix_t1, ix_t2, wi_t0, wi_t1, og_t0, og_t1, op_t0, op_t1, f_eq_t2, f_ne_t2, o_size, o_wired, r_size, r_wired, x_mk, mk_ok, cut_map, ls_i, ls_r, ls_p, lst_rs, lst_is,
  f_add, f_sub, f_lt, f_le, f_gt, f_ge, f_mod, f_div, f_mul, f_eq, f_ne, f_neg, b_bl, l_sh, v_pl, o_ow, o_own, a_pl, k_pl, k_ow, u_pl, u_ow, mv_pl, mv_ow, i1_int, par2_ok, wF_some, g_nm, f_tp, g_cons, g_nil, wF_map,
  fr_i, fr_p, fr_rs, fr_b, fr_sh, sl_i, sl_p, sl_rs, sl_b, sl_sh, itv_i, itv_p, itv_rs, sq_i, sq_p, sq_r, is_i, is_p, is_r, il_i, il_p, il_rs, il_b,
  m_app_i, m_app_p, m_app_rs, m_app_b, m_rev_i, m_clr_i, m_rem_i, f_len_i, f_len_p, f_len_r, f_in_i, f_ni_i, f_ix_i, f_ix_p, f_ix_r, f_ix_b, p_fst, p_snd, f_list_i, f_list_t, f_list_r, mk_i, mk_p, mk_r, f_srt_i, f_srt_p, f_rev_i, f_rev_p, f_cat_i, f_cat_r, f_cat_p, f_rep_i, minL_map, maxL_map, sum_map, all_map, any_map, f_int1, f_intB, f_max2, f_min2,
  it_r1, it_r2, f_rg, itL_i, itL_p, itL_r, itL_b, itS_i, itS_r, f_lstM, f_lst0, f_lst1, f_lst2, f_lst3, f_lst4, f_lst5, f_lst6, f_lstr1, f_lstr2, f_eq_i, f_ne_i, f_eq_r, f_ne_r, f_eq_p, f_ne_p, f_eq_bl, f_ne_bl, rd_i, rd_b, rd_p, rd_rs, y_size, y_ties, y_wired, y_near, o_neighbours,
  isi_int, f_setL, f_srtU, f_srtS, f_is_bl, f_isn_bl, isi_bl, fr_dic, dic_nil, sl_dic, f_din, f_dni, f_dix, f_dic1, x_rdD, rd_dic, s_setD, set_dic, upF_const, o_ties, r_ties, isi_int_bl, isi_tup, isi_lst, isi_lt, sgx, spx, sgo, spo, og_nil, op_nil, restS, wipeS,
  List.getElem?_cons_zero, List.getElem?_cons_succ, List.set_cons_zero, List.set_cons_succ, List.getD_cons_zero, List.getD_cons_succ, List.cons_append, List.nil_append, List.append_nil, List.length_cons, List.length_nil, List.replicate_succ, List.replicate_zero, Nat.reduceSub, Nat.reduceAdd, true_and, and_true])
local macro_rules | `(tactic| walk_at "v") => `(tactic| simp only [↓len_r1i, ↓len_r1p, ↓len_r1r, w_mC, w_mVar, w_m2x, w_m1x, w_mTst, w_mAnd, w_mOr, w_mNot, w_mIf, w_mBl, w_mFr, w_mSh, w_mCons, w_mRd, w_mRv, w_pVar, w_pIx, w_mCh, w_mYes', w_m2N, w_m1N, w_mStar, w_mSeq, w_mSl, w_mPart, x_mLook, x_mUse, x_mMov, x_mItV, x_mut, x_comp,
  s_next, q_seq, kq_n, kq_r, kq_b, kq_c, s_ret, s_asg, s_sto, s_own, s_drop, s_setI, s_augI, s_aug, s_bad, s_retN, s_brk, s_cnt, s_par, s_for,
  x_call1, x_call2, x_call3, x_call4, x_call5, x_call1s, x_call2s, x_call2t, x_call3s, x_call3t, x_call3u, x_call1b, x_call2b, x_call3b, x_call4b, m_app_os, f_in_t2, f_ni_t2, x_compIt, wdic_pl, x_compK, f_dniK, items_i, f_inD_r, f_niD_r, m_ext_i, w_mSlT, x_c_ss, x_c_dss, x_c_sddd, x_c_ddsd, x_c_ddds, x_meth3, x_meth2s, x_meth2t, x_callP, x_mk0, o_leaves, o_path, o_ties, o_rewired, f_itT, set_rs, f_lstr3, f_tup3d, zp_i, f_r3, f_rev_r, wi_l0, og_l0, op_l0, f_lent, f_ni_b, ls_b, fr_t0, fr_pn, fr_ln, fr_os, il_os, sl_os, fr_ot, il_ot, fr_shd, oix_t1, x_meth0, x_meth1, x_meth2, x_meth1s, x_set, set_i, set_b, en_i, en_p, en_r, f_tupO2, f_tupO3, f_tup2d, fr_t2, fr_t3, slt_ow, ix_t0, ix_t1, ix_t2, wi_t0, wi_t1, og_t0, og_t1, op_t0, op_t1, f_eq_t2, f_ne_t2, o_size, o_wired, r_size, r_wired, x_mk, mk_ok, cut_map, ls_i, ls_r, ls_p, lst_rs, lst_is,
  f_add, f_sub, f_lt, f_le, f_gt, f_ge, f_mod, f_div, f_mul, f_eq, f_ne, f_neg, b_bl, l_sh, v_pl, o_ow, o_own, a_pl, k_pl, k_ow, u_pl, u_ow, mv_pl, mv_ow, i1_int, par2_ok, wF_some, g_nm, f_tp, g_cons, g_nil, wF_map,
  fr_i, fr_p, fr_rs, fr_b, fr_sh, sl_i, sl_p, sl_rs, sl_b, sl_sh, itv_i, itv_p, itv_rs, sq_i, sq_p, sq_r, is_i, is_p, is_r, il_i, il_p, il_rs, il_b,
  m_app_i, m_app_p, m_app_rs, m_app_b, m_rev_i, m_clr_i, m_rem_i, f_len_i, f_len_p, f_len_r, f_in_i, f_ni_i, f_ix_i, f_ix_p, f_ix_r, f_ix_b, p_fst, p_snd, f_list_i, f_list_t, f_list_r, mk_i, mk_p, mk_r, f_srt_i, f_srt_p, f_rev_i, f_rev_p, f_cat_i, f_cat_r, f_cat_p, f_rep_i, minL_map, maxL_map, sum_map, all_map, any_map, f_int1, f_intB, f_max2, f_min2,
  it_r1, it_r2, f_rg, itL_i, itL_p, itL_r, itL_b, itS_i, itS_r, f_lstM, f_lst0, f_lst1, f_lst2, f_lst3, f_lst4, f_lst5, f_lst6, f_lstr1, f_lstr2, f_eq_i, f_ne_i, f_eq_r, f_ne_r, f_eq_p, f_ne_p, f_eq_bl, f_ne_bl, rd_i, rd_b, rd_p, rd_rs, y_size, y_ties, y_wired, y_near, o_neighbours,
  isi_int, f_setL, f_srtU, f_srtS, f_is_bl, f_isn_bl, isi_bl, fr_dic, dic_nil, sl_dic, f_din, f_dni, f_dix, f_dic1, x_rdD, rd_dic, s_setD, set_dic, upF_const, o_ties, r_ties, isi_int_bl, isi_tup, isi_lst, isi_lt, sgx, spx, sgo, spo, og_nil, op_nil, restS, wipeS,
  List.getElem?_cons_zero, List.getElem?_cons_succ, List.set_cons_zero, List.set_cons_succ, List.getD_cons_zero, List.getD_cons_succ, List.cons_append, List.nil_append, List.append_nil, List.length_cons, List.length_nil, List.replicate_succ, List.replicate_zero, Nat.reduceSub, Nat.reduceAdd, true_and, and_true])
section
variable {n : Nat} {A : Int → Int → Prop} {nr : List (List Int)} {size : Int} {ts : List (Int × Int)} {ws : List Int} {es : List D} {d : D} {k : Nat}
end
end W

/-! T70: sets of posts among things of any kind, lists of any things; a set bent. -/
namespace W
open PySem PySem.Spec PyProof.Rows L2 Z
local macro_rules | `(tactic| walk_at "w") => `(tactic| simp only [↓len_r1i, ↓len_r1p, ↓len_r1r, w_mC, w_mVar, w_m2x, w_m1x, w_mTst, w_mAnd, w_mOr, w_mNot, w_mIf, w_mBl, w_mFr, w_mSh, w_mCons, w_mRd, w_mRv, w_pVar, w_pIx, w_mCh, w_mYes', w_m2N, w_m1N, w_mStar, w_mSeq, w_mSl, w_mPart, x_mLook, x_mUse, x_mMov, x_mItV, x_mut, x_comp,
  s_next, s_seq, s_if, s_ret, s_asg, s_sto, s_own, s_drop, s_setI, s_augI, s_aug, s_bad, s_retN, s_brk, s_cnt, s_par, s_for,
  x_call1, x_call2, x_call3, x_call4, x_call5, x_call1s, x_call2s, x_call2t, x_call3s, x_call3t, x_call3u, x_call1b, x_call2b, x_call3b, x_call4b, m_app_os, f_in_t2, f_ni_t2, x_compIt, wdic_pl, x_compK, f_dniK, items_i, f_inD_r, f_niD_r, m_ext_i, w_mSlT, x_c_ss, x_c_dss, x_c_sddd, x_c_ddsd, x_c_ddds, x_meth3, x_meth2s, x_meth2t, x_callP, x_mk0, o_leaves, o_path, o_ties, o_rewired, f_itT, set_rs, f_lstr3, f_tup3d, zp_i, f_r3, f_rev_r, wi_l0, og_l0, op_l0, f_lent, f_ni_b, ls_b, fr_t0, fr_pn, fr_ln, fr_os, il_os, sl_os, fr_ot, il_ot, fr_shd, oix_t1, x_meth0, x_meth1, x_meth2, x_meth1s, x_set, set_i, set_b, en_i, en_p, en_r, f_tupO2, f_tupO3, f_tup2d, fr_t2, fr_t3, slt_ow, ix_t0, ix_t1, ix_t2, wi_t0, wi_t1, og_t0, og_t1, op_t0, op_t1, f_eq_t2, f_ne_t2, o_size, o_wired, r_size, r_wired, x_mk, mk_ok, cut_map, ls_i, ls_r, ls_p, lst_rs, lst_is,
  f_add, f_sub, f_lt, f_le, f_gt, f_ge, f_mod, f_div, f_mul, f_eq, f_ne, f_neg, b_bl, l_sh, v_pl, o_ow, o_own, a_pl, k_pl, k_ow, u_pl, u_ow, mv_pl, mv_ow, i1_int, par2_ok, wF_some, g_nm, f_tp, g_cons, g_nil, wF_map,
  fr_i, fr_p, fr_rs, fr_b, fr_sh, sl_i, sl_p, sl_rs, sl_b, sl_sh, itv_i, itv_p, itv_rs, sq_i, sq_p, sq_r, is_i, is_p, is_r, il_i, il_p, il_rs, il_b,
  m_app_i, m_app_p, m_app_rs, m_app_b, m_rev_i, m_clr_i, m_rem_i, f_len_i, f_len_p, f_len_r, f_in_i, f_ni_i, f_ix_i, f_ix_p, f_ix_r, f_ix_b, p_fst, p_snd, f_list_i, f_list_t, f_list_r, mk_i, mk_p, mk_r, f_srt_i, f_srt_p, f_rev_i, f_rev_p, f_cat_i, f_cat_r, f_cat_p, f_rep_i, minL_map, maxL_map, sum_map, all_map, any_map, f_int1, f_intB, f_max2, f_min2,
  it_r1, it_r2, f_rg, itL_i, itL_p, itL_r, itL_b, itS_i, itS_r, f_lstM, f_lst0, f_lst1, f_lst2, f_lst3, f_lst4, f_lst5, f_lst6, f_lstr1, f_lstr2, f_eq_i, f_ne_i, f_eq_r, f_ne_r, f_eq_p, f_ne_p, f_eq_bl, f_ne_bl, rd_i, rd_b, rd_p, rd_rs, y_size, y_ties, y_wired, y_near, o_neighbours,
  isi_int, f_setL, f_srtU, f_srtS, f_is_bl, f_isn_bl, isi_bl, fr_dic, dic_nil, sl_dic, f_din, f_dni, f_dix, f_dic1, x_rdD, rd_dic, s_setD, set_dic, upF_const, o_ties, r_ties, isi_int_bl, isi_tup, isi_lst, isi_lt, sgx, spx, sgo, spo, og_nil, op_nil, restS, wipeS,
  List.getElem?_cons_zero, List.getElem?_cons_succ, List.set_cons_zero, List.set_cons_succ, List.getD_cons_zero, List.getD_cons_succ, List.cons_append, List.nil_append, List.append_nil, List.length_cons, List.length_nil, List.replicate_succ, List.replicate_zero, Nat.reduceSub, Nat.reduceAdd, true_and, and_true])
local macro_rules | `(tactic| walk_at "v") => `(tactic| simp only [↓len_r1i, ↓len_r1p, ↓len_r1r, w_mC, w_mVar, w_m2x, w_m1x, w_mTst, w_mAnd, w_mOr, w_mNot, w_mIf, w_mBl, w_mFr, w_mSh, w_mCons, w_mRd, w_mRv, w_pVar, w_pIx, w_mCh, w_mYes', w_m2N, w_m1N, w_mStar, w_mSeq, w_mSl, w_mPart, x_mLook, x_mUse, x_mMov, x_mItV, x_mut, x_comp,
  s_next, q_seq, kq_n, kq_r, kq_b, kq_c, s_ret, s_asg, s_sto, s_own, s_drop, s_setI, s_augI, s_aug, s_bad, s_retN, s_brk, s_cnt, s_par, s_for,
  x_call1, x_call2, x_call3, x_call4, x_call5, x_call1s, x_call2s, x_call2t, x_call3s, x_call3t, x_call3u, x_call1b, x_call2b, x_call3b, x_call4b, m_app_os, f_in_t2, f_ni_t2, x_compIt, wdic_pl, x_compK, f_dniK, items_i, f_inD_r, f_niD_r, m_ext_i, w_mSlT, x_c_ss, x_c_dss, x_c_sddd, x_c_ddsd, x_c_ddds, x_meth3, x_meth2s, x_meth2t, x_callP, x_mk0, o_leaves, o_path, o_ties, o_rewired, f_itT, set_rs, f_lstr3, f_tup3d, zp_i, f_r3, f_rev_r, wi_l0, og_l0, op_l0, f_lent, f_ni_b, ls_b, fr_t0, fr_pn, fr_ln, fr_os, il_os, sl_os, fr_ot, il_ot, fr_shd, oix_t1, x_meth0, x_meth1, x_meth2, x_meth1s, x_set, set_i, set_b, en_i, en_p, en_r, f_tupO2, f_tupO3, f_tup2d, fr_t2, fr_t3, slt_ow, ix_t0, ix_t1, ix_t2, wi_t0, wi_t1, og_t0, og_t1, op_t0, op_t1, f_eq_t2, f_ne_t2, o_size, o_wired, r_size, r_wired, x_mk, mk_ok, cut_map, ls_i, ls_r, ls_p, lst_rs, lst_is,
  f_add, f_sub, f_lt, f_le, f_gt, f_ge, f_mod, f_div, f_mul, f_eq, f_ne, f_neg, b_bl, l_sh, v_pl, o_ow, o_own, a_pl, k_pl, k_ow, u_pl, u_ow, mv_pl, mv_ow, i1_int, par2_ok, wF_some, g_nm, f_tp, g_cons, g_nil, wF_map,
  fr_i, fr_p, fr_rs, fr_b, fr_sh, sl_i, sl_p, sl_rs, sl_b, sl_sh, itv_i, itv_p, itv_rs, sq_i, sq_p, sq_r, is_i, is_p, is_r, il_i, il_p, il_rs, il_b,
  m_app_i, m_app_p, m_app_rs, m_app_b, m_rev_i, m_clr_i, m_rem_i, f_len_i, f_len_p, f_len_r, f_in_i, f_ni_i, f_ix_i, f_ix_p, f_ix_r, f_ix_b, p_fst, p_snd, f_list_i, f_list_t, f_list_r, mk_i, mk_p, mk_r, f_srt_i, f_srt_p, f_rev_i, f_rev_p, f_cat_i, f_cat_r, f_cat_p, f_rep_i, minL_map, maxL_map, sum_map, all_map, any_map, f_int1, f_intB, f_max2, f_min2,
  it_r1, it_r2, f_rg, itL_i, itL_p, itL_r, itL_b, itS_i, itS_r, f_lstM, f_lst0, f_lst1, f_lst2, f_lst3, f_lst4, f_lst5, f_lst6, f_lstr1, f_lstr2, f_eq_i, f_ne_i, f_eq_r, f_ne_r, f_eq_p, f_ne_p, f_eq_bl, f_ne_bl, rd_i, rd_b, rd_p, rd_rs, y_size, y_ties, y_wired, y_near, o_neighbours,
  isi_int, f_setL, f_srtU, f_srtS, f_is_bl, f_isn_bl, isi_bl, fr_dic, dic_nil, sl_dic, f_din, f_dni, f_dix, f_dic1, x_rdD, rd_dic, s_setD, set_dic, upF_const, o_ties, r_ties, isi_int_bl, isi_tup, isi_lst, isi_lt, sgx, spx, sgo, spo, og_nil, op_nil, restS, wipeS,
  List.getElem?_cons_zero, List.getElem?_cons_succ, List.set_cons_zero, List.set_cons_succ, List.getD_cons_zero, List.getD_cons_succ, List.cons_append, List.nil_append, List.append_nil, List.length_cons, List.length_nil, List.replicate_succ, List.replicate_zero, Nat.reduceSub, Nat.reduceAdd, true_and, and_true])
section
variable {n : Nat} {size : Int} {ws : List Int} {es : List D} {d : D} {k w l : Nat}
/-- an item: one that can be shown and compared, its items too -/
def Eq2 (k : Nat) (e : D) : Prop := Ep k e ∧ ∀ fs, e = .tup fs → ∀ f ∈ fs, Ep k f
theorem Eq2.up {k' : Nat} {e : D} (h : Eq2 k e) (hk : k ≤ k') : Eq2 k' e := ⟨h.1.up hk, fun fs hf f hx => (h.2 fs hf f hx).up hk⟩
/-- a part: a list's items are items -/
def Pq (k w l : Nat) (d : D) : Prop := Rp k d ∧ tl d ≤ w ∧ ∀ es, d = .lst es → (∀ e ∈ es, Eq2 k e) ∧ tlL es ≤ w ∧ es.length ≤ l
theorem Pq.up {k' w' l' : Nat} (h : Pq k w l d) (hk : k ≤ k') (hw : w ≤ w') (hl : l ≤ l') : Pq k' w' l' d := ⟨h.1.up hk, Nat.le_trans h.2.1 hw, fun es he => by
  obtain ⟨h1, h2, h3⟩ := h.2.2 es he
  exact ⟨fun e he => (h1 e he).up hk, by omega, by omega⟩⟩
/-- a thing: a tuple's items are parts -/
def Bq (k w l : Nat) (d : D) : Prop := Rp k d ∧ tl d ≤ 4 * w + 20 ∧ ∀ es, d = .tup es → ∀ e ∈ es, Pq k w l e
theorem Bq.up {k' w' l' : Nat} (h : Bq k w l d) (hk : k ≤ k') (hw : w ≤ w') (hl : l ≤ l') : Bq k' w' l' d := ⟨h.1.up hk, by have := h.2.1; omega, fun es he e hx => (h.2.2 es he e hx).up hk hw hl⟩
theorem eq2_sc {e : D} (h : Ep k e) (hn : ∀ fs, e ≠ .tup fs) : Eq2 k e := ⟨h, fun fs hf => absurd hf (hn fs)⟩
theorem eq2_int {i : Int} (h : i.natAbs < 10 ^ 45) : Eq2 k (.int i) := eq2_sc ((ep_int h).1.up (Nat.zero_le _)) (fun fs h => by cases h)
theorem el_eq2 {e : D} (h : El e) : Eq2 1 e ∧ tl e ≤ 100 := by
  cases h with
  | int i hi => exact ⟨eq2_int hi, Nat.le_trans (ep_int hi).2 (by omega)⟩
  | bl b => exact ⟨eq2_sc (ep_bl.1.up (by omega)) (fun fs h => by cases h), Nat.le_trans ep_bl.2 (by omega)⟩
  | non => exact ⟨eq2_sc (ep_non.1.up (by omega)) (fun fs h => by cases h), Nat.le_trans ep_non.2 (by omega)⟩
  | s0 => exact ⟨eq2_sc (ep_s0.1.up (by omega)) (fun fs h => by cases h), Nat.le_trans ep_s0.2 (by omega)⟩
  | l0 => exact ⟨eq2_sc ep_l0.1 (fun fs h => by cases h), ep_l0.2⟩
  | t0 => exact ⟨⟨ep_t0.1, fun fs h f hf => by cases h; rw [List.mem_singleton.mp hf]; exact (ep_int (i := 0) (by decide)).1.up (by omega)⟩, ep_t0.2⟩
theorem pq_lst {l : Nat} (h : ∀ d ∈ es, Eq2 k d) (hw : tlL es + 3 ≤ w) (hl : es.length ≤ l) : Pq (k + 1) w l (.lst es) := ⟨(rp_lst fun e he => (h e he).1.1).1, Nat.le_trans (rp_lst fun e he => (h e he).1.1).2 hw, fun fs hf => by
  cases hf
  exact ⟨fun e he => (h e he).up (Nat.le_succ k), by omega, hl⟩⟩
theorem pq_nl (h : Rp k d) (hw : tl d ≤ w) (hn : ∀ fs, d ≠ .lst fs) : Pq k w l d := ⟨h, hw, fun fs hf => absurd hf (hn fs)⟩
theorem pq_odd (h1 : Tt 2 200 1 d) (h2 : Th d) : Pq 2 200 1 d := by
  refine ⟨h1.1, h1.2.1, fun es he => ?_⟩
  obtain ⟨g1, g2, g3⟩ := h1.2.2 es he
  subst he
  cases h2 with
  | lst _ h => exact ⟨fun e he => (el_eq2 (h e he)).1.up (by omega), g2, g3⟩
theorem tlL_le {c : Nat} : ∀ {es : List D}, (∀ e ∈ es, tl e ≤ c) → tlL es ≤ es.length * (c + 2)
  | [], _ => Nat.zero_le _
  | e :: es, h => by
    have h1 := h e List.mem_cons_self
    have h2 := tlL_le (c := c) (es := es) fun x hx => h x (List.mem_cons_of_mem _ hx)
    rw [tlL_cons, List.length_cons, Nat.succ_mul]
    omega
theorem are_noA (h : ∀ e ∈ es, Rp k e) (hl : es.length ≤ 200) (hp : es.all (postE size) = false) : rO (f_are_posts [.pl (.lst es), .pl (.int size)]) = some (.sh (.bl false)) := by
  refine rO_of ?_
  unfold f_are_posts
  rw [wO_mk]
  unfold m_are_posts
  walk_at "v"
  rw [s_if]
  walk_at "v"
  refine ⟨fun z => (by cases z), fun _ => ?_⟩
  rw [itS_l]
  refine ⟨⟨by rw [List.length_map]; omega, rfl⟩, ?_⟩
  refine cmp_map (fun _ => true) (fun e => .bl (postE size e)) (fun e he => ?_) ?_
  · walk_at "v"
    rw [any_post (h e he)]
    walk_at "v"
    exact ⟨fun _ => trivial, fun _ => trivial⟩
  walk_at "v"
  have e1 : fr (O.lst (List.map O.sh (List.map (fun e => D.bl (postE size e)) (List.filter (fun _ => true) es)))) = .lst ((es.map (postE size)).map D.bl) := by
    rw [List.filter_eq_self.mpr (fun _ _ => rfl), fr_lst, List.map_map]
    rfl
  rw [e1, f_all]
  have e2 : (es.map (postE size)).all id = false := by rw [List.all_map]; exact hp
  rw [e2]
  walk_at "v"
  exact ⟨fun _ => trivial, fun z => (by cases z)⟩
theorem ra_is_set (h : Rp k d) (hl : ∀ es, d = .lst es → es.length ≤ 200 ∧ ∀ e ∈ es, Rp k e) : rO (f_is_set [.pl d, .pl (.int size)]) = some (.sh (.bl (setD size d))) := by
  by_cases hd : ∃ es, d = .lst es
  · obtain ⟨es, rfl⟩ := hd
    obtain ⟨hle, he⟩ := hl es rfl
    rcases posts_or size es with ⟨ws, rfl, hw⟩ | hp
    · rw [show setD size (.lst (ws.map D.int)) = setB ws from setD_ints hw]
      exact r_is_set hw (by rw [List.length_map] at hle; omega)
    · have e0 : setD size (.lst es) = false := by
        show (es.all (postE size) && _) = false
        rw [hp]
        rfl
      rw [e0]
      refine rO_of ?_
      unfold f_is_set
      rw [wO_mk]
      unfold m_is_set
      walk_at "v"
      rw [are_noA he hle hp]
      walk_at "v"
      exact ⟨fun _ => ⟨fun z => (by cases z), fun _ => trivial⟩, fun z => (by cases z)⟩
  · obtain ⟨p, h1, _⟩ := h
    cases d with
    | lst es => exact absurd ⟨es, rfl⟩ hd
    | obj => unfold toPyX at h1; cases h1
    | fls => unfold toPyX at h1; cases h1
    | _ => rfl
theorem asc_adj : ∀ {ws : List Int}, (∀ i, i + 1 < ws.length → ws.getD i 0 < ws.getD (i + 1) 0) → ws.Pairwise (· < ·)
  | [], _ => .nil
  | [a], _ => List.pairwise_singleton _ _
  | a :: b :: ws, h => by
    have ih := asc_adj (ws := b :: ws) fun i hi => h (i + 1) (by simpa using hi)
    have hab : a < b := h 0 (by simp)
    refine List.pairwise_cons.mpr ⟨fun x hx => ?_, ih⟩
    rcases List.mem_cons.mp hx with z | z
    · rw [z]; exact hab
    · have := (List.pairwise_cons.mp ih).1 x z
      omega
theorem setB_iff : setB ws = decide (ws.Pairwise (· < ·)) := by
  by_cases h : ws.Pairwise (· < ·)
  · rw [setB_ok h, decide_eq_true h]
  · rw [decide_eq_false h]
    unfold setB
    by_cases nd : ws.Nodup
    · by_cases e : ws = srtI ws
      · exfalso
        have hs := srtI_sorted ws
        rw [← e] at hs
        exact h ((hs.and nd).imp fun ⟨h1, h2⟩ => by omega)
      · rw [decide_eq_false e, Bool.and_false]
    · rw [decide_eq_false nd, Bool.false_and]
theorem ra_law_set (h : Rp k d) (hl : ∀ es, d = .lst es → es.length ≤ 200 ∧ ∀ e ∈ es, Ep k e) (hk : k ≤ 60) : rO (f__law_is_set [.pl d, .pl (.int size)]) = some (.sh (.bl (setD size d))) := by
  by_cases hd : ∃ es, d = .lst es
  · obtain ⟨es, rfl⟩ := hd
    obtain ⟨hle, he⟩ := hl es rfl
    refine rO_of ?_
    unfold f__law_is_set
    rw [wO_mk]
    unfold m__law_is_set
    walk_at "v"
    rw [s_if]
    walk_at "v"
    refine ⟨fun z => (by cases z), fun _ => ?_⟩
    rw [s_if]
    walk_at "v"
    rw [itS_l]
    refine ⟨⟨by rw [List.length_map]; omega, rfl⟩, ?_⟩
    refine cmp_map (fun e => !postE size e) (fun e => e) (fun e hem => ?_) ?_
    · walk_at "v"
      have hea := he e hem
      rw [any_whole hea.1]
      walk_at "v"
      cases e with
      | int i =>
        refine ⟨fun z => (by cases z), fun _ => ?_⟩
        walk_at "v"
        refine ⟨fun h1 => ?_, fun h1 => ?_⟩
        · have h1 := of_decide_eq_true h1
          refine ⟨?_, fun _ => trivial, fun _ => trivial⟩
          show (!decide (i < size)) = !decide (0 ≤ i ∧ i < size)
          congr 1
          exact decide_eq_decide.mpr ⟨fun h => ⟨h1, h⟩, fun h => h.2⟩
        · have h1 := of_decide_eq_false h1
          refine ⟨?_, fun _ => trivial, fun _ => trivial⟩
          show true = !decide (0 ≤ i ∧ i < size)
          rw [decide_eq_false (fun h => h1 h.1)]
          rfl
      | _ => exact ⟨fun _ => ⟨rfl, fun _ => trivial, fun _ => trivial⟩, fun z => (by cases z)⟩
    walk_at "v"
    rw [fr_lst2, show iD [] = D.lst [] from rfl, ne_nil (es := es.filter fun e => !postE size e) (fun e h => (he e (List.mem_filter.mp h).1).2) hk]
    walk_at "v"
    rcases posts_or size es with ⟨ws, rfl, hw⟩ | hp
    · refine ⟨fun z => ?_, fun _ => ?_⟩
      · exfalso
        have : (List.filter (fun e => !postE size e) (ws.map D.int)) = [] := by
          rw [List.filter_eq_nil_iff]
          intro d hd
          obtain ⟨w, hww, rfl⟩ := List.mem_map.mp hd
          have : postE size (.int w) = true := decide_eq_true (hw w hww)
          rw [this]
          decide
        rw [this] at z
        cases z
      · rw [show setD size (.lst (ws.map D.int)) = setB ws from setD_ints hw, show fLen [D.lst (ws.map D.int)] = some (.int ws.length) from by show some (D.int (ws.map D.int).length) = _; rw [List.length_map]]
        rw [List.length_map] at hle
        walk_at "v"
        refine ⟨by omega, ⟨by rw [List.length_map, rng_len]; omega, rfl⟩, ?_⟩
        have hix : ∀ (j : Int), 0 ≤ j → j < ws.length → ∀ P : D → Prop, wF (dIx (D.lst (ws.map D.int)) (.int j)) P = P (.int (ws.getD j.toNat 0)) := fun j h0 h1 P => by
          have hl2 : j.toNat < ws.length := by omega
          rw [f_ix]
          unfold atI
          rw [ixN_ok h0 (by rw [List.length_map]; omega)]
          simp only [Option.bind_some, List.getElem?_map, List.getElem?_eq_getElem hl2, Option.map_some, wF_some]
          rw [List.getD_eq_getElem?_getD, List.getElem?_eq_getElem hl2]
          rfl
        refine cmp_f (fun j => decide (ws.getD j.toNat 0 ≥ ws.getD (j + 1).toNat 0)) (fun j hj => ?_) ?_
        · have hj := rng_mem.mp hj
          walk_at "v"
          rw [hix j (by omega) (by omega)]
          rw [hix (j + 1) (by omega) (by omega)]
          walk_at "v"
          exact ⟨fun _ => trivial, fun _ => trivial⟩
        walk_at "v"
        rw [show D.lst [] = iD [] from rfl]
        walk_at "v"
        rw [setB_iff]
        congr 2
        apply decide_eq_decide.mpr
        rw [List.filter_eq_nil_iff]
        constructor
        · intro h
          refine asc_adj fun i hi => ?_
          have := h (i : Int) (rng_mem.mpr ⟨by omega, by omega⟩)
          have this : ¬ ws.getD (i : Int).toNat 0 ≥ ws.getD ((i : Int) + 1).toNat 0 := by simpa using this
          rw [Int.toNat_natCast, show ((i : Int) + 1).toNat = i + 1 by omega] at this
          omega
        · intro h j hj
          have hj := rng_mem.mp hj
          have h1 : j.toNat + 1 < ws.length := by omega
          have := List.pairwise_iff_getElem.mp h j.toNat (j.toNat + 1) (by omega) h1 (by omega)
          rw [show (j + 1).toNat = j.toNat + 1 by omega, List.getD_eq_getElem?_getD, List.getD_eq_getElem?_getD, List.getElem?_eq_getElem h1, List.getElem?_eq_getElem (show j.toNat < ws.length by omega)]
          simp only [Option.getD_some, ge_iff_le, decide_eq_true_eq]
          omega
    · have e0 : setD size (.lst es) = false := by
        show (es.all (postE size) && _) = false
        rw [hp]
        rfl
      rw [e0]
      refine ⟨fun _ => rfl, fun z => ?_⟩
      exfalso
      have z : (List.filter (fun e => !postE size e) es) = [] := by
        cases h : List.filter (fun e => !postE size e) es with
        | nil => rfl
        | cons a r => rw [h] at z; cases z
      rw [List.filter_eq_nil_iff] at z
      have : es.all (postE size) = true := List.all_eq_true.mpr fun e he' => by
        have := z e he'
        simpa using this
      rw [hp] at this
      cases this
  · obtain ⟨p, h1, _⟩ := h
    cases d with
    | lst es => exact absurd ⟨es, rfl⟩ hd
    | obj => unfold toPyX at h1; cases h1
    | fls => unfold toPyX at h1; cases h1
    | _ => rfl
theorem eq2_cut {es : List D} {lo hi : Option Int} (h : ∀ d ∈ es, Eq2 k d) : ∀ d ∈ Z.cutD es lo hi, Eq2 k d := fun d hd => h d (List.mem_of_mem_drop (List.mem_of_mem_take hd))
theorem eq2_app {a b : List D} (h1 : ∀ d ∈ a, Eq2 k d) (h2 : ∀ d ∈ b, Eq2 k d) : ∀ d ∈ a ++ b, Eq2 k d := fun d hd => (List.mem_append.mp hd).elim (h1 d) (h2 d)
theorem eq2_one {d : D} (h : Eq2 k d) : ∀ e ∈ [d], Eq2 k e := fun e he => by rw [List.mem_singleton.mp he]; exact h
def oddU (size : Int) : List D := [.int (-1), .int size, .bl true, .bl false, .non, .str "0", .lst [.int 0], .tup [.int 0], .int (10 ^ 30), .int (-size)]
theorem t_bset {B : O} {es : List D} {Q : O → List Sl → Prop} (hB : BagOk B) (hs : size = n) (h1 : 1 ≤ n) (h60 : n ≤ 60) (hI : ∀ d ∈ es, Eq2 (k + 1) d) (hw : tlL es ≤ w) (hl : es.length ≤ 90)
    (kk : ∀ (o : O) (d : D) (B' : O) (S : List Sl), fr o = d → Pq (k + 2) (3 * w + 110) (es.length + 1) d → BagOk B' → S.getD 0 .no = .ow B' → Q o S) : wO (f__law_bent_set [.ow B, .pl (.int size), .pl (.lst es)]) Q := by
  have kl : ∀ (fs : List D) (B' : O) (S : List Sl), (∀ d ∈ fs, Eq2 (k + 1) d) → fs.length ≤ es.length + 1 → tlL fs ≤ 3 * w + 105 → BagOk B' → S.getD 0 .no = .ow B' → Q (.lst (fs.map .sh)) S := fun fs B' S h1 h2 h5 h3 h4 =>
    kk _ _ B' S fr_lsh (pq_lst h1 (by omega) h2) h3 h4
  unfold f__law_bent_set
  rw [wO_mk]
  unfold m__law_bent_set
  walk_at "v"
  rw [show fLen [D.lst es] = some (.int es.length) from rfl]
  walk_at "v"
  refine t_take hB (by omega) fun at' B1 S1 a0 a1 hB1 e1 => ?_
  simp only [e1]
  walk_at "v"
  refine t_take hB1 (by omega) fun way B2 S2 w0 w1 hB2 e2 => ?_
  simp only [e2]
  walk_at "v"
  rw [show dTup [D.int 0] = some (.tup (([D.int 0] : List D).map .sh)) from rfl]
  walk_at "v"
  rw [show dPow (D.int 10) (D.int 30) = some (.int (10 ^ 30)) from rfl]
  walk_at "v"
  rw [fr_tsh, show dLst [D.int (-1), D.int size, D.bl true, D.bl false, D.non, D.str "0", iD [0], .tup [.int 0], D.int (10 ^ 30), D.int (-size)] = some (.lst ((oddU size).map .sh)) from rfl]
  walk_at "v"
  refine t_take hB2 (by omega) fun r B3 S3 r0 r1 hB3 e3 => ?_
  simp only [e3]
  walk_at "v"
  obtain ⟨d, hd, ex⟩ := f_ixD (xs := oddU size) r0 (by show r < 10; omega)
  rw [fr_lsh, ex]
  have hdL : El d := by
    unfold oddU at hd
    simp only [List.mem_cons, List.not_mem_nil, or_false] at hd
    rcases hd with rfl | rfl | rfl | rfl | rfl | rfl | rfl | rfl | rfl | rfl
    · exact .int _ (by decide)
    · exact .int _ (Nat.lt_of_lt_of_le (show size.natAbs < 100 by omega) (by decide +kernel))
    · exact .bl _
    · exact .bl _
    · exact .non
    · exact .s0
    · exact .l0
    · exact .t0
    · exact .int _ (by decide +kernel)
    · exact .int _ (Nat.lt_of_lt_of_le (show (-size).natAbs < 100 by omega) (by decide +kernel))
  obtain ⟨hdE, hdw⟩ := el_eq2 hdL
  have hdE : Eq2 (k + 1) d := hdE.up (by omega)
  clear ex hd hdL
  have wd : tlL [d] ≤ 102 := by rw [tlL_cons, tlL_nil]; omega
  have w1 := Nat.le_trans (tlL_cut (ds := es) (lo := none) (hi := some at')) hw
  have w2 := Nat.le_trans (tlL_cut (ds := es) (lo := some at') (hi := none)) hw
  have w3 := Nat.le_trans (tlL_cut (ds := es) (lo := some (at' + 1)) (hi := none)) hw
  have w4 := Nat.le_trans (tlL_cut (ds := es) (lo := some at') (hi := some (at' + 1))) hw
  have hsz : (1000 : Nat) ≤ sizeLine := by rw [sizeLine_eq]; exact Nat.le_of_ble_eq_true rfl
  have lt := cut_to (ds := es) a0
  have lf := cut_from (ds := es) a0
  have lf1 := cut_from (ds := es) (v := at' + 1) (by omega)
  have lm := cut_mid (ds := es) a0
  have ht := eq2_cut (es := es) (lo := none) (hi := some at') hI
  have hf := eq2_cut (es := es) (lo := some at') (hi := none) hI
  have hf1 := eq2_cut (es := es) (lo := some (at' + 1)) (hi := none) hI
  have hm := eq2_cut (es := es) (lo := some at') (hi := some (at' + 1)) hI
  rw [s_if]
  walk_at "v"
  refine ⟨fun _ => ?_, fun _ => ?_⟩
  · simp only [f_lstD, f_mkT, f_lst1D, fr_lsh, f_catD]
    refine ⟨by rw [List.length_singleton]; omega, by rw [List.length_append, List.length_singleton]; omega, kl _ _ _ (eq2_app (eq2_app ht (eq2_one hdE)) hf) (by rw [List.length_append, List.length_append, List.length_singleton]; omega) (by rw [tlL_app, tlL_app]; omega) hB3 rfl⟩
  rw [s_if]
  walk_at "v"
  refine ⟨fun _ => ?_, fun _ => ?_⟩
  · simp only [f_lstD, f_mkT, fr_lsh, f_catD]
    refine ⟨by omega, by rw [List.length_append]; omega, kl _ _ _ (eq2_app (eq2_app ht hm) hf) (by rw [List.length_append, List.length_append]; omega) (by rw [tlL_app, tlL_app]; omega) hB3 rfl⟩
  rw [s_if]
  walk_at "v"
  refine ⟨fun _ => ?_, fun _ => ?_⟩
  · rw [show dRevL (D.lst es) = some es.reverse from rfl]
    walk_at "v"
    rw [f_mkT]
    exact kl _ _ _ (fun d hd => hI d (List.mem_reverse.mp hd)) (by rw [List.length_reverse]; omega) (by rw [tlL_rev]; omega) hB3 rfl
  rw [s_if]
  walk_at "v"
  refine ⟨fun _ => ?_, fun _ => ?_⟩
  · rw [show dTupOf (D.lst es) = some (.tup (es.map .sh)) from rfl]
    exact kk _ _ _ _ fr_tsh (pq_nl (rp_tup fun e he => (hI e he).1.1).1 (Nat.le_trans (rp_tup fun e he => (hI e he).1.1).2 (by omega)) (fun fs h => by cases h)) hB3 rfl
  rw [s_if]
  walk_at "v"
  refine ⟨fun _ => ?_, fun _ => ?_⟩
  · simp only [f_lstD, f_mkT, f_lst1D, fr_lsh, f_catD]
    refine ⟨by rw [List.length_singleton]; omega, by rw [List.length_append, List.length_singleton]; omega, kl _ _ _ (eq2_app (eq2_app ht (eq2_one hdE)) hf1) (by rw [List.length_append, List.length_append, List.length_singleton]; omega) (by rw [tlL_app, tlL_app]; omega) hB3 rfl⟩
  rw [s_if]
  walk_at "v"
  refine ⟨fun _ => ?_, fun _ => ?_⟩
  · simp only [f_lstD, f_mkT, fr_lsh, f_catD]
    refine ⟨by omega, kl _ _ _ (eq2_app hf ht) (by rw [List.length_append]; omega) (by rw [tlL_app]; omega) hB3 rfl⟩
  rw [s_if]
  walk_at "v"
  refine ⟨fun _ => ?_, fun _ => ?_⟩
  · refine t_take hB3 (by omega) fun q B4 S4 q0 q1 hB4 e4 => ?_
    simp only [e4]
    walk_at "v"
    rw [show iD [q] = D.lst [D.int q] from rfl, f_catD]
    refine ⟨by rw [List.length_singleton]; omega, ?_⟩
    rw [f_mkT]
    exact kl _ _ _ (eq2_app hI (eq2_one (eq2_int (Nat.lt_of_lt_of_le (show q.natAbs < 100 by omega) (by decide +kernel))))) (by rw [List.length_append, List.length_singleton]; exact Nat.le_refl _) (by rw [tlL_app, tlL_cons, tlL_nil]; have := (ep_int (i := q) (Nat.lt_of_lt_of_le (show q.natAbs < 100 by omega) (by decide +kernel))).2; omega) hB4 rfl
  · simp only [f_lstD, f_mkT, fr_lsh, f_catD]
    refine ⟨by omega, kl _ _ _ (eq2_app ht hf1) (by rw [List.length_append]; omega) (by rw [tlL_app]; omega) hB3 rfl⟩
end
end W

/-! the law k11 -/
namespace W
open PySem PySem.Spec PyProof.Rows L2 Z
local macro_rules | `(tactic| walk_at "w") => `(tactic| simp only [↓len_r1i, ↓len_r1p, ↓len_r1r, w_mC, w_mVar, w_m2x, w_m1x, w_mTst, w_mAnd, w_mOr, w_mNot, w_mIf, w_mBl, w_mFr, w_mSh, w_mCons, w_mRd, w_mRv, w_pVar, w_pIx, w_mCh, w_mYes', w_m2N, w_m1N, w_mStar, w_mSeq, w_mSl, w_mPart, x_mLook, x_mUse, x_mMov, x_mItV, x_mut, x_comp,
  s_next, s_seq, s_if, s_ret, s_asg, s_sto, s_own, s_drop, s_setI, s_augI, s_aug, s_bad, s_retN, s_brk, s_cnt, s_par, s_for,
  x_call1, x_call2, x_call3, x_call4, x_call5, x_call1s, x_call2s, x_call2t, x_call3s, x_call3t, x_call3u, x_call1b, x_call2b, x_call3b, x_call4b, m_app_os, f_in_t2, f_ni_t2, x_compIt, wdic_pl, x_compK, f_dniK, items_i, f_inD_r, f_niD_r, m_ext_i, w_mSlT, x_c_ss, x_c_dss, x_c_sddd, x_c_ddsd, x_c_ddds, x_meth3, x_meth2s, x_meth2t, x_callP, x_mk0, o_leaves, o_path, o_ties, o_rewired, f_itT, set_rs, f_lstr3, f_tup3d, zp_i, f_r3, f_rev_r, wi_l0, og_l0, op_l0, f_lent, f_ni_b, ls_b, fr_t0, fr_pn, fr_ln, fr_os, il_os, sl_os, fr_ot, il_ot, fr_shd, oix_t1, x_meth0, x_meth1, x_meth2, x_meth1s, x_set, set_i, set_b, en_i, en_p, en_r, f_tupO2, f_tupO3, f_tup2d, fr_t2, fr_t3, slt_ow, ix_t0, ix_t1, ix_t2, wi_t0, wi_t1, og_t0, og_t1, op_t0, op_t1, f_eq_t2, f_ne_t2, o_size, o_wired, r_size, r_wired, x_mk, mk_ok, cut_map, ls_i, ls_r, ls_p, lst_rs, lst_is,
  f_add, f_sub, f_lt, f_le, f_gt, f_ge, f_mod, f_div, f_mul, f_eq, f_ne, f_neg, b_bl, l_sh, v_pl, o_ow, o_own, a_pl, k_pl, k_ow, u_pl, u_ow, mv_pl, mv_ow, i1_int, par2_ok, wF_some, g_nm, f_tp, g_cons, g_nil, wF_map,
  fr_i, fr_p, fr_rs, fr_b, fr_sh, sl_i, sl_p, sl_rs, sl_b, sl_sh, itv_i, itv_p, itv_rs, sq_i, sq_p, sq_r, is_i, is_p, is_r, il_i, il_p, il_rs, il_b,
  m_app_i, m_app_p, m_app_rs, m_app_b, m_rev_i, m_clr_i, m_rem_i, f_len_i, f_len_p, f_len_r, f_in_i, f_ni_i, f_ix_i, f_ix_p, f_ix_r, f_ix_b, p_fst, p_snd, f_list_i, f_list_t, f_list_r, mk_i, mk_p, mk_r, f_srt_i, f_srt_p, f_rev_i, f_rev_p, f_cat_i, f_cat_r, f_cat_p, f_rep_i, minL_map, maxL_map, sum_map, all_map, any_map, f_int1, f_intB, f_max2, f_min2,
  it_r1, it_r2, f_rg, itL_i, itL_p, itL_r, itL_b, itS_i, itS_r, f_lstM, f_lst0, f_lst1, f_lst2, f_lst3, f_lst4, f_lst5, f_lst6, f_lstr1, f_lstr2, f_eq_i, f_ne_i, f_eq_r, f_ne_r, f_eq_p, f_ne_p, f_eq_bl, f_ne_bl, rd_i, rd_b, rd_p, rd_rs, y_size, y_ties, y_wired, y_near, o_neighbours,
  isi_int, f_setL, f_srtU, f_srtS, f_is_bl, f_isn_bl, isi_bl, fr_dic, dic_nil, sl_dic, f_din, f_dni, f_dix, f_dic1, x_rdD, rd_dic, s_setD, set_dic, upF_const, o_ties, r_ties, isi_int_bl, isi_tup, isi_lst, isi_lt, sgx, spx, sgo, spo, og_nil, op_nil, restS, wipeS,
  List.getElem?_cons_zero, List.getElem?_cons_succ, List.set_cons_zero, List.set_cons_succ, List.getD_cons_zero, List.getD_cons_succ, List.cons_append, List.nil_append, List.append_nil, List.length_cons, List.length_nil, List.replicate_succ, List.replicate_zero, Nat.reduceSub, Nat.reduceAdd, true_and, and_true])
local macro_rules | `(tactic| walk_at "v") => `(tactic| simp only [↓len_r1i, ↓len_r1p, ↓len_r1r, w_mC, w_mVar, w_m2x, w_m1x, w_mTst, w_mAnd, w_mOr, w_mNot, w_mIf, w_mBl, w_mFr, w_mSh, w_mCons, w_mRd, w_mRv, w_pVar, w_pIx, w_mCh, w_mYes', w_m2N, w_m1N, w_mStar, w_mSeq, w_mSl, w_mPart, x_mLook, x_mUse, x_mMov, x_mItV, x_mut, x_comp,
  s_next, q_seq, kq_n, kq_r, kq_b, kq_c, s_ret, s_asg, s_sto, s_own, s_drop, s_setI, s_augI, s_aug, s_bad, s_retN, s_brk, s_cnt, s_par, s_for,
  x_call1, x_call2, x_call3, x_call4, x_call5, x_call1s, x_call2s, x_call2t, x_call3s, x_call3t, x_call3u, x_call1b, x_call2b, x_call3b, x_call4b, m_app_os, f_in_t2, f_ni_t2, x_compIt, wdic_pl, x_compK, f_dniK, items_i, f_inD_r, f_niD_r, m_ext_i, w_mSlT, x_c_ss, x_c_dss, x_c_sddd, x_c_ddsd, x_c_ddds, x_meth3, x_meth2s, x_meth2t, x_callP, x_mk0, o_leaves, o_path, o_ties, o_rewired, f_itT, set_rs, f_lstr3, f_tup3d, zp_i, f_r3, f_rev_r, wi_l0, og_l0, op_l0, f_lent, f_ni_b, ls_b, fr_t0, fr_pn, fr_ln, fr_os, il_os, sl_os, fr_ot, il_ot, fr_shd, oix_t1, x_meth0, x_meth1, x_meth2, x_meth1s, x_set, set_i, set_b, en_i, en_p, en_r, f_tupO2, f_tupO3, f_tup2d, fr_t2, fr_t3, slt_ow, ix_t0, ix_t1, ix_t2, wi_t0, wi_t1, og_t0, og_t1, op_t0, op_t1, f_eq_t2, f_ne_t2, o_size, o_wired, r_size, r_wired, x_mk, mk_ok, cut_map, ls_i, ls_r, ls_p, lst_rs, lst_is,
  f_add, f_sub, f_lt, f_le, f_gt, f_ge, f_mod, f_div, f_mul, f_eq, f_ne, f_neg, b_bl, l_sh, v_pl, o_ow, o_own, a_pl, k_pl, k_ow, u_pl, u_ow, mv_pl, mv_ow, i1_int, par2_ok, wF_some, g_nm, f_tp, g_cons, g_nil, wF_map,
  fr_i, fr_p, fr_rs, fr_b, fr_sh, sl_i, sl_p, sl_rs, sl_b, sl_sh, itv_i, itv_p, itv_rs, sq_i, sq_p, sq_r, is_i, is_p, is_r, il_i, il_p, il_rs, il_b,
  m_app_i, m_app_p, m_app_rs, m_app_b, m_rev_i, m_clr_i, m_rem_i, f_len_i, f_len_p, f_len_r, f_in_i, f_ni_i, f_ix_i, f_ix_p, f_ix_r, f_ix_b, p_fst, p_snd, f_list_i, f_list_t, f_list_r, mk_i, mk_p, mk_r, f_srt_i, f_srt_p, f_rev_i, f_rev_p, f_cat_i, f_cat_r, f_cat_p, f_rep_i, minL_map, maxL_map, sum_map, all_map, any_map, f_int1, f_intB, f_max2, f_min2,
  it_r1, it_r2, f_rg, itL_i, itL_p, itL_r, itL_b, itS_i, itS_r, f_lstM, f_lst0, f_lst1, f_lst2, f_lst3, f_lst4, f_lst5, f_lst6, f_lstr1, f_lstr2, f_eq_i, f_ne_i, f_eq_r, f_ne_r, f_eq_p, f_ne_p, f_eq_bl, f_ne_bl, rd_i, rd_b, rd_p, rd_rs, y_size, y_ties, y_wired, y_near, o_neighbours,
  isi_int, f_setL, f_srtU, f_srtS, f_is_bl, f_isn_bl, isi_bl, fr_dic, dic_nil, sl_dic, f_din, f_dni, f_dix, f_dic1, x_rdD, rd_dic, s_setD, set_dic, upF_const, o_ties, r_ties, isi_int_bl, isi_tup, isi_lst, isi_lt, sgx, spx, sgo, spo, og_nil, op_nil, restS, wipeS,
  List.getElem?_cons_zero, List.getElem?_cons_succ, List.set_cons_zero, List.set_cons_succ, List.getD_cons_zero, List.getD_cons_succ, List.cons_append, List.nil_append, List.append_nil, List.length_cons, List.length_nil, List.replicate_succ, List.replicate_zero, Nat.reduceSub, Nat.reduceAdd, true_and, and_true])
section
variable {n : Nat} {size : Int} {ws : List Int} {es : List D} {d : D} {k w l : Nat}
theorem any_int (h : Rp k d) : rO (f_is_integer [.pl d]) = some (.sh (.bl (isIntE d))) := by
  obtain ⟨p, h1, _⟩ := h
  cases d with
  | obj => unfold toPyX at h1; cases h1
  | fls => unfold toPyX at h1; cases h1
  | _ => rfl
theorem pq_posts {L : List Int} (h : InN n L) (h60 : n ≤ 60) (hl : L.length ≤ 60) : Pq 2 3200 60 (iD L) := by
  have he : ∀ d ∈ L.map D.int, Eq2 1 d ∧ tl d ≤ 50 := fun d hd => by
    obtain ⟨v, hv, rfl⟩ := List.mem_map.mp hd
    have hv := h v hv
    exact ⟨eq2_int (small_45 (by omega)), (ep_int (small_45 (by omega))).2⟩
  have h2 := tlL_le (c := 50) fun d hd => (he d hd).2
  rw [List.length_map] at h2
  exact pq_lst (fun d hd => (he d hd).1) (by omega) (by rw [List.length_map]; exact hl)
theorem t_thing {B : O} {Q : O → List Sl → Prop} (hB : BagOk B) (hs : size = n) (h1 : 1 ≤ n) (h60 : n ≤ 60) (kk : ∀ (o : O) (d : D) (B' : O) (S : List Sl), fr o = d → Pq 10 30000 80 d → BagOk B' → S.getD 0 .no = .ow B' → Q o S) : wO (f__law_thing [.ow B, .pl (.int size)]) Q := by
  unfold f__law_thing
  rw [wO_mk]
  unfold m__law_thing
  walk_at "v"
  refine t_take hB (by omega) fun way B1 S1 w0 w1 hB1 e1 => ?_
  simp only [e1]
  walk_at "v"
  rw [s_if]
  walk_at "v"
  refine ⟨fun _ => ?_, fun _ => ?_⟩
  · refine t_oddT hB1 fun d0 B2 S2 hd0 hdh hB2 e2 => ?_
    simp only [e2]
    exact kk _ d0 B2 _ rfl ((pq_odd hd0 hdh).up (by omega) (by omega) (by omega)) hB2 rfl
  rw [s_if]
  walk_at "v"
  refine ⟨fun _ => ?_, fun _ => ?_⟩
  · refine t_take hB1 (by omega) fun a B2 S2 a0 a1 hB2 e2 => ?_
    simp only [e2]
    walk_at "v"
    refine ⟨.inl (by omega), ?_⟩
    rw [show dPow (D.int 10) (D.int 40) = some (.int (10 ^ 40)) from rfl]
    walk_at "v"
    have h10 : (1 : Int) ≤ 10 ^ 40 ∧ (10 : Int) ^ 40 < 2 ^ 200 := by decide +kernel
    refine t_take hB2 h10 fun b B3 S3 b0 b1 hB3 e3 => ?_
    simp only [e3]
    have hb : b.natAbs < 10 ^ 41 := by
      have : (10 : Int) ^ 40 ≤ ((10 ^ 41 : Nat) : Int) := by decide +kernel
      omega
    have hm : ((1 - 2 * a) * b).natAbs < 10 ^ 45 := by
      have h1 : (1 - 2 * a).natAbs ≤ 1 := by omega
      rw [Int.natAbs_mul]
      have h2 := Nat.mul_le_mul h1 (Nat.le_refl b.natAbs)
      have h3 : (10 : Nat) ^ 41 ≤ 10 ^ 45 := by decide +kernel
      omega
    walk_at "v"
    refine ⟨.inl (by omega), ?_⟩
    have hp := ep_int hm
    generalize (1 - 2 * a) * b = m at hp ⊢
    exact kk _ _ B3 _ rfl (pq_nl (d := .int m) (k := 10) (w := 30000) (l := 80) (hp.1.1.up (by omega)) (by have := hp.2; omega) (fun fs h => by cases h)) hB3 rfl
  refine t_some hB1 hs h1 h60 fun L B2 S2 hL hB2 e2 => ?_
  simp only [e2]
  walk_at "v"
  refine t_take hB2 (by omega) fun r B3 S3 r0 r1 hB3 e3 => ?_
  simp only [e3]
  walk_at "v"
  have hLl := hL.len
  have hLn : InN n L := hL.1
  refine ⟨by omega, ?_⟩
  with_reducible refine for_map (fun i S => ∃ (B : O) (d : D) (f : Sl), S = [.ow B, .pl (.int size), .pl (.int way), .pl d, f] ∧ BagOk B ∧ ∃ w, Pq (2 + 2 * i) w (60 + i) d ∧ (i = 0 → w ≤ 3200) ∧ (i = 1 → w ≤ 9710) ∧ w ≤ 29240) ⟨B3, _, _, rfl, hB3, 3200, pq_posts hLn h60 (by omega), fun _ => Nat.le_refl _, fun h => (by cases h), by omega⟩ ?_ ?_
  · rintro i v S hv ⟨B4, d, f, rfl, hB4, w, hd, hw0, hw1, hw2⟩
    have hi : i < 2 := by
      have := (List.getElem?_eq_some_iff.mp hv).1
      rw [rng_len] at this
      omega
    walk_at "v"
    rw [s_if]
    walk_at "v"
    by_cases hde : ∃ fs, d = .lst fs
    · obtain ⟨fs, rfl⟩ := hde
      obtain ⟨g1, g2, g3⟩ := hd.2.2 fs rfl
      rw [isi_ly]
      walk_at "v"
      refine ⟨fun _ => ?_, fun z => (by cases z)⟩
      refine t_bset (k := 1 + 2 * i) hB4 hs h1 h60 (fun d hd => (g1 d hd).up (by omega)) g2 (by omega) fun o d' B5 S5 h0 hP hB5 e5 => ?_
      simp only [e5]
      rw [h0]
      exact ⟨B5, d', _, rfl, hB5, 3 * w + 110, hP.up (by omega) (Nat.le_refl _) (by omega), fun h => (by omega), fun h => (by omega), by omega⟩
    · rw [isi_ln hd.1 fun es h => hde ⟨es, h⟩]
      walk_at "v"
      exact ⟨fun z => (by cases z), fun _ => ⟨B4, d, _, rfl, hB4, w, hd.up (by omega) (Nat.le_refl _) (by omega), fun h => (by omega), fun h => (by omega), by omega⟩⟩
  · rw [rng_len]
    rintro S ⟨B4, d, f, rfl, hB4, w, hd, hw0, hw1, hw2⟩
    walk_at "v"
    exact kk _ d B4 _ rfl (hd.up (by omega) (by omega) (by omega)) hB4 rfl
/-- lists in lists -/
def deepD : Nat → D
  | 0 => .lst []
  | i + 1 => .lst [deepD i]
theorem deep_rp : ∀ i, Rp (i + 1) (deepD i)
  | 0 => (rp_lst (k := 0) (ds := []) fun d hd => nomatch hd).1
  | i + 1 => (rp_lst (k := i + 1) (ds := [deepD i]) fun d hd => by rw [List.mem_singleton.mp hd]; exact deep_rp i).1
theorem unl_rep : ∀ n : Nat, (unl (List.replicate n (0 : Int))).length ≤ 1
  | 0 => Nat.zero_le _
  | 1 => Nat.le_refl _
  | n + 2 => by
    have ih := unl_rep (n + 1)
    rw [List.replicate_succ]
    unfold unl
    rw [if_pos (by simp)]
    exact ih
theorem deep_set {size : Int} (i : Nat) (hi : i ≤ 50) : rO (f_is_set [.pl (deepD (i + 2)), .pl (.int size)]) = some (.sh (.bl false)) := by
  rw [ra_is_set (deep_rp (i + 2)) fun es he => ?_]
  · rfl
  · have e : es = [deepD (i + 1)] := by
      have : D.lst [deepD (i + 1)] = .lst es := he
      injection this with h
      exact h.symm
    rw [e]
    exact ⟨by simp, fun d hd => by rw [List.mem_singleton.mp hd]; exact (deep_rp (i + 1)).up (by omega)⟩
theorem deep_int (i : Nat) : rO (f_is_integer [.pl (deepD i)]) = some (.sh (.bl false)) := by
  rw [any_int (deep_rp i)]
  cases i <;> rfl
theorem setB_rep (n : Nat) : setB (List.replicate (n + 2) (0 : Int)) = false := by
  unfold setB
  rw [decide_eq_false (by simp [List.nodup_replicate])]
  rfl
theorem many_set (n : Nat) (hn : n + 2 ≤ 16777216) : rO (f_is_set [.pl (iD (List.replicate (n + 2) [(0 : Int)]).flatten), .pl (.int 60)]) = some (.sh (.bl false)) := by
  rw [List.flatten_replicate_singleton, r_is_set (fun w hw => by have := List.eq_of_mem_replicate hw; omega) (.inr ⟨by rw [List.length_replicate]; exact hn, by have := unl_rep (n + 2); omega⟩), setB_rep]
theorem is_one {v size : Int} (h : 0 ≤ v ∧ v < size) : rO (f_is_set [.pl (iD [v]), .pl (.int size)]) = some (.sh (.bl true)) := by
  rw [r_is_set (fun w hw => by rw [List.mem_singleton.mp hw]; exact h) (.inl (by simp)), setB_ok (by simp)]
theorem is_nil {size : Int} : rO (f_is_set [.pl (iD []), .pl (.int size)]) = some (.sh (.bl true)) := by
  rw [r_is_set (ws := []) (fun w hw => by cases hw) (.inl (by simp)), setB_ok (by simp)]
theorem no_one : rO (f_is_set [.pl (iD [59]), .pl (.int 59)]) = some (.sh (.bl false)) := by
  show rO (f_is_set [.pl (.lst [.int 59]), .pl (.int 59)]) = _
  rw [ra_is_set (k := 1) (ep_lst (ds := [D.int 59]) (ep_one (ep_int (i := 59) (by decide)).1)).1 fun es he => ?_]
  · rfl
  · have e : es = [D.int 59] := by
      have : D.lst [D.int 59] = .lst es := he
      injection this with h
      exact h.symm
    rw [e]
    exact ⟨by simp, fun d hd => by rw [List.mem_singleton.mp hd]; exact (ep_int (i := 59) (by decide)).1.1.up (by omega)⟩
end
theorem law_goal (ns : List Int) (hl : ns.length ≤ 63) : wO (W.f_law [.pl (.fls (ns.map .int))]) fun o _ => o = .sh (.bl true) := by
  unfold f_law
  rw [wO_mk]
  unfold m_law
  walk_at "v"
  obtain ⟨B, e, hB⟩ := rO_ex (t_bag (ns := ns) (Q := fun o _ => BagOk o) fun B _ h => h)
  rw [e]
  walk_at "v"
  rw [bag_sl hB]
  refine ⟨by decide, ?_⟩
  refine for_keep (fun S => ∃ (s0 : Sl) (B : O) (a b c d e f g : Sl), S = [s0, .ow B, a, b, c, d, e, f, g] ∧ BagOk B) ⟨_, B, _, _, _, _, _, _, _, rfl, hB⟩ ?_ ?_
  · rintro x hx S ⟨s0, B, a, b, c, d, e, f, g, rfl, hB⟩
    walk_at "v"
    refine t_take hB (by omega) fun q B1 S1 q0 q1 hB1 e1 => ?_
    simp only [e1]
    walk_at "v"
    refine t_take hB1 (by omega) fun r B2 S2 r0 r1 hB2 e2 => ?_
    simp only [e2]
    walk_at "v"
    obtain ⟨size, hsd, es⟩ := at_mem (xs := ([1, 2, 3, 8, 60, 1 + q] : List Int)) r0 (by show r < 6; omega)
    rw [es]
    obtain ⟨n, hn, hn1, hn2⟩ : ∃ n : Nat, size = n ∧ 1 ≤ n ∧ n ≤ 60 := by
      simp only [List.mem_cons, List.not_mem_nil, or_false] at hsd
      exact ⟨size.toNat, by omega, by omega, by omega⟩
    clear es hsd
    walk_at "v"
    refine t_thing hB2 hn hn1 hn2 fun o d0 B3 S3 h0 hd hB3 e3 => ?_
    simp only [e3]
    rw [h0]
    obtain ⟨txt, hxk, htx⟩ := rp_repr hd.1 (by omega) (by have := hd.2.1; omega)
    rw [htx]
    walk_at "v"
    rw [any_whole hd.1]
    walk_at "v"
    have hls := ra_law_set (size := size) hd.1 (fun fs hf => by
      obtain ⟨g1, g2, g3⟩ := hd.2.2 fs hf
      exact ⟨by omega, fun e he => (g1 e he).1⟩) (by omega)
    have his := ra_is_set (size := size) hd.1 (fun fs hf => by
      obtain ⟨g1, g2, g3⟩ := hd.2.2 fs hf
      exact ⟨by omega, fun e he => (g1 e he).1.1⟩)
    rw [hls]
    walk_at "v"
    have hbl : ∀ e ∈ [D.bl (isIntE d0), D.bl (setD size d0)], Ep 0 e ∧ tl e ≤ 50 := fun e he => by
      simp only [List.mem_cons, List.not_mem_nil, or_false] at he
      rcases he with rfl | rfl
      · exact ep_bl
      · exact ep_bl
    have hrb := rp_lst (k := 0) fun e he => (hbl e he).1.1
    have htl := tlL_le (c := 50) fun e he => (hbl e he).2
    have hln : [D.bl (isIntE d0), D.bl (setD size d0)].length = 2 := rfl
    rw [hln] at htl
    obtain ⟨txt2, hxk2, htx2⟩ := rp_repr hrb.1 (by omega) (by have := hrb.2; omega)
    rw [show dLst [D.bl (isIntE d0), D.bl (setD size d0)] = some (.lst (([D.bl (isIntE d0), D.bl (setD size d0)] : List D).map .sh)) from rfl]
    simp only [wF_some, fr_lsh]
    refine ⟨by omega, ?_⟩
    with_reducible refine for_keep (fun S => ∃ (g : Sl), S = [s0, .ow B3, .pl (.int x), b, .pl (.int size), .pl d0, .pl (.str txt), .pl (.lst [D.bl (isIntE d0), D.bl (setD size d0)]), g]) ⟨g, rfl⟩ ?_ ?_
    · rintro y hy S ⟨g, rfl⟩
      walk_at "v"
      rw [s_if]
      walk_at "v"
      rw [any_int hd.1]
      walk_at "v"
      rw [his]
      walk_at "v"
      rw [show dLst [D.bl (isIntE d0), D.bl (setD size d0)] = some (.lst (([D.bl (isIntE d0), D.bl (setD size d0)] : List D).map .sh)) from rfl]
      simp only [wF_some, fr_lsh, htx2]
      rw [ne_str2 hxk2]
      walk_at "v"
      refine ⟨fun hc => (by cases hc), fun _ => ?_⟩
      rw [htx]
      walk_at "v"
      rw [ne_str2 hxk]
      walk_at "v"
      exact ⟨fun hc => (by cases hc), fun _ => ⟨_, rfl⟩⟩
    · rintro S ⟨g, rfl⟩
      exact ⟨_, _, _, _, _, _, _, _, _, rfl, hB3⟩
  · rintro S ⟨s0, B, a, b, c, d, e, f, g, rfl, hB⟩
    walk_at "v"
    refine ⟨by omega, ?_⟩
    have h0 : ∃ a' : Sl, [s0, Sl.ow B, a, .pl (iD []), c, d, e, f, g] = [s0, .ow B, a', .pl (deepD 0), c, d, e, f, g] := ⟨a, rfl⟩
    with_reducible refine for_map (fun i S => ∃ (a : Sl), S = [s0, .ow B, a, .pl (deepD i), c, d, e, f, g]) h0 ?_ ?_
    · rintro i v S hv ⟨a, rfl⟩
      walk_at "v"
      rw [show dLst [deepD i] = some (.lst (([deepD i] : List D).map .sh)) from rfl, wF_some, fr_lsh]
      exact ⟨_, rfl⟩
    · rw [rng_len]
      rintro S ⟨a, rfl⟩
      walk_at "v"
      rw [s_if]
      walk_at "v"
      rw [show (19 - 0 : Int).toNat = 17 + 2 from rfl, deep_set 17 (by omega), deep_int, show Int.toNat 4999 = 4997 + 2 from rfl, many_set 4997 (by omega), is_one (by omega), is_nil, no_one]
      walk_at "v"
      exact ⟨fun z => (by cases z), fun _ => ⟨by omega, fun z => (by cases z), fun _ => ⟨fun z => (by cases z), fun _ => ⟨fun _ => ⟨fun _ => rfl, fun z => (by cases z)⟩, fun z => (by cases z)⟩⟩⟩⟩
theorem law_ok (ns : List Int) (hl : ns.length ≤ 63) : ∃ S, W.f_law [.pl (.fls (ns.map D.int))] = .ok (.sh (.bl true)) S := by
  have h := law_goal ns hl
  unfold wO at h
  cases e : W.f_law [.pl (.fls (ns.map D.int))] with
  | ok o S =>
    rw [e] at h
    have h' : o = .sh (.bl true) := h
    exact ⟨S, by rw [h']⟩
  | exc _ _ _ _ => rw [e] at h; exact h.elim
  | bad => rw [e] at h; exact h.elim
end W

namespace W
open PySem PySem.Spec PyProof.Rows L2 Z
def nm0 : List PySem.Str := ["is_integer", "is_post", "are_posts", "is_set", "_law_bag", "_law_take", "_law_some", "_law_whole", "_law_is_set", "_law_bent_set", "_law_odd_thing", "_law_thing"]
def nms : List PySem.Str := nm0
abbrev R : PySem.W.OpenRow := PySem.W.OpenLaw.row PySem.Challenge.rw_oddposts_k11_kinds
abbrev hk : PySem.W.Hook := Z.hookW 5 exs fa fn
def ob (s : PySem.W.SharedT) : Bool × He.AlD := Z.obsW 5 exs fa fn (HandSHeadRun.getT s)
theorem ob_eq (s : PySem.W.SharedT) : ob s = hk.obs s.abs := Z.obsW_eq (HandSHeadRun.getT_eq s)
open PySem.W PySem.Calls in
theorem runA (w : World) (os : PySem.OsState) : (HandSHeadRun.endF (HandSHeadRun.stepQ (HandSHeadRun.denQ HandSHeadRun.tabQ) R.prog w) 4000 R.prog w os).map (fun s => HandSHeadRun.looksF R.prog (boot_heap w.params) s.abs) = some true := by
  kernel_rfl
open PySem.W PySem.Calls in
theorem runB (w : World) (os : PySem.OsState) : (HandSHeadRun.endF (HandSHeadRun.stepQ (HandSHeadRun.denQ HandSHeadRun.tabQ) R.prog w) 4000 R.prog w os).map (fun s => HandSHeadRun.seenQ (PySem.W.view R.prog [14]) nms (importedModules R.prog.main.body) (fun s => xlAt (PySem.W.view R.prog [14]) [] s && recOk R.toRowW.records s) s.abs) = some (openGood (PySem.W.view R.prog [14]) nms) := by
  kernel_rfl
open PySem.W PySem.Calls in
theorem runC (w : World) (os : PySem.OsState) : (HandSHeadRun.endF (HandSHeadRun.stepQ (HandSHeadRun.denQ HandSHeadRun.tabQ) R.prog w) 4000 R.prog w os).map ob = some (hk.val w) := by
  kernel_rfl
theorem map3 {α β γ δ : Type} {x : Option α} {f : α → β} {g : α → γ} {h : α → δ} {a : β} {b : γ} {c : δ} (p : x.map f = some a) (q : x.map g = some b) (r : x.map h = some c) : x.map (fun s => (f s, g s, h s)) = some (a, b, c) := by
  cases x with
  | none => cases p
  | some s =>
    cases p
    cases q
    cases r
    rfl
theorem run (w : World) : HandSHeadRun.RunEq R (PySem.W.view R.prog [14]) hk ob 4000 nms w := fun os => map3 (runA w os) (runB w os) (runC w os)

end W
open PySem PySem.W PySem.Calls PyProof.Rows
theorem PySem.Challenge.cw_oddposts_k11_kinds_holds : PySem.Challenge.rw_oddposts_k11_kinds.Holds := by
  w_on; o_law
  refine HandSHeadRun.head_any (r := OpenLaw.row PySem.Challenge.rw_oddposts_k11_kinds) (q := view (OpenLaw.row PySem.Challenge.rw_oddposts_k11_kinds).prog [14]) (H := W.hk) (ob := W.ob) (M := 4000) (loose := W.nms) (d := HandSHeadRun.topDef (OpenLaw.row PySem.Challenge.rw_oddposts_k11_kinds).prog 14) (kwd := []) W.ob_eq
    (by kernel_rfl) (fun s => by kernel_rfl) W.run (by kernel_rfl) (by kernel_rfl) (by kernel_rfl) (by rfl) (by first | assumption | decide +kernel) (by decide +kernel) ⟨rfl, rfl, rfl, rfl, rfl, by decide +kernel⟩ ?hw ?hc
  case hw => w_witness2
  case hc =>
    refine Z.walkG (l := PySem.Challenge.rw_oddposts_k11_kinds) (n := 63) (k := 5) (x := "_law_script") rfl (by decide) (by kernel_rfl) ⟨rfl, by decide, by decide⟩ ?F
    intro w mg fa h Y G hmg0
    obtain ⟨K, KX, cc, xx⟩ := Y
    have hmg : mg ("law" : PySem.Str) = some (.ref fa) := by
      have e : (HandSHeadRun.topDef (OpenLaw.row PySem.Challenge.rw_oddposts_k11_kinds).prog 14).name = ("law" : PySem.Str) := by kernel_rfl
      rw [← e]
      exact hmg0
    have e := hmg.symm.trans (He.glo_ok KX G (cc.fact 24 (f := .glo "law") rfl))
    cases e
    obtain ⟨fd, F⟩ := cc.def_ 12 (d := W.d_law) rfl
    have b := L2.FunD.bindsA (ps := ["_law_script"]) F fun _ _ _ _ _ _ us hl => match us, hl with | [_], _ => rfl
    refine ⟨K, fd, Z.spM (W.ev K) 1 [] W.f_law, KX, fun s v => b s [v] rfl, fun H a ns hl hO hS => Z.law_sp hO hS (W.law_ok ns hl), fun base kb nb => ?_⟩
    exact W.bd_law (P := (PySem.Challenge.rw_oddposts_k11_kinds).prog) (w := w) (base := base) KX G cc xx F

