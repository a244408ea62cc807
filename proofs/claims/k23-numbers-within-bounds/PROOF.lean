import PyProof.Rows.All
import Wide.All
import OpenK.AllK
import Wide.FinOn
import KE.KStateDown
import Lean
import HandS.ForMost
import HandS.IsInst
import HandS.Wide
import HandS.Style
import HandS.Deep
import HandS.TryOnly
import HandS.SortInts
import HandS.DictComp
import KE.KDictList
import HandS.Finally
import KE.SortData
import HandS.Conv
import HandS.Defaults
import HandS.Head0
import HandS.Head1
import HandS.Head2
import HandS.HeadEnd
import PyProof.ReprRoads
import PyProof.ReprBulk
import HandS.RaiseMore
import HandS.SetFor
import HandS.Strs
import HandS.Exc
import HandS.ExcOwn
import HandS.WordsExc
import HandS.HeadHook1
import HandS.Defaults
import HandS.Head0
import HandS.Head1
import HandS.Head2
import HandS.HeadEnd
import HandS.HeadHook1
import HandS.HeadHook2
import HandS.HeadNt
import PySem.Challenge.RW_pairsfar_k23_numbers_within_bounds
set_option Elab.async false
set_option linter.all false
set_option maxRecDepth 100000
set_option maxHeartbeats 4000000
set_option Elab.async false
set_option linter.all false
set_option maxRecDepth 100000
/-! DL1: data, slots, states -/
namespace DL
open PySem PySem.Spec PyProof.Rows L2

/-- plain data -/
inductive D where
  | non | bl (b : Bool) | int (i : Int) | str (x : Str) | tup (xs : List D) | lst (xs : List D) | dk (kvs : List (Key × D)) | dt (kvs : List (List Key × D)) | rol (xs : List D) | rot (xs : List D) | raw (v : V)

mutual
inductive Dn (K : PySem.W.Frag) (B : Hp) : V → D → Prop
  | non : Dn K B .non .non
  | bl (b : Bool) : Dn K B (.bl b) (.bl b)
  | int (i : Int) : Dn K B (.int i) (.int i)
  | str (x : Str) : Dn K B (.str x) (.str x)
  | tup {a : Addr} {xs : List V} {ds : List D} : B a = some (.tup xs) → DnA K B xs ds → Dn K B (.ref a) (.tup ds)
  | rot {a : Addr} {xs : List V} {ds : List D} : SqT K B a xs → DnA K B xs ds → Dn K B (.ref a) (.rot ds)
  | lst {a : Addr} {xs : List V} {ds : List D} : B a = some (.lst xs) → DnA K B xs ds → Dn K B (.ref a) (.lst ds)
  | rol {a : Addr} {xs : List V} {ds : List D} : SqL K B a xs → DnA K B xs ds → Dn K B (.ref a) (.rol ds)
  | dk {a : Addr} {kvs : List (Key × V)} {es : List (Key × D)} : B a = some (.dK kvs) → DnK K B kvs es → Dn K B (.ref a) (.dk es)
  | dt {a : Addr} {kvs : List (List Key × V)} {es : List (List Key × D)} : B a = some (.dT kvs) → DnT K B kvs es → Dn K B (.ref a) (.dt es)
  | raw (v : V) : Dn K B v (.raw v)
inductive DnA (K : PySem.W.Frag) (B : Hp) : List V → List D → Prop
  | nil : DnA K B [] []
  | cons {v : V} {vs : List V} {d : D} {ds : List D} : Dn K B v d → DnA K B vs ds → DnA K B (v :: vs) (d :: ds)
inductive DnK (K : PySem.W.Frag) (B : Hp) : List (Key × V) → List (Key × D) → Prop
  | nil : DnK K B [] []
  | cons {k : Key} {v : V} {vs : List (Key × V)} {d : D} {ds : List (Key × D)} : Dn K B v d → DnK K B vs ds → DnK K B ((k, v) :: vs) ((k, d) :: ds)
inductive DnT (K : PySem.W.Frag) (B : Hp) : List (List Key × V) → List (List Key × D) → Prop
  | nil : DnT K B [] []
  | cons {k : List Key} {v : V} {vs : List (List Key × V)} {d : D} {ds : List (List Key × D)} : Dn K B v d → DnT K B vs ds → DnT K B ((k, v) :: vs) ((k, d) :: ds)
end

variable {K : PySem.W.Frag} {B B' H H' : Hp}

theorem Same.rd {a : Addr} {u : HO} (e : Same B B') (h : Rd B a u) : Rd B' a u := by
  rcases h with h | ⟨o, h⟩
  · exact .inl (e _ _ h)
  · exact .inr ⟨o, e _ _ h⟩
theorem Same.seqT {a : Addr} {xs : List V} (e : Same B B') (h : SqT K B a xs) : SqT K B' a xs := by
  rcases h with h | h
  · exact .inl (Same.rd e h)
  · exact .inr h
mutual
theorem Dn.mono (e : Same B B') : ∀ {v : V} {d : D}, Dn K B v d → Dn K B' v d
  | _, _, .non => .non
  | _, _, .bl b => .bl b
  | _, _, .int b => .int b
  | _, _, .str b => .str b
  | _, _, .tup h t => .tup (e _ _ h) (DnA.mono e t)
  | _, _, .rot h t => .rot (Same.seqT e h) (DnA.mono e t)
  | _, _, .lst h t => .lst (e _ _ h) (DnA.mono e t)
  | _, _, .rol h t => .rol (e.seq h) (DnA.mono e t)
  | _, _, .dk h t => .dk (e _ _ h) (DnK.mono e t)
  | _, _, .dt h t => .dt (e _ _ h) (DnT.mono e t)
  | _, _, .raw v => .raw v
theorem DnA.mono (e : Same B B') : ∀ {v : List V} {d : List D}, DnA K B v d → DnA K B' v d
  | _, _, .nil => .nil
  | _, _, .cons h t => .cons (Dn.mono e h) (DnA.mono e t)
theorem DnK.mono (e : Same B B') : ∀ {v : List (Key × V)} {d : List (Key × D)}, DnK K B v d → DnK K B' v d
  | _, _, .nil => .nil
  | _, _, .cons h t => .cons (Dn.mono e h) (DnK.mono e t)
theorem DnT.mono (e : Same B B') : ∀ {v : List (List Key × V)} {d : List (List Key × D)}, DnT K B v d → DnT K B' v d
  | _, _, .nil => .nil
  | _, _, .cons h t => .cons (Dn.mono e h) (DnT.mono e t)
end

/-! ### lists of data -/
theorem DnA.length : ∀ {vs : List V} {ds : List D}, DnA K B vs ds → vs.length = ds.length
  | _, _, .nil => rfl
  | _, _, .cons _ t => congrArg (· + 1) (DnA.length t)
theorem DnA.get : ∀ {vs : List V} {ds : List D} {i : Nat} {d : D}, DnA K B vs ds → ds[i]? = some d → ∃ v, vs[i]? = some v ∧ Dn K B v d
  | _, _, _, _, .nil, e => by simp at e
  | _, _, 0, _, .cons h _, e => by simp at e; subst e; exact ⟨_, rfl, h⟩
  | _, _, i + 1, d, .cons _ t, e => by
    obtain ⟨v, h1, h2⟩ := DnA.get (i := i) (d := d) t (by simpa using e)
    exact ⟨v, by simpa using h1, h2⟩
theorem DnA.get' : ∀ {vs : List V} {ds : List D} {i : Nat} {v : V}, DnA K B vs ds → vs[i]? = some v → ∃ d, ds[i]? = some d ∧ Dn K B v d
  | _, _, _, _, .nil, e => by simp at e
  | _, _, 0, _, .cons h _, e => by simp at e; subst e; exact ⟨_, rfl, h⟩
  | _, _, i + 1, d, .cons _ t, e => by
    obtain ⟨v, h1, h2⟩ := DnA.get' (i := i) (v := d) t (by simpa using e)
    exact ⟨v, by simpa using h1, h2⟩
theorem DnA.append : ∀ {vs ws : List V} {ds es : List D}, DnA K B vs ds → DnA K B ws es → DnA K B (vs ++ ws) (ds ++ es)
  | _, _, _, _, .nil, s => s
  | _, _, _, _, .cons r t, s => .cons r (DnA.append t s)
theorem DnA.set {x : V} {d : D} (r : Dn K B x d) : ∀ {xs : List V} {ds : List D} (i : Nat), DnA K B xs ds → DnA K B (xs.set i x) (ds.set i d)
  | _, _, _, .nil => .nil
  | _, _, 0, .cons _ t => .cons r t
  | _, _, i + 1, .cons q t => .cons q (DnA.set r i t)
theorem DnA.take : ∀ {xs : List V} {ds : List D} (n : Nat), DnA K B xs ds → DnA K B (xs.take n) (ds.take n)
  | _, _, 0, _ => .nil
  | _, _, _ + 1, .nil => .nil
  | _, _, n + 1, .cons r t => .cons r (DnA.take n t)
theorem DnA.drop : ∀ {xs : List V} {ds : List D} (n : Nat), DnA K B xs ds → DnA K B (xs.drop n) (ds.drop n)
  | _, _, 0, r => r
  | _, _, _ + 1, .nil => .nil
  | _, _, n + 1, .cons _ t => DnA.drop n t
theorem DnA.reverse : ∀ {xs : List V} {ds : List D}, DnA K B xs ds → DnA K B xs.reverse ds.reverse
  | _, _, .nil => .nil
  | _, _, .cons r t => by
    rw [List.reverse_cons, List.reverse_cons]
    exact (DnA.reverse t).append (.cons r .nil)
theorem DnA.one {v : V} {d : D} (h : Dn K B v d) : DnA K B [v] [d] := .cons h .nil
theorem DnA.replicate {v : V} {d : D} (h : Dn K B v d) : ∀ n, DnA K B (List.replicate n v) (List.replicate n d)
  | 0 => .nil
  | n + 1 => .cons h (DnA.replicate h n)
theorem DnA.flatten_replicate {vs : List V} {ds : List D} (h : DnA K B vs ds) : ∀ n, DnA K B (List.replicate n vs).flatten (List.replicate n ds).flatten
  | 0 => .nil
  | n + 1 => by
    rw [List.replicate_succ, List.replicate_succ, List.flatten_cons, List.flatten_cons]
    exact h.append (DnA.flatten_replicate h n)
theorem DnA.ints : ∀ {vs : List V} {ns : List Int}, DnA K B vs (ns.map D.int) → vs = ns.map V.int
  | _, [], .nil => rfl
  | _, n :: r, .cons (.int _) t => congrArg (V.int n :: ·) (DnA.ints t)
theorem DnA.of_ints : ∀ ns : List Int, DnA K B (ns.map V.int) (ns.map D.int)
  | [] => .nil
  | n :: r => .cons (.int n) (DnA.of_ints r)
theorem DnA.strs : ∀ {vs : List V} {ns : List Str}, DnA K B vs (ns.map D.str) → vs = ns.map V.str
  | _, [], .nil => rfl
  | _, n :: r, .cons (.str _) t => congrArg (V.str n :: ·) (DnA.strs t)
theorem DnA.of_strs : ∀ ns : List Str, DnA K B (ns.map V.str) (ns.map D.str)
  | [] => .nil
  | n :: r => .cons (.str n) (DnA.of_strs r)

/-! ### the frozen part of a heap -/
def isDict : HO → Prop
  | .dK _ => True
  | .dT _ => True
  | _ => False
/-- B is part of H; a dict that stands in B may be locked in H -/
def Sub (B H : Hp) : Prop := ∀ a o, B a = some o → H a = some o ∨ (isDict o ∧ ∃ ob, H a = some (.frz ob o))
theorem Sub.lst {a : Addr} {xs : List V} (s : Sub B H) (h : B a = some (.lst xs)) : H a = some (.lst xs) := by
  rcases s _ _ h with e | ⟨m, _⟩
  · exact e
  · exact m.elim
theorem Sub.tup {a : Addr} {xs : List V} (s : Sub B H) (h : B a = some (.tup xs)) : H a = some (.tup xs) := by
  rcases s _ _ h with e | ⟨m, _⟩
  · exact e
  · exact m.elim
theorem Sub.refl (H : Hp) : Sub H H := fun _ _ h => .inl h
theorem Sub.there {a : Addr} (s : Sub B H) (h : H a = none) : B a = none := by
  cases q : B a with
  | none => rfl
  | some o =>
    rcases s a o q with e | ⟨_, _, e⟩ <;> rw [e] at h <;> cases h
theorem Sub.rd {a : Addr} {u : HO} (s : Sub B H) (h : Rd B a u) : Rd H a u := by
  rcases h with h | ⟨o, h⟩
  · rcases s _ _ h with e | ⟨_, ob, e⟩
    · exact .inl e
    · exact .inr ⟨ob, e⟩
  · rcases s _ _ h with e | ⟨m, ob, e⟩
    · exact .inr ⟨o, e⟩
    · exact m.elim
theorem Sub.seq {a : Addr} {xs : List V} (s : Sub B H) (h : SqL K B a xs) : SqL K H a xs := by
  rcases h with h | h
  · exact .inl (s.rd h)
  · exact .inr h
theorem Sub.seqT {a : Addr} {xs : List V} (s : Sub B H) (h : SqT K B a xs) : SqT K H a xs := by
  rcases h with h | h
  · exact .inl (s.rd h)
  · exact .inr h
/-- all that stands in H outside of F stands in H' -/
def Keep (H : Hp) (F : List Addr) (H' : Hp) : Prop := ∀ a o, H a = some o → a ∉ F → H' a = some o
theorem Sub.keep {F : List Addr} (s : Sub B H) (hF : ∀ a ∈ F, B a = none) (k : Keep H F H') : Sub B H' := fun a o h => by
  have nf : a ∉ F := fun m => by rw [hF a m] at h; cases h
  rcases s a o h with e | ⟨m, ob, e⟩
  · exact .inl (k _ _ e nf)
  · exact .inr ⟨m, ob, k _ _ e nf⟩

/-! ### slots -/
/-- what an owned object is: its content, over the frozen part, its addresses -/
abbrev ResT := PySem.W.Frag → Hp → Hp → V → List Addr → Prop
structure ROk (R : ResT) : Prop where
  mono : ∀ {K B B' H v F}, Same B B' → R K B H v F → R K B' H v F
  loc : ∀ {K B H H' v F}, (∀ a ∈ F, ∀ o, H a = some o → H' a = some o) → R K B H v F → R K B H' v F
  there : ∀ {K B H v F}, R K B H v F → ∀ a ∈ F, H a ≠ none
inductive Sk where
  | un
  | im (d : D)
  | ow (oa : Option V) (R : ResT)
/-- a list of one's own -/
def rLst (ds : List D) : ResT := fun K B H v F => ∃ a vs, v = .ref a ∧ F = [a] ∧ H a = some (.lst vs) ∧ DnA K B vs ds
def rDk (es : List (Key × D)) : ResT := fun K B H v F => ∃ a kvs, v = .ref a ∧ F = [a] ∧ H a = some (.dK kvs) ∧ DnK K B kvs es
def rDt (es : List (List Key × D)) : ResT := fun K B H v F => ∃ a kvs, v = .ref a ∧ F = [a] ∧ H a = some (.dT kvs) ∧ DnT K B kvs es
theorem rLst_ok {ds : List D} : ROk (rLst ds) where
  mono := fun e ⟨a, vs, h1, h2, h3, h4⟩ => ⟨a, vs, h1, h2, h3, h4.mono e⟩
  loc := fun e ⟨a, vs, h1, h2, h3, h4⟩ => ⟨a, vs, h1, h2, e a (by rw [h2]; exact List.mem_singleton_self a) _ h3, h4⟩
  there := fun ⟨a, vs, h1, h2, h3, h4⟩ b hb => by rw [h2] at hb; rw [List.mem_singleton.mp hb, h3]; exact nofun
theorem rDk_ok {ds : List (Key × D)} : ROk (rDk ds) where
  mono := fun e ⟨a, vs, h1, h2, h3, h4⟩ => ⟨a, vs, h1, h2, h3, h4.mono e⟩
  loc := fun e ⟨a, vs, h1, h2, h3, h4⟩ => ⟨a, vs, h1, h2, e a (by rw [h2]; exact List.mem_singleton_self a) _ h3, h4⟩
  there := fun ⟨a, vs, h1, h2, h3, h4⟩ b hb => by rw [h2] at hb; rw [List.mem_singleton.mp hb, h3]; exact nofun
theorem rDt_ok {ds : List (List Key × D)} : ROk (rDt ds) where
  mono := fun e ⟨a, vs, h1, h2, h3, h4⟩ => ⟨a, vs, h1, h2, h3, h4.mono e⟩
  loc := fun e ⟨a, vs, h1, h2, h3, h4⟩ => ⟨a, vs, h1, h2, e a (by rw [h2]; exact List.mem_singleton_self a) _ h3, h4⟩
  there := fun ⟨a, vs, h1, h2, h3, h4⟩ b hb => by rw [h2] at hb; rw [List.mem_singleton.mp hb, h3]; exact nofun

inductive Sl (K : PySem.W.Frag) (B H : Hp) : List Sk → L2.St → List Addr → Prop
  | nil : Sl K B H [] [] []
  | un {Δ σ F} (o : Option V) : Sl K B H Δ σ F → Sl K B H (.un :: Δ) (o :: σ) F
  | im {Δ σ F} {v : V} {d : D} : Dn K B v d → Sl K B H Δ σ F → Sl K B H (.im d :: Δ) (some v :: σ) F
  | ow {Δ σ F} {v : V} {oa : Option V} {R : ResT} {G : List Addr} : ROk R → (∀ u, oa = some u → v = u) → R K B H v G → Sl K B H Δ σ F → Sl K B H (.ow oa R :: Δ) (some v :: σ) (G ++ F)

theorem Sl.length {Δ : List Sk} {σ : L2.St} {F : List Addr} (h : Sl K B H Δ σ F) : σ.length = Δ.length := by
  induction h with
  | nil => rfl
  | un _ _ ih => exact congrArg (· + 1) ih
  | im _ _ ih => exact congrArg (· + 1) ih
  | ow _ _ _ _ ih => exact congrArg (· + 1) ih
theorem Sl.there {Δ : List Sk} {σ : L2.St} {F : List Addr} (h : Sl K B H Δ σ F) : ∀ a ∈ F, H a ≠ none := by
  induction h with
  | nil => exact fun _ m => nomatch m
  | un _ _ ih => exact ih
  | im _ _ ih => exact ih
  | ow ok _ r _ ih => exact fun a m => (List.mem_append.mp m).elim (ok.there r a) (ih a)
theorem Sl.frame {Δ : List Sk} {σ : L2.St} {F : List Addr} (h : Sl K B H Δ σ F) (e : Same B B') (k : ∀ a ∈ F, ∀ o, H a = some o → H' a = some o) : Sl K B' H' Δ σ F := by
  induction h with
  | nil => exact .nil
  | un o _ ih => exact .un o (ih k)
  | im d _ ih => exact .im (d.mono e) (ih k)
  | ow ok p r _ ih => exact .ow ok p (ok.mono e (ok.loc (fun a m => k a (List.mem_append_left _ m)) r)) (ih fun a m => k a (List.mem_append_right _ m))

structure At (K : PySem.W.Frag) (B H : Hp) (F : List Addr) (Δ : List Sk) (σ : L2.St) : Prop where
  sub : Sub B H
  sl : Sl K B H Δ σ F
  nd : F.Nodup
  out : ∀ a ∈ F, B a = none

/-- from (B, H, F) to (B', H', F'): what is frozen stays, what is not one's own stays, what is new is new -/
structure Stp (B H : Hp) (F : List Addr) (B' H' : Hp) (F' : List Addr) : Prop where
  sub : Same B B'
  keep : Keep H F H'
  newF : ∀ a ∈ F', a ∈ F ∨ H a = none
  newB : ∀ a, B' a ≠ none → B a ≠ none ∨ a ∈ F ∨ H a = none
  all : ∀ a, H a ≠ none → H' a ≠ none

theorem Stp.refl {F : List Addr} : Stp B H F B H F := ⟨Same.refl _, fun _ _ h _ => h, fun _ h => .inl h, fun _ h => .inl h, fun _ h => h⟩
theorem Stp.trans {B1 H1 : Hp} {F F1 F' : List Addr} (a : Stp B H F B1 H1 F1) (b : Stp B1 H1 F1 B' H' F') : Stp B H F B' H' F' where
  sub := a.sub.trans b.sub
  keep := fun x o h n => b.keep x o (a.keep x o h n) fun m => by
    rcases a.newF x m with q | q
    · exact n q
    · rw [h] at q; cases q
  newF := fun x m => by
    rcases b.newF x m with q | q
    · exact a.newF x q
    · refine .inr ?_
      cases e : H x with
      | none => rfl
      | some o => exact absurd q (a.all x (by rw [e]; exact nofun))
  newB := fun x m => by
    rcases b.newB x m with q | q | q
    · exact a.newB x q
    · rcases a.newF x q with z | z
      · exact .inr (.inl z)
      · exact .inr (.inr z)
    · refine .inr (.inr ?_)
      cases e : H x with
      | none => rfl
      | some o => exact absurd q (a.all x (by rw [e]; exact nofun))
  all := fun x h => b.all x (a.all x h)
/-- less is owned -/
theorem Stp.less {F F' F'' : List Addr} (a : Stp B H F B' H' F') (h : ∀ x ∈ F'', x ∈ F') : Stp B H F B' H' F'' := ⟨a.sub, a.keep, fun x m => a.newF x (h x m), a.newB, a.all⟩

/-! ### where a slot stands -/
theorem Sl.get_im {Δ : List Sk} {σ : L2.St} {F : List Addr} {i : Nat} {d : D} (h : Sl K B H Δ σ F) : Δ[i]? = some (.im d) → ∃ v, σ[i]? = some (some v) ∧ Dn K B v d := by
  induction h generalizing i with
  | nil => intro e; simp at e
  | un _ _ ih => cases i with
    | zero => intro e; simp at e
    | succ i => intro e; simpa using ih (by simpa using e)
  | im r _ ih => cases i with
    | zero => intro e; simp at e; subst e; exact ⟨_, rfl, r⟩
    | succ i => intro e; simpa using ih (by simpa using e)
  | ow _ _ _ _ ih => cases i with
    | zero => intro e; simp at e
    | succ i => intro e; simpa using ih (by simpa using e)
/-- an owned slot taken out: its footprint G, the others' F' -/
theorem Sl.get_ow {Δ : List Sk} {σ : L2.St} {F : List Addr} {i : Nat} {oa : Option V} {R : ResT} (h : Sl K B H Δ σ F) : Δ[i]? = some (.ow oa R) →
    ∃ v G F1 F2, σ[i]? = some (some v) ∧ F = F1 ++ (G ++ F2) ∧ ROk R ∧ (∀ u, oa = some u → v = u) ∧ R K B H v G ∧ Sl K B H (Δ.set i .un) σ (F1 ++ F2) := by
  induction h generalizing i with
  | nil => intro e; simp at e
  | un o s ih => cases i with
    | zero => intro e; simp at e
    | succ i =>
      intro e
      obtain ⟨v, G, F1, F2, h1, h2, h3, h4, h5, h6⟩ := ih (by simpa using e)
      exact ⟨v, G, F1, F2, by simpa using h1, h2, h3, h4, h5, .un o h6⟩
  | im r s ih => cases i with
    | zero => intro e; simp at e
    | succ i =>
      intro e
      obtain ⟨v, G, F1, F2, h1, h2, h3, h4, h5, h6⟩ := ih (by simpa using e)
      exact ⟨v, G, F1, F2, by simpa using h1, h2, h3, h4, h5, .im r h6⟩
  | @ow Δ σ F v oa' R' G ok p r s ih => cases i with
    | zero =>
      intro e
      simp at e
      obtain ⟨rfl, rfl⟩ := e
      exact ⟨v, G, [], F, rfl, rfl, ok, p, r, .un _ s⟩
    | succ i =>
      intro e
      obtain ⟨v', G', F1, F2, h1, h2, h3, h4, h5, h6⟩ := ih (by simpa using e)
      refine ⟨v', G', G ++ F1, F2, by simpa using h1, by rw [h2]; simp, h3, h4, h5, ?_⟩
      rw [List.append_assoc]
      exact .ow ok p r h6
/-- a slot set: the elder footprint is a part -/
theorem Sl.set_im {Δ : List Sk} {σ : L2.St} {F : List Addr} {i : Nat} {v : V} {d : D} (h : Sl K B H Δ σ F) (r : Dn K B v d) : ∃ F', Sl K B H (Δ.set i (.im d)) (σ.set i (some v)) F' ∧ F'.Sublist F := by
  induction h generalizing i with
  | nil => exact ⟨[], .nil, List.Sublist.refl _⟩
  | un o s ih => cases i with
    | zero => exact ⟨_, .im r s, List.Sublist.refl _⟩
    | succ i =>
      obtain ⟨F', h1, h2⟩ := @ih i
      exact ⟨F', .un o h1, h2⟩
  | im r' s ih => cases i with
    | zero => exact ⟨_, .im r s, List.Sublist.refl _⟩
    | succ i =>
      obtain ⟨F', h1, h2⟩ := @ih i
      exact ⟨F', .im r' h1, h2⟩
  | @ow Δ σ F v oa' R' G ok p r' s ih => cases i with
    | zero => exact ⟨_, .im r s, List.sublist_append_right _ _⟩
    | succ i =>
      obtain ⟨F', h1, h2⟩ := @ih i
      exact ⟨_, .ow ok p r' h1, List.Sublist.append (List.Sublist.refl _) h2⟩
theorem Sl.set_un {Δ : List Sk} {σ : L2.St} {F : List Addr} {i : Nat} (o : Option V) (h : Sl K B H Δ σ F) : ∃ F', Sl K B H (Δ.set i .un) (σ.set i o) F' ∧ F'.Sublist F := by
  induction h generalizing i with
  | nil => exact ⟨[], .nil, List.Sublist.refl _⟩
  | un o' s ih => cases i with
    | zero => exact ⟨_, .un o s, List.Sublist.refl _⟩
    | succ i =>
      obtain ⟨F', h1, h2⟩ := @ih i
      exact ⟨F', .un o' h1, h2⟩
  | im r' s ih => cases i with
    | zero => exact ⟨_, .un o s, List.Sublist.refl _⟩
    | succ i =>
      obtain ⟨F', h1, h2⟩ := @ih i
      exact ⟨F', .im r' h1, h2⟩
  | @ow Δ σ F v oa' R' G ok p r' s ih => cases i with
    | zero => exact ⟨_, .un o s, List.sublist_append_right _ _⟩
    | succ i =>
      obtain ⟨F', h1, h2⟩ := @ih i
      exact ⟨_, .ow ok p r' h1, List.Sublist.append (List.Sublist.refl _) h2⟩
/-- an unknown slot filled by an owned thing -/
theorem Sl.put_ow {Δ : List Sk} {σ : L2.St} {F : List Addr} {i : Nat} {v : V} {oa : Option V} {R : ResT} {G : List Addr} (h : Sl K B H Δ σ F) (ok : ROk R) (p : ∀ u, oa = some u → v = u) (r : R K B H v G) (hi : i < Δ.length) :
    ∃ F1 F2, Sl K B H (Δ.set i (.ow oa R)) (σ.set i (some v)) (F1 ++ (G ++ F2)) ∧ (F1 ++ F2).Sublist F := by
  induction h generalizing i with
  | nil => simp at hi
  | un o s ih => cases i with
    | zero => exact ⟨[], _, by rw [List.nil_append]; exact .ow ok p r s, List.Sublist.refl _⟩
    | succ i =>
      obtain ⟨F1, F2, h1, h2⟩ := @ih i (by simpa using hi)
      exact ⟨F1, F2, .un o h1, h2⟩
  | im r' s ih => cases i with
    | zero => exact ⟨[], _, by rw [List.nil_append]; exact .ow ok p r s, List.Sublist.refl _⟩
    | succ i =>
      obtain ⟨F1, F2, h1, h2⟩ := @ih i (by simpa using hi)
      exact ⟨F1, F2, .im r' h1, h2⟩
  | @ow Δ σ F v' oa' R' G' ok' p' r' s ih => cases i with
    | zero => exact ⟨[], _, by rw [List.nil_append]; exact .ow ok p r s, List.sublist_append_right _ _⟩
    | succ i =>
      obtain ⟨F1, F2, h1, h2⟩ := @ih i (by simpa using hi)
      refine ⟨G' ++ F1, F2, ?_, by rw [List.append_assoc]; exact List.Sublist.append (List.Sublist.refl _) h2⟩
      rw [List.append_assoc]
      exact .ow ok' p' r' h1
theorem Sl.un_any {Δ : List Sk} {σ : L2.St} {F : List Addr} {i : Nat} {v : Option V} (h : Sl K B H (Δ.set i .un) σ F) (hi : i < Δ.length) (hv : σ[i]? = some v) (w : Option V) : Sl K B H (Δ.set i .un) (σ.set i w) F := by
  generalize e : Δ.set i .un = Δ' at h
  induction h generalizing i Δ with
  | nil =>
    cases Δ with
    | nil => simp at hi
    | cons x r => cases i <;> simp at e
  | un o s ih =>
    cases Δ with
    | nil => simp at hi
    | cons x r => cases i with
      | zero =>
        simp at e
        subst e
        exact .un w s
      | succ i =>
        simp at e
        obtain ⟨rfl, e⟩ := e
        exact .un o (ih (by simpa using hi) (by simpa using hv) e)
  | im r' s ih =>
    cases Δ with
    | nil => simp at hi
    | cons x r => cases i with
      | zero => simp at e
      | succ i =>
        simp at e
        obtain ⟨rfl, e⟩ := e
        exact .im r' (ih (by simpa using hi) (by simpa using hv) e)
  | ow ok' p' r' s ih =>
    cases Δ with
    | nil => simp at hi
    | cons x r => cases i with
      | zero => simp at e
      | succ i =>
        simp at e
        obtain ⟨rfl, e⟩ := e
        exact .ow ok' p' r' (ih (by simpa using hi) (by simpa using hv) e)
end DL
set_option Elab.async false
set_option linter.all false
set_option maxRecDepth 100000
/-! DL2: expressions over data -/
namespace DL
open PySem PySem.Spec PyProof.Rows L2
variable {X : Cx} {K : PySem.W.Frag} {B B' H H' : Hp}

/-! ### the widest readings -/
def wE (X : Cx) (e : Expr) : TE := fun σ H Q => ∃ t, PE X e t ∧ t σ H Q
theorem pe_w (e : Expr) : PE X e (wE X e) := ⟨fun pins s σ H Q I ⟨_, h, q⟩ => h.run pins s σ H Q I q⟩
def wT (X : Cx) (e : Expr) : TT := fun σ H Q => ∃ t, PT X e t ∧ t σ H Q
theorem pt_w (e : Expr) : PT X e (wT X e) := ⟨fun pins s σ H Q I ⟨_, h, q⟩ => h.run pins s σ H Q I q⟩
def wW (X : Cx) (e : Expr) : TT := fun σ H Q => ∃ t, PW X e t ∧ t σ H Q
theorem pw_w (e : Expr) : PW X e (wW X e) := ⟨fun whole pins s σ H Q I ⟨_, h, q⟩ => h.run whole pins s σ H Q I q⟩
def wA (X : Cx) (es : List Expr) : TA := fun σ H Q => ∃ t, PA X es t ∧ t σ H Q
theorem pa_w (es : List Expr) : PA X es (wA X es) := ⟨fun pos pins s σ H Q I ⟨_, h, q⟩ => h.run pos pins s σ H Q I q⟩
def wS (X : Cx) (st : Stmt) : TS := fun D σ H => ∃ t, PS X st t ∧ t D σ H
theorem ps_w (st : Stmt) : PS X st (wS X st) := ⟨fun pins s σ H D I ⟨_, h, q⟩ => h.run pins s σ H D I q⟩
def wSs (X : Cx) (st : List Stmt) : TS := fun D σ H => ∃ t, PSs X st t ∧ t D σ H
theorem pss_w (st : List Stmt) : PSs X st (wSs X st) := ⟨fun pins s σ H D I ⟨_, h, q⟩ => h.run pins s σ H D I q⟩
def wG (X : Cx) (e : Expr) : TG := fun v σ H Q => ∃ t, PG X e t ∧ t v σ H Q
theorem pg_w (e : Expr) : PG X e (wG X e) := ⟨fun pins s σ H v u Q I r ⟨_, h, q⟩ => h.run pins s σ H v u Q I r q⟩

/-! ### the judgements -/
/-- e goes from Δ to Δ' and gives what r says -/
def DE (X : Cx) (e : Expr) (Δ : List Sk) (r : Sk) (Δ' : List Sk) : Prop := ∀ B H F σ, At X.K B H F Δ σ → ∀ Q : VK,
  (∀ v B' H' F', Stp B H F B' H' F' → At X.K B' H' F' (r :: Δ') (some v :: σ) → Q v H') → wE X e σ H Q
abbrev DV (X : Cx) (e : Expr) (Δ : List Sk) (d : D) (Δ' : List Sk) : Prop := DE X e Δ (.im d) Δ'
def DT (X : Cx) (e : Expr) (Δ : List Sk) (b : Bool) (Δ' : List Sk) : Prop := ∀ B H F σ, At X.K B H F Δ σ → ∀ Q : Bool → Hp → Prop,
  (∀ B' H' F', Stp B H F B' H' F' → At X.K B' H' F' Δ' σ → Q b H') → wT X e σ H Q
def DW (X : Cx) (e : Expr) (Δ : List Sk) (b : Bool) (Δ' : List Sk) : Prop := ∀ B H F σ, At X.K B H F Δ σ → ∀ Q : Bool → Hp → Prop,
  (∀ B' H' F', Stp B H F B' H' F' → At X.K B' H' F' Δ' σ → Q b H') → wW X e σ H Q
def DA (X : Cx) (es : List Expr) (Δ : List Sk) (ds : List D) (Δ' : List Sk) : Prop := ∀ B H F σ, At X.K B H F Δ σ → ∀ Q : List V → Hp → Prop,
  (∀ vs B' H' F', Stp B H F B' H' F' → DnA X.K B' vs ds → At X.K B' H' F' Δ' σ → Q vs H') → wA X es σ H Q

theorem At.im {F : List Addr} {d : D} {Δ : List Sk} {v : V} {σ : L2.St} (h : At K B H F (.im d :: Δ) (some v :: σ)) : Dn K B v d ∧ At K B H F Δ σ := by
  obtain ⟨s, sl, nd, out⟩ := h
  cases sl with
  | im r sl => exact ⟨r, s, sl, nd, out⟩
theorem At.mk_im {F : List Addr} {d : D} {Δ : List Sk} {v : V} {σ : L2.St} (r : Dn K B v d) (h : At K B H F Δ σ) : At K B H F (.im d :: Δ) (some v :: σ) := ⟨h.sub, .im r h.sl, h.nd, h.out⟩
theorem DE.run {e : Expr} {Δ Δ' : List Sk} {d : D} {F : List Addr} {σ : L2.St} {Q : VK} (h : DE X e Δ (.im d) Δ') (a : At X.K B H F Δ σ)
    (q : ∀ v B' H' F', Stp B H F B' H' F' → Dn X.K B' v d → At X.K B' H' F' Δ' σ → Q v H') : wE X e σ H Q :=
  h B H F σ a Q fun v B' H' F' s a' => q v B' H' F' s a'.im.1 a'.im.2
theorem DE.of {e : Expr} {Δ Δ' : List Sk} {d : D} (h : ∀ B H F σ, At X.K B H F Δ σ → ∀ Q : VK, (∀ v B' H' F', Stp B H F B' H' F' → Dn X.K B' v d → At X.K B' H' F' Δ' σ → Q v H') → wE X e σ H Q) : DE X e Δ (.im d) Δ' :=
  fun B H F σ a Q q => h B H F σ a Q fun v B' H' F' s r a' => q v B' H' F' s (.mk_im r a')
/-- nothing but a value -/
theorem DE.val {e : Expr} {Δ : List Sk} {d : D} (h : ∀ B H F σ, At X.K B H F Δ σ → ∀ Q : VK, (∀ v, Dn X.K B v d → Q v H) → wE X e σ H Q) : DE X e Δ (.im d) Δ :=
  DE.of fun B H F σ a Q q => h B H F σ a Q fun v r => q v B H F .refl r a
theorem At.frame {F : List Addr} {Δ : List Sk} {σ : L2.St} (h : At K B H F Δ σ) (e : Same B B') (k : ∀ a o, H a = some o → H' a = some o) (s : Sub B' H') (out : ∀ a ∈ F, B' a = none) : At K B' H' F Δ σ :=
  ⟨s, h.sl.frame e fun a _ o q => k a o q, h.nd, out⟩
/-- a new frozen object -/
theorem At.laid {F : List Addr} {Δ : List Sk} {σ : L2.St} {p : Addr} {o : HO} (h : At K B H F Δ σ) (hp : H p = none) : Stp B H F (upd B p o) (upd H p o) F ∧ At K (upd B p o) (upd H p o) F Δ σ := by
  have bp : B p = none := h.sub.there hp
  have e : Same B (upd B p o) := fun a u q => by rw [upd_ne (ne_of_none q bp)]; exact q
  have k : ∀ a u, H a = some u → upd H p o a = some u := fun a u q => by rw [upd_ne (ne_of_none q hp)]; exact q
  have np : ∀ a ∈ F, a ≠ p := fun a m z => h.sl.there a m (z ▸ hp)
  refine ⟨⟨e, fun a u q _ => k a u q, fun a m => .inl m, fun a q => ?_, fun a q => ?_⟩, h.frame e k (fun a u q => ?_) fun a m => by rw [upd_ne (np a m)]; exact h.out a m⟩
  · by_cases z : a = p
    · subst z; exact .inr (.inr hp)
    · rw [upd_ne z] at q; exact .inl q
  · cases r : H a with
    | none => exact absurd r q
    | some u => rw [k a u r]; exact nofun
  · by_cases z : a = p
    · subst z; rw [upd_same] at q ⊢; exact .inl q
    · rw [upd_ne z] at q ⊢; exact h.sub a u q
/-- a new object of one's own -/
theorem At.made {F : List Addr} {Δ : List Sk} {σ : L2.St} {p : Addr} {o : HO} {R : ResT} (h : At K B H F Δ σ) (hp : H p = none) (ok : ROk R) (r : R K B (upd H p o) (.ref p) [p]) :
    Stp B H F B (upd H p o) ([p] ++ F) ∧ At K B (upd H p o) ([p] ++ F) (.ow none R :: Δ) (some (.ref p) :: σ) := by
  have bp : B p = none := h.sub.there hp
  have k : ∀ a u, H a = some u → upd H p o a = some u := fun a u q => by rw [upd_ne (ne_of_none q hp)]; exact q
  refine ⟨⟨Same.refl _, fun a u q _ => k a u q, fun a m => ?_, fun a q => .inl q, fun a q => ?_⟩, ⟨fun a u q => ?_, .ow ok nofun r (h.sl.frame (Same.refl _) fun a _ o q => k a o q), ?_, fun a m => ?_⟩⟩
  · rcases List.mem_append.mp m with m | m
    · rw [List.mem_singleton.mp m]; exact .inr hp
    · exact .inl m
  · cases r : H a with
    | none => exact absurd r q
    | some u => rw [k a u r]; exact nofun
  · rcases h.sub a u q with z | ⟨m, ob, z⟩
    · exact .inl (k _ _ z)
    · exact .inr ⟨m, ob, k _ _ z⟩
  · exact List.nodup_cons.mpr ⟨fun m => h.sl.there p m hp, h.nd⟩
  · rcases List.mem_append.mp m with m | m
    · rw [List.mem_singleton.mp m]; exact bp
    · exact h.out a m

/-! ### freezing -/
/-- an owned list in front is frozen -/
def Frz (R : ResT) (d : D) : Prop := ∀ K B H v G, R K B H v G → (∀ a ∈ G, B a = none) → ∃ B', Same B B' ∧ (∀ a, B' a ≠ none → B a ≠ none ∨ a ∈ G) ∧ (∀ a o, B' a = some o → B a = some o ∨ H a = some o) ∧ Dn K B' v d
theorem frz1 {p : Addr} {o : HO} (hB : B p = none) (hH : H p = some o) : Same B (upd B p o) ∧ (∀ a, upd B p o a ≠ none → B a ≠ none ∨ a ∈ [p]) ∧ (∀ a u, upd B p o a = some u → B a = some u ∨ H a = some u) := by
  refine ⟨fun a u q => by rw [upd_ne (ne_of_none q hB)]; exact q, fun a q => ?_, fun a u q => ?_⟩
  · by_cases z : a = p
    · exact .inr (by rw [z]; exact List.mem_singleton_self p)
    · rw [upd_ne z] at q; exact .inl q
  · by_cases z : a = p
    · subst z; rw [upd_same] at q; exact .inr (hH.trans q)
    · rw [upd_ne z] at q; exact .inl q
theorem frz_lst {ds : List D} : Frz (rLst ds) (.lst ds) := fun K B H v G ⟨a, vs, h1, h2, h3, h4⟩ out => by
  subst h1 h2
  have hB := out a (List.mem_singleton_self a)
  obtain ⟨x, y, z⟩ := frz1 hB h3
  exact ⟨_, x, y, z, .lst upd_same (h4.mono x)⟩
theorem frz_dk {es : List (Key × D)} : Frz (rDk es) (.dk es) := fun K B H v G ⟨a, vs, h1, h2, h3, h4⟩ out => by
  subst h1 h2
  have hB := out a (List.mem_singleton_self a)
  obtain ⟨x, y, z⟩ := frz1 hB h3
  exact ⟨_, x, y, z, .dk upd_same (h4.mono x)⟩
theorem frz_dt {es : List (List Key × D)} : Frz (rDt es) (.dt es) := fun K B H v G ⟨a, vs, h1, h2, h3, h4⟩ out => by
  subst h1 h2
  have hB := out a (List.mem_singleton_self a)
  obtain ⟨x, y, z⟩ := frz1 hB h3
  exact ⟨_, x, y, z, .dt upd_same (h4.mono x)⟩
theorem At.freeze {F : List Addr} {Δ : List Sk} {σ : L2.St} {i : Nat} {oa : Option V} {R : ResT} {d : D} (h : At K B H F Δ σ) (hi : Δ[i]? = some (.ow oa R)) (f : Frz R d) :
    ∃ v B' F', σ[i]? = some (some v) ∧ Stp B H F B' H F' ∧ Dn K B' v d ∧ At K B' H F' (Δ.set i (.im d)) σ := by
  obtain ⟨s, sl, nd, out⟩ := h
  obtain ⟨v, G, F1, F2, e1, e2, ok, p, r, sl'⟩ := sl.get_ow hi
  subst e2
  have mG : ∀ a ∈ G, a ∈ F1 ++ (G ++ F2) := fun a m => List.mem_append_right _ (List.mem_append_left _ m)
  obtain ⟨B', q1, q2, q3, q4⟩ := f _ _ _ _ _ r fun a m => out a (mG a m)
  have lt : i < Δ.length := (List.getElem?_eq_some_iff.mp hi).1
  have sub' : Sub B' H := fun a o z => by
    rcases q3 a o z with z | z
    · exact s a o z
    · exact .inl z
  obtain ⟨F', w1, w2⟩ := Sl.set_im (i := i) (v := v) (d := d) (sl'.frame q1 fun a _ o z => z) q4
  have e3 : (Δ.set i Sk.un).set i (.im d) = Δ.set i (.im d) := by rw [List.set_set]
  have e4 : σ.set i (some v) = σ := by
    apply List.ext_getElem?
    intro j
    rw [List.getElem?_set]
    split
    · rename_i z; subst z; split
      · exact e1.symm
      · rename_i z2; rw [List.getElem?_eq_none (by omega)]
    · rfl
  rw [e3, e4] at w1
  have sub12 : ∀ a ∈ F', a ∈ F1 ++ F2 := fun a m => w2.subset m
  have nd' : (F1 ++ (G ++ F2)).Nodup := nd
  have dis : ∀ a ∈ F1 ++ F2, a ∉ G := fun a m mg => by
    rw [List.nodup_append] at nd'
    obtain ⟨n1, n2, n3⟩ := nd'
    rcases List.mem_append.mp m with m | m
    · exact n3 a m a (List.mem_append_left _ mg) rfl
    · rw [List.nodup_append] at n2
      exact n2.2.2 a mg a m rfl
  have ndF : (F1 ++ F2).Nodup := nd'.sublist (List.Sublist.append (List.Sublist.refl _) (List.sublist_append_right _ _))
  refine ⟨v, B', F', e1, ⟨q1, fun _ _ z _ => z, fun a m => .inl ?_, fun a z => ?_, fun _ z => z⟩, q4, ⟨sub', w1, ndF.sublist w2, fun a m => ?_⟩⟩
  · rcases List.mem_append.mp (sub12 a m) with m | m
    · exact List.mem_append_left _ m
    · exact List.mem_append_right _ (List.mem_append_right _ m)
  · rcases q2 a z with z | z
    · exact .inl z
    · exact .inr (.inl (mG a z))
  · cases r2 : B' a with
    | none => rfl
    | some o =>
      rcases q2 a (by rw [r2]; exact nofun) with z | z
      · have m' : a ∈ F1 ++ (G ++ F2) := by
          rcases List.mem_append.mp (sub12 a m) with m | m
          · exact List.mem_append_left _ m
          · exact List.mem_append_right _ (List.mem_append_right _ m)
        exact absurd (out a m') z
      · exact absurd z (dis a (sub12 a m))
/-- a result of one's own taken as a value -/
theorem de_frz {e : Expr} {Δ Δ' : List Sk} {oa : Option V} {R : ResT} {d : D} (h : DE X e Δ (.ow oa R) Δ') (f : Frz R d) : DE X e Δ (.im d) Δ' := fun B H F σ a Q q =>
  h B H F σ a Q fun v B' H' F' s a' => by
    obtain ⟨v', B2, F2, e1, s2, r2, a2⟩ := a'.freeze (i := 0) rfl f
    exact q v B2 H' F2 (s.trans s2) a2
theorem de_frzL {e : Expr} {Δ Δ' : List Sk} {oa : Option V} {ds : List D} (h : DE X e Δ (.ow oa (rLst ds)) Δ') : DE X e Δ (.im (.lst ds)) Δ' := de_frz h frz_lst

/-! ### names and constants -/
section
variable {e a b c : Expr} {es : List Expr} {Δ Δ' Δ1 Δ2 Δ3 : List Sk} {d d1 d2 d3 : D} {ds : List D} {pos p apos : Pos} {x : Str} {r : Sk}
theorem wE.of {t : TE} {σ : L2.St} {Q : VK} (h : PE X e t) (q : t σ H Q) : wE X e σ H Q := ⟨t, h, q⟩
theorem de_pe (t : TE) (h : PE X e t) (q : ∀ B H F σ, At X.K B H F Δ σ → ∀ Q : VK, (∀ v, Dn X.K B v d → Q v H) → t σ H Q) : DV X e Δ d Δ := DE.val fun B H F σ at_ Q k => ⟨t, h, q B H F σ at_ Q k⟩
theorem de_int {i : Int} {j} : DV X (.Constant (.int i) j pos) Δ (.int i) Δ := de_pe _ pe_int fun _ _ _ _ _ _ k => k _ (.int i)
theorem de_bl {i : Bool} {j} : DV X (.Constant (.bool i) j pos) Δ (.bl i) Δ := de_pe _ pe_bl fun _ _ _ _ _ _ k => k _ (.bl i)
theorem de_non {j} : DV X (.Constant .none j pos) Δ .non Δ := de_pe _ pe_non fun _ _ _ _ _ _ k => k _ .non
theorem de_str {i : Str} {j} : DV X (.Constant (.str i) j pos) Δ (.str i) Δ := de_pe _ pe_str fun _ _ _ _ _ _ k => k _ (.str i)
theorem de_glob {v : V} {u : Value} (hg : Gl X x) (hm : X.mg x = some u) (r : RelV v u) (hr : ∀ B, Dn X.K B v d) (hd : (x == ("__debug__" : Str)) = false := by decide) : DV X (.Name x pos) Δ d Δ :=
  de_pe _ (pe_glob hg hm r hd) fun _ _ _ _ _ _ k => k _ (hr _)
/-- a name: its datum -/
theorem de_nm (i : Nat) (hi : Δ[i]? = some (.im d)) (hN : X.N[i]? = some x) (hv : Vis X.env.scope x) (hd : (x == ("__debug__" : Str)) = false := by decide) (hcd : (x == ("__classdict__" : Str)) = false := by decide) : DV X (.Name x pos) Δ d Δ :=
  de_pe _ (pe_var hN hv hd hcd) fun B H F σ a Q k => by
    obtain ⟨v, h1, h2⟩ := a.sl.get_im hi
    exact ⟨v, h1, k v h2⟩
/-- a name of an owned thing, frozen from here on -/
theorem de_nmF (i : Nat) {oa : Option V} {R : ResT} (hi : Δ[i]? = some (.ow oa R)) (f : Frz R d) (hN : X.N[i]? = some x) (hv : Vis X.env.scope x) (hd : (x == ("__debug__" : Str)) = false := by decide) (hcd : (x == ("__classdict__" : Str)) = false := by decide) :
    DV X (.Name x pos) Δ d (Δ.set i (.im d)) := DE.of fun B H F σ a Q k => by
  obtain ⟨v, B', F', h1, h2, h3, h4⟩ := a.freeze hi f
  exact ⟨_, pe_var hN hv hd hcd, v, h1, k v B' H F' h2 h3 h4⟩
theorem At.take {F : List Addr} {Δ : List Sk} {σ : L2.St} {i : Nat} {oa : Option V} {R : ResT} (h : At K B H F Δ σ) (hi : Δ[i]? = some (.ow oa R)) :
    ∃ v F', σ[i]? = some (some v) ∧ Stp B H F B H F' ∧ At K B H F' (.ow oa R :: Δ.set i .un) (some v :: σ) := by
  obtain ⟨s, sl, nd, out⟩ := h
  obtain ⟨v, G, F1, F2, e1, e2, ok, p, r, sl'⟩ := sl.get_ow hi
  subst e2
  have pm : (F1 ++ (G ++ F2)).Perm (G ++ (F1 ++ F2)) := by
    rw [← List.append_assoc, ← List.append_assoc]
    exact List.Perm.append_right _ List.perm_append_comm
  have sub : ∀ a ∈ G ++ (F1 ++ F2), a ∈ F1 ++ (G ++ F2) := fun a m => pm.symm.subset m
  exact ⟨v, G ++ (F1 ++ F2), e1, (Stp.refl).less sub, s, .ow ok p r sl', pm.nodup_iff.mp nd, fun a m => out a (sub a m)⟩
/-- a name of an owned thing, given away -/
theorem de_nmM (i : Nat) {oa : Option V} {R : ResT} (hi : Δ[i]? = some (.ow oa R)) (hN : X.N[i]? = some x) (hv : Vis X.env.scope x) (hd : (x == ("__debug__" : Str)) = false := by decide) (hcd : (x == ("__classdict__" : Str)) = false := by decide) :
    DE X (.Name x pos) Δ (.ow oa R) (Δ.set i .un) := fun B H F σ a Q k => by
  obtain ⟨v, F', h1, h2, h3⟩ := a.take hi
  exact ⟨_, pe_var hN hv hd hcd, v, h1, k v B H F' h2 h3⟩

/-! ### argument lists -/
theorem da_nil : DA X [] Δ [] Δ := fun B H F σ a Q k => ⟨_, pa_nil, k [] B H F .refl .nil a⟩
theorem da_cons (h : DV X e Δ d Δ1) (hr : DA X es Δ1 ds Δ2) (hs : starEach (e :: es) X.env = (false, eval e X.env) :: starEach es X.env := by rfl) : DA X (e :: es) Δ (d :: ds) Δ2 := fun B H F σ a Q k =>
  ⟨_, pa_cons (pe_w e) (pa_w es) hs, h.run a fun v B1 H1 F1 s1 r1 a1 => hr B1 H1 F1 σ a1 _ fun vs B2 H2 F2 s2 r2 a2 => k _ B2 H2 F2 (s1.trans s2) (.cons (r1.mono s2.sub) r2) a2⟩
theorem de_tup {x1} (h : DA X es Δ ds Δ1) (hl : Nat.ble ds.length 1000 = true) : DV X (.Tuple es x1 pos) Δ (.tup ds) Δ1 := DE.of fun B H F σ a Q k =>
  ⟨_, pe_tup (x1 := x1) (pa_w es), h B H F σ a _ fun vs B1 H1 F1 s1 r1 a1 => ⟨by rw [r1.length]; exact Nat.le_of_lt (small1000 (Nat.le_of_ble_eq_true hl)), fun q hq => by
    obtain ⟨s2, a2⟩ := a1.laid (o := .tup vs) hq
    exact k _ _ _ _ (s1.trans s2) (.tup upd_same (r1.mono s2.sub)) a2⟩⟩
theorem de_lst (h : DA X es Δ ds Δ1) (hl : Nat.ble ds.length 1000 = true) : DE X (.List es pos) Δ (.ow none (rLst ds)) Δ1 := fun B H F σ a Q k =>
  ⟨_, pe_lst (pa_w es), h B H F σ a _ fun vs B1 H1 F1 s1 r1 a1 => ⟨by rw [r1.length]; exact Nat.le_of_lt (small1000 (Nat.le_of_ble_eq_true hl)), fun q hq => by
    obtain ⟨s2, a2⟩ := a1.made (o := .lst vs) (R := rLst ds) hq rLst_ok ⟨q, vs, rfl, rfl, upd_same, r1⟩
    exact k _ _ _ _ (s1.trans s2) a2⟩⟩

/-! ### operators -/
/-- a rule on values that leaves all as it was -/
def ROp (K : PySem.W.Frag) (r : R2) (d1 d2 d : D) : Prop := ∀ B H v1 v2 Q, Sub B H → Dn K B v1 d1 → Dn K B v2 d2 → (∀ v, Dn K B v d → Q v H) → r v1 v2 H Q
/-- a rule that makes a new list -/
def ROpN (K : PySem.W.Frag) (r : R2) (d1 d2 : D) (ds : List D) : Prop := ∀ B H v1 v2 Q, Sub B H → Dn K B v1 d1 → Dn K B v2 d2 → (∀ p vs, H p = none → DnA K B vs ds → Q (.ref p) (upd H p (.lst vs))) → r v1 v2 H Q
def BinD (X : Cx) (op : Operator) (d1 d2 d : D) : Prop := ∃ r, OpR X (binaryOp op) r ∧ ROp X.K r d1 d2 d
def BinN (X : Cx) (op : Operator) (d1 d2 : D) (ds : List D) : Prop := ∃ r, OpR X (binaryOp op) r ∧ ROpN X.K r d1 d2 ds
def CmpD (X : Cx) (op : CmpOp) (d1 d2 : D) (k : Bool) : Prop := ∃ r, OpR X (compareOp op) r ∧ ROp X.K r d1 d2 (.bl k)
theorem de_bin {op : Operator} (h : DV X a Δ d1 Δ1) (h' : DV X b Δ1 d2 Δ2) (o : BinD X op d1 d2 d) : DV X (.BinOp a op b pos) Δ d Δ2 := DE.of fun B H F σ a' Q k => by
  obtain ⟨r, ho, hr⟩ := o
  exact ⟨_, pe_op ho (pe_w a) (pe_w b), h.run a' fun v1 B1 H1 F1 s1 r1 a1 => h'.run a1 fun v2 B2 H2 F2 s2 r2 a2 => hr B2 H2 v1 v2 Q a2.sub (r1.mono s2.sub) r2 fun v q => k v B2 H2 F2 (s1.trans s2) q a2⟩
theorem de_binN {op : Operator} (h : DV X a Δ d1 Δ1) (h' : DV X b Δ1 d2 Δ2) (o : BinN X op d1 d2 ds) : DE X (.BinOp a op b pos) Δ (.ow none (rLst ds)) Δ2 := fun B H F σ a' Q k => by
  obtain ⟨r, ho, hr⟩ := o
  refine ⟨_, pe_op ho (pe_w a) (pe_w b), h.run a' fun v1 B1 H1 F1 s1 r1 a1 => h'.run a1 fun v2 B2 H2 F2 s2 r2 a2 => hr B2 H2 v1 v2 Q a2.sub (r1.mono s2.sub) r2 fun q vs hq rv => ?_⟩
  obtain ⟨s3, a3⟩ := a2.made (o := .lst vs) (R := rLst ds) hq rLst_ok ⟨q, vs, rfl, rfl, upd_same, rv⟩
  exact k _ _ _ _ ((s1.trans s2).trans s3) a3
theorem de_cmp {op : CmpOp} {k : Bool} (h : DV X a Δ d1 Δ1) (h' : DV X b Δ1 d2 Δ2) (o : CmpD X op d1 d2 k) (hm : behindInMarks op b = false := by first | exact nomark _ | rfl) : DV X (.Compare a [op] [b] pos) Δ (.bl k) Δ2 := DE.of fun B H F σ a' Q q => by
  obtain ⟨r, ho, hr⟩ := o
  exact ⟨_, pe_cmpR ho (pe_w a) (pe_w b) hm, h.run a' fun v1 B1 H1 F1 s1 r1 a1 => h'.run a1 fun v2 B2 H2 F2 s2 r2 a2 => hr B2 H2 v1 v2 Q a2.sub (r1.mono s2.sub) r2 fun v z => q v B2 H2 F2 (s1.trans s2) z a2⟩
theorem rop_I0 {g : Int → Int → V} {i j : Int} (hg : ∀ B, Dn K B (g i j) d) : ROp K (rI0 g) (.int i) (.int j) d := fun B H v1 v2 Q s h1 h2 q => by
  cases h1; cases h2
  exact ⟨i, j, rfl, rfl, q _ (hg B)⟩
theorem rop_I {C : Int → Int → Prop} {g : Int → Int → V} {i j : Int} (hc : C i j) (hg : ∀ B, Dn K B (g i j) d) : ROp K (rI C g) (.int i) (.int j) d := fun B H v1 v2 Q s h1 h2 q => by
  cases h1; cases h2
  exact ⟨i, j, rfl, rfl, hc, q _ (hg B)⟩
variable {i j : Int}
theorem bd_add : BinD X .Add (.int i) (.int j) (.int (i + j)) := ⟨_, op_add, rop_I0 fun _ => .int _⟩
theorem bd_sub : BinD X .Sub (.int i) (.int j) (.int (i - j)) := ⟨_, op_sub, rop_I0 fun _ => .int _⟩
theorem bd_mul (h : -(2 ^ 64) < i ∧ i < 2 ^ 64 ∨ -(2 ^ 64) < j ∧ j < 2 ^ 64) : BinD X .Mult (.int i) (.int j) (.int (i * j)) := ⟨_, op_mul, rop_I h fun _ => .int _⟩
theorem bd_mod (h : 0 < j) : BinD X .Mod (.int i) (.int j) (.int (i % j)) := ⟨_, op_mod, rop_I h fun _ => .int _⟩
theorem bd_pow (h : 0 ≤ j ∧ j ≤ 1000000 ∧ i.natAbs < 2 ^ 64) : BinD X .Pow (.int i) (.int j) (.int (i ^ j.toNat)) := ⟨_, op_pow, rop_I h fun _ => .int _⟩
theorem cd_lt : CmpD X .Lt (.int i) (.int j) (decide (i < j)) := ⟨_, op_lt, rop_I0 fun _ => .bl _⟩
theorem cd_le : CmpD X .LtE (.int i) (.int j) (decide (i ≤ j)) := ⟨_, op_le, rop_I0 fun _ => .bl _⟩
theorem cd_gt : CmpD X .Gt (.int i) (.int j) (decide (j < i)) := ⟨_, op_gt, rop_I0 fun _ => .bl _⟩
theorem cd_ge : CmpD X .GtE (.int i) (.int j) (decide (j ≤ i)) := ⟨_, op_ge, rop_I0 fun _ => .bl _⟩
theorem cd_eq : CmpD X .Eq (.int i) (.int j) (decide (i = j)) := ⟨_, op_eq, fun B H v1 v2 Q s h1 h2 q => by
  cases h1; cases h2
  refine ⟨rfl, ?_⟩
  rw [show decide (V.int i = V.int j) = decide (i = j) from decide_eq_decide.mpr ⟨V.int.inj, congrArg _⟩]
  exact q _ (.bl _)⟩
theorem cd_ne : CmpD X .NotEq (.int i) (.int j) (!decide (i = j)) := ⟨_, op_ne, fun B H v1 v2 Q s h1 h2 q => by
  cases h1; cases h2
  refine ⟨rfl, ?_⟩
  rw [show decide (V.int i = V.int j) = decide (i = j) from decide_eq_decide.mpr ⟨V.int.inj, congrArg _⟩]
  exact q _ (.bl _)⟩
theorem bd_cat {xs ys : List D} (hl : xs.length + ys.length ≤ 100000) : BinN X .Add (.lst xs) (.lst ys) (xs ++ ys) := ⟨_, op_cat, fun B H v1 v2 Q s h1 h2 q => by
  cases h1 with
  | lst e1 r1 =>
    cases h2 with
    | lst e2 r2 =>
      exact ⟨_, _, _, _, rfl, rfl, s.lst e1, s.lst e2, by rw [r1.length, r2.length]; exact Nat.le_trans hl (by decide), fun p hp => q p _ hp (r1.append r2)⟩⟩
theorem bd_rep {xs : List D} (h1 : -(2 ^ 63) ≤ i) (h2 : i < 2 ^ 63) (hl : xs.length * i.toNat ≤ 100000) : BinN X .Mult (.lst xs) (.int i) (List.replicate i.toNat xs).flatten := ⟨_, op_rep, fun B H v1 v2 Q s w1 w2 q => by
  cases w2
  cases w1 with
  | lst e1 r1 =>
    exact ⟨_, _, _, rfl, rfl, s.lst e1, h1, h2, by rw [r1.length]; exact Nat.le_trans hl (by decide), fun p hp => q p _ hp (r1.flatten_replicate _)⟩⟩

/-! ### equality of data -/
mutual
def D.py : D → PyData
  | .non => .none
  | .bl b => .bool b
  | .int i => .int i
  | .str x => .str x
  | .tup xs => .tuple (D.pyA xs)
  | .lst xs => .list (D.pyA xs)
  | .rol xs => .list (D.pyA xs)
  | .rot xs => .tuple (D.pyA xs)
  | .dk _ => .none
  | .dt _ => .none
  | .raw _ => .none
def D.pyA : List D → List PyData
  | [] => []
  | d :: ds => d.py :: D.pyA ds
end
mutual
/-- without dicts and raw things -/
def D.plain : D → Bool
  | .dk _ => false
  | .dt _ => false
  | .raw _ => false
  | .tup xs => D.plainA xs
  | .lst xs => D.plainA xs
  | .rol xs => D.plainA xs
  | .rot xs => D.plainA xs
  | _ => true
def D.plainA : List D → Bool
  | [] => true
  | d :: ds => d.plain && D.plainA ds
end
mutual
theorem Dn.dp (s : Sub B H) : ∀ {v : V} {d : D}, Dn K B v d → d.plain = true → Dp K H v d.py
  | _, _, .non, _ => .non
  | _, _, .bl b, _ => .bl b
  | _, _, .int b, _ => .int b
  | _, _, .str b, _ => .str b
  | _, _, .tup h t, e => .tup (SqT.of (s.tup h)) (DnA.dp s t (by simpa [D.plain] using e))
  | _, _, .rot h t, e => .tup (s.seqT h) (DnA.dp s t (by simpa [D.plain] using e))
  | _, _, .lst h t, e => .lst (SqL.of (s.lst h)) (DnA.dp s t (by simpa [D.plain] using e))
  | _, _, .rol h t, e => .lst (s.seq h) (DnA.dp s t (by simpa [D.plain] using e))
  | _, _, .dk _ _, e => by simp [D.plain] at e
  | _, _, .dt _ _, e => by simp [D.plain] at e
  | _, _, .raw _, e => by simp [D.plain] at e
theorem DnA.dp (s : Sub B H) : ∀ {vs : List V} {ds : List D}, DnA K B vs ds → D.plainA ds = true → DpAll K H vs (D.pyA ds)
  | _, _, .nil, _ => .nil
  | _, _, .cons h t, e => by
    rw [D.plainA, Bool.and_eq_true] at e
    exact .cons (Dn.dp s h e.1) (DnA.dp s t e.2)
end
def D.eqv (d e : D) : Bool := PyData.eqv d.py e.py
def D.good (d : D) : Bool := d.plain && SeqAt.shaped d.py
theorem cd_eqD (hu : X.A.units + 64 < cLine) (g1 : d1.good = true) (g2 : d2.good = true) : CmpD X .Eq d1 d2 (d1.eqv d2) := ⟨_, op_eqD hu, fun B H v1 v2 Q s h1 h2 q => by
  have e1 := Bool.and_eq_true_iff.mp g1
  have e2 := Bool.and_eq_true_iff.mp g2
  exact ⟨_, _, h1.dp s e1.1, h2.dp s e2.1, e1.2, e2.2, q _ (.bl _)⟩⟩
theorem cd_neD (hu : X.A.units + 64 < cLine) (g1 : d1.good = true) (g2 : d2.good = true) : CmpD X .NotEq d1 d2 (!d1.eqv d2) := ⟨_, op_neD hu, fun B H v1 v2 Q s h1 h2 q => by
  have e1 := Bool.and_eq_true_iff.mp g1
  have e2 := Bool.and_eq_true_iff.mp g2
  exact ⟨_, _, h1.dp s e1.1, h2.dp s e2.1, e1.2, e2.2, q _ (.bl _)⟩⟩

/-! ### subscripts -/
def IxD (X : Cx) (d1 d2 d : D) : Prop := ∃ r, IxR X r ∧ ROp X.K r d1 d2 d
theorem de_ix (h : DV X a Δ d1 Δ1) (h' : DV X b Δ1 d2 Δ2) (o : IxD X d1 d2 d) (hs : PlainIx b := by exact fun _ _ => rfl) : DV X (.Subscript a b pos) Δ d Δ2 := DE.of fun B H F σ a' Q k => by
  obtain ⟨r, ho, hr⟩ := o
  exact ⟨_, pe_ix ho (pe_w a) (pe_w b) hs, h.run a' fun v1 B1 H1 F1 s1 r1 a1 => h'.run a1 fun v2 B2 H2 F2 s2 r2 a2 => hr B2 H2 v1 v2 Q a2.sub (r1.mono s2.sub) r2 fun v q => k v B2 H2 F2 (s1.trans s2) q a2⟩
theorem ixN_of {n m : Nat} (e : n = m) (i : Int) : ixN n i = ixN m i := by rw [e]
theorem DnA.atI {vs : List V} {ds : List D} {i : Int} {d : D} (h : DnA K B vs ds) (e : L2.atI ds i = some d) : ∃ v, L2.atI vs i = some v ∧ Dn K B v d := by
  unfold L2.atI at *
  rw [h.length]
  cases q : ixN ds.length i with
  | none => rw [q] at e; cases e
  | some j => rw [q] at e; exact h.get e
theorem ix_l {xs : List D} (e : L2.atI xs i = some d) : IxD X (.lst xs) (.int i) d := ⟨_, ix_list, fun B H v1 v2 Q s h1 h2 q => by
  cases h2
  cases h1 with
  | lst e1 r1 =>
    obtain ⟨v, z1, z2⟩ := r1.atI e
    exact ⟨_, _, _, v, rfl, rfl, SqL.of (s.lst e1), z1, q v z2⟩⟩
theorem ix_r {xs : List D} (e : L2.atI xs i = some d) : IxD X (.rol xs) (.int i) d := ⟨_, ix_list, fun B H v1 v2 Q s h1 h2 q => by
  cases h2
  cases h1 with
  | rol e1 r1 =>
    obtain ⟨v, z1, z2⟩ := r1.atI e
    exact ⟨_, _, _, v, rfl, rfl, s.seq e1, z1, q v z2⟩⟩
theorem ix_t {xs : List D} (e : L2.atI xs i = some d) : IxD X (.tup xs) (.int i) d := ⟨_, ix_tup, fun B H v1 v2 Q s h1 h2 q => by
  cases h2
  cases h1 with
  | tup e1 r1 =>
    obtain ⟨v, z1, z2⟩ := r1.atI e
    exact ⟨_, _, _, v, rfl, rfl, SqT.of (s.tup e1), z1, q v z2⟩⟩
theorem ix_rt {xs : List D} (e : L2.atI xs i = some d) : IxD X (.rot xs) (.int i) d := ⟨_, ix_tup, fun B H v1 v2 Q s h1 h2 q => by
  cases h2
  cases h1 with
  | rot e1 r1 =>
    obtain ⟨v, z1, z2⟩ := r1.atI e
    exact ⟨_, _, _, v, rfl, rfl, s.seqT e1, z1, q v z2⟩⟩
/-- an item of a list of one's own -/
theorem de_ixO (k : Nat) {oa : Option V} {xs : List D} (h' : DV X b Δ (.int i) Δ2) (hi : Δ[k]? = some (.ow oa (rLst xs))) (hi2 : Δ2[k]? = some (.ow oa (rLst xs))) (e : L2.atI xs i = some d) (hN : X.N[k]? = some x) (hv : Vis X.env.scope x)
    (hs : PlainIx b := by exact fun _ _ => rfl) (hd : (x == ("__debug__" : Str)) = false := by decide) (hcd : (x == ("__classdict__" : Str)) = false := by decide) : DV X (.Subscript (.Name x p) b pos) Δ d Δ2 := DE.of fun B H F σ a' Q q => by
  obtain ⟨v, G, F1, F2, e1, e2, ok, pp, r, sl'⟩ := a'.sl.get_ow hi
  refine ⟨_, pe_ix ix_list (pe_var hN hv hd hcd) (pe_w b) hs, v, e1, h'.run a' fun v2 B2 H2 F2 s2 r2 a2 => ?_⟩
  obtain ⟨v', G', F1', F2', e1', e2', ok', pp', ⟨l, vs, z1, z2, z3, z4⟩, sl2⟩ := a2.sl.get_ow hi2
  rw [e1] at e1'
  cases e1'
  subst z1
  cases r2
  obtain ⟨w, y1, y2⟩ := z4.atI e
  exact ⟨_, _, _, w, rfl, rfl, SqL.of z3, y1, q w B2 H2 _ s2 y2 a2⟩
end
end DL
set_option Elab.async false
set_option linter.all false
set_option maxRecDepth 100000
/-! DL3: tests, built-ins, calls -/
namespace DL
open PySem PySem.Spec PyProof.Rows L2
variable {X : Cx} {K : PySem.W.Frag} {B B' H H' : Hp}
section
variable {e a b c : Expr} {es : List Expr} {Δ Δ' Δ1 Δ2 Δ3 : List Sk} {d d1 d2 d3 : D} {ds : List D} {pos p apos : Pos} {x : Str} {r : Sk} {k k1 k2 : Bool}

/-! ### tests -/
theorem DE.bl (h : DV X e Δ (.bl k) Δ1) {F : List Addr} {σ : L2.St} {Q : VK} (a : At X.K B H F Δ σ) (q : ∀ B' H' F', Stp B H F B' H' F' → At X.K B' H' F' Δ1 σ → Q (.bl k) H') : wE X e σ H Q :=
  h.run a fun v B' H' F' s r a' => by cases r; exact q B' H' F' s a'
/-- a truth value as a test (not and, or, not) -/
theorem dt_val (h : DV X e Δ (.bl k) Δ1) (he : ∀ whole, isTrue e X.env whole = (do let v ← whole; standAt e.pos; holding [v] (truthy v)) := by intro _; rfl) : DT X e Δ k Δ1 := fun B H F σ a Q q =>
  ⟨_, pt_val (pe_w e) he, h.bl a fun B' H' F' s a' => ⟨k, rfl, q B' H' F' s a'⟩⟩
theorem dt_cmp {op : CmpOp} (h : DV X a Δ d1 Δ1) (h' : DV X b Δ1 d2 Δ2) (o : CmpD X op d1 d2 k) (hm : behindInMarks op b = false := by first | exact nomark _ | rfl) : DT X (.Compare a [op] [b] pos) Δ k Δ2 := fun B H F σ a' Q q => by
  obtain ⟨r, ho, hr⟩ := o
  exact ⟨_, pt_cmpR ho (pe_w a) (pe_w b) hm, h.run a' fun v1 B1 H1 F1 s1 r1 a1 => h'.run a1 fun v2 B2 H2 F2 s2 r2 a2 => hr B2 H2 v1 v2 _ a2.sub (r1.mono s2.sub) r2 fun v z => by
    cases z; exact ⟨k, rfl, q B2 H2 F2 (s1.trans s2) a2⟩⟩
theorem dt_chain {op op' : CmpOp} (h : DV X a Δ d1 Δ1) (h' : DV X b Δ1 d2 Δ2) (h'' : k1 = true → DV X c Δ2 d3 Δ2) (o : CmpD X op d1 d2 k1) (o' : k1 = true → CmpD X op' d2 d3 k2) (hm : lastMarks [op, op'] [b, c] = false := by with_unfolding_all rfl) :
    DT X (.Compare a [op, op'] [b, c] pos) Δ (k1 && k2) Δ2 := fun B H F σ a' Q q => by
  obtain ⟨r, ho, hr⟩ := o
  cases k1 with
  | true =>
    obtain ⟨r', ho', hr'⟩ := o' rfl
    exact ⟨_, pt_chain ho ho' (pe_w a) (pe_w b) (pe_w c) hm, h.run a' fun v1 B1 H1 F1 s1 r1 a1 => h'.run a1 fun v2 B2 H2 F2 s2 r2 a2 => hr B2 H2 v1 v2 _ a2.sub (r1.mono s2.sub) r2 fun v z => by
      cases z
      exact ⟨true, rfl, (h'' rfl).run a2 fun v3 B3 H3 F3 s3 r3 a3 => hr' B3 H3 v2 v3 _ a3.sub (r2.mono s3.sub) r3 fun v z => by cases z; exact ⟨k2, rfl, q B3 H3 F3 ((s1.trans s2).trans s3) a3⟩⟩⟩
  | false =>
    exact ⟨_, pt_chain (op' := op') (r' := fun _ _ _ _ => False) ho (fun _ _ _ _ _ _ _ _ _ _ _ _ h => h.elim) (pe_w a) (pe_w b) (pe_w c) hm, h.run a' fun v1 B1 H1 F1 s1 r1 a1 => h'.run a1 fun v2 B2 H2 F2 s2 r2 a2 => hr B2 H2 v1 v2 _ a2.sub (r1.mono s2.sub) r2 fun v z => by
      cases z
      exact ⟨false, rfl, ⟨false, rfl, q B2 H2 F2 (s1.trans s2) a2⟩⟩⟩
theorem de_chain {op op' : CmpOp} (h : DV X a Δ d1 Δ1) (h' : DV X b Δ1 d2 Δ2) (h'' : k1 = true → DV X c Δ2 d3 Δ2) (o : CmpD X op d1 d2 k1) (o' : k1 = true → CmpD X op' d2 d3 k2) (hm : lastMarks [op, op'] [b, c] = false := by with_unfolding_all rfl) :
    DV X (.Compare a [op, op'] [b, c] pos) Δ (.bl (k1 && k2)) Δ2 := DE.of fun B H F σ a' Q q => by
  obtain ⟨r, ho, hr⟩ := o
  cases k1 with
  | true =>
    obtain ⟨r', ho', hr'⟩ := o' rfl
    exact ⟨_, pe_chain ho ho' (pe_w a) (pe_w b) (pe_w c) hm, h.run a' fun v1 B1 H1 F1 s1 r1 a1 => h'.run a1 fun v2 B2 H2 F2 s2 r2 a2 => hr B2 H2 v1 v2 _ a2.sub (r1.mono s2.sub) r2 fun v z => by
      cases z
      exact ⟨true, rfl, (h'' rfl).run a2 fun v3 B3 H3 F3 s3 r3 a3 => hr' B3 H3 v2 v3 _ a3.sub (r2.mono s3.sub) r3 fun v z => q v B3 H3 F3 ((s1.trans s2).trans s3) z a3⟩⟩
  | false =>
    exact ⟨_, pe_chain (op' := op') (r' := fun _ _ _ _ => False) ho (fun _ _ _ _ _ _ _ _ _ _ _ _ h => h.elim) (pe_w a) (pe_w b) (pe_w c) hm, h.run a' fun v1 B1 H1 F1 s1 r1 a1 => h'.run a1 fun v2 B2 H2 F2 s2 r2 a2 => hr B2 H2 v1 v2 _ a2.sub (r1.mono s2.sub) r2 fun v z => by
      cases z
      exact ⟨false, rfl, q _ B2 H2 F2 (s1.trans s2) (.bl false) a2⟩⟩
theorem dt_not (h : DT X a Δ k Δ1) : DT X (.UnaryOp .Not a pos) Δ (!k) Δ1 := fun B H F σ a' Q q => ⟨_, pt_not (pt_w a), h B H F σ a' _ fun B1 H1 F1 s1 a1 => q B1 H1 F1 s1 a1⟩
theorem dw_and1 (h : DT X a Δ k Δ1) : DW X (.BoolOp .And [a] pos) Δ k Δ1 := fun B H F σ a' Q q => ⟨_, pw_and1 (pt_w a), h B H F σ a' _ q⟩
theorem dw_or1 (h : DT X a Δ k Δ1) : DW X (.BoolOp .Or [a] pos) Δ k Δ1 := fun B H F σ a' Q q => ⟨_, pw_or1 (pt_w a), h B H F σ a' _ q⟩
theorem dw_and (h : DT X a Δ k1 Δ1) (h' : k1 = true → DW X (.BoolOp .And (b :: es) pos) Δ1 k2 Δ1) : DW X (.BoolOp .And (a :: b :: es) pos) Δ (k1 && k2) Δ1 := fun B H F σ a' Q q =>
  ⟨_, pw_and (pt_w a) (pw_w _), h B H F σ a' _ fun B1 H1 F1 s1 a1 => by
    cases k1 with
    | true => exact iteT (h' rfl B1 H1 F1 σ a1 Q fun B2 H2 F2 s2 a2 => q B2 H2 F2 (s1.trans s2) a2)
    | false => exact iteF (q B1 H1 F1 s1 a1)⟩
theorem dw_or (h : DT X a Δ k1 Δ1) (h' : k1 = false → DW X (.BoolOp .Or (b :: es) pos) Δ1 k2 Δ1) : DW X (.BoolOp .Or (a :: b :: es) pos) Δ (k1 || k2) Δ1 := fun B H F σ a' Q q =>
  ⟨_, pw_or (pt_w a) (pw_w _), h B H F σ a' _ fun B1 H1 F1 s1 a1 => by
    cases k1 with
    | true => exact iteT (q B1 H1 F1 s1 a1)
    | false => exact iteF (h' rfl B1 H1 F1 σ a1 Q fun B2 H2 F2 s2 a2 => q B2 H2 F2 (s1.trans s2) a2)⟩
/-- .. whose second part changes what is known; the first is known -/
theorem dt_w (h : DW X e Δ k Δ1) : DT X e Δ k Δ1 := fun B H F σ a' Q q => ⟨_, (pw_w e).pt, h B H F σ a' Q q⟩
/-- as values -/
theorem de_and1 {op} (h : DE X a Δ r Δ1) : DE X (.BoolOp op [a] pos) Δ r Δ1 := fun B H F σ a' Q q => ⟨_, pe_one (pe_w a), h B H F σ a' Q q⟩
theorem de_and (h : DV X a Δ (.bl k1) Δ1) (h' : k1 = true → DV X (.BoolOp .And (b :: es) pos) Δ1 (.bl k2) Δ1) : DV X (.BoolOp .And (a :: b :: es) pos) Δ (.bl (k1 && k2)) Δ1 := DE.of fun B H F σ a' Q q =>
  ⟨_, pe_and (pe_w a) (pe_w _), h.bl a' fun B1 H1 F1 s1 a1 => ⟨k1, rfl, by
    cases k1 with
    | true => exact iteT ((h' rfl).run a1 fun v B2 H2 F2 s2 r2 a2 => q v B2 H2 F2 (s1.trans s2) r2 a2)
    | false => exact iteF (q _ B1 H1 F1 s1 (.bl false) a1)⟩⟩
theorem de_or (h : DV X a Δ (.bl k1) Δ1) (h' : k1 = false → DV X (.BoolOp .Or (b :: es) pos) Δ1 (.bl k2) Δ1) : DV X (.BoolOp .Or (a :: b :: es) pos) Δ (.bl (k1 || k2)) Δ1 := DE.of fun B H F σ a' Q q =>
  ⟨_, pe_or (pe_w a) (pe_w _), h.bl a' fun B1 H1 F1 s1 a1 => ⟨k1, rfl, by
    cases k1 with
    | true => exact iteT (q _ B1 H1 F1 s1 (.bl true) a1)
    | false => exact iteF ((h' rfl).run a1 fun v B2 H2 F2 s2 r2 a2 => q v B2 H2 F2 (s1.trans s2) r2 a2)⟩⟩
theorem de_not (h : DV X a Δ (.bl k) Δ1) : DV X (.UnaryOp .Not a pos) Δ (.bl (!k)) Δ1 := DE.of fun B H F σ a' Q q => ⟨_, L2.pe_not (pe_w a), h.bl a' fun B1 H1 F1 s1 a1 => ⟨k, rfl, q _ B1 H1 F1 s1 (.bl _) a1⟩⟩
theorem de_ifT (hc : DT X c Δ true Δ1) (h : DE X a Δ1 r Δ2) : DE X (.IfExp c a b pos) Δ r Δ2 := fun B H F σ a' Q q => ⟨_, pe_ifExp (pt_w c) (pe_w a) (pe_w b), hc B H F σ a' _ fun B1 H1 F1 s1 a1 => iteT (h B1 H1 F1 σ a1 Q fun v B2 H2 F2 s2 a2 => q v B2 H2 F2 (s1.trans s2) a2)⟩
theorem de_ifF (hc : DT X c Δ false Δ1) (h : DE X b Δ1 r Δ2) : DE X (.IfExp c a b pos) Δ r Δ2 := fun B H F σ a' Q q => ⟨_, pe_ifExp (pt_w c) (pe_w a) (pe_w b), hc B H F σ a' _ fun B1 H1 F1 s1 a1 => iteF (h B1 H1 F1 σ a1 Q fun v B2 H2 F2 s2 a2 => q v B2 H2 F2 (s1.trans s2) a2)⟩
theorem de_if (hc : DT X c Δ k Δ1) (h1 : k = true → DE X a Δ1 r Δ2) (h2 : k = false → DE X b Δ1 r Δ2) : DE X (.IfExp c a b pos) Δ r Δ2 := by
  cases k with
  | true => exact de_ifT hc (h1 rfl)
  | false => exact de_ifF hc (h2 rfl)
theorem de_neg {i : Int} (h : DV X a Δ (.int i) Δ1) : DV X (.UnaryOp .USub a pos) Δ (.int (-i)) Δ1 := DE.of fun B H F σ a' Q q => ⟨_, pe_un un_neg (pe_w a), h.run a' fun v B1 H1 F1 s1 r1 a1 => by cases r1; exact ⟨i, rfl, q _ B1 H1 F1 s1 (.int _) a1⟩⟩
/-- is None -/
def D.isN : D → Bool
  | .non => true
  | _ => false
/-- what is sure to be None or not -/
def D.clear : D → Bool
  | .raw _ => false
  | _ => true
theorem Dn.isN {v : V} {d : D} (h : Dn K B v d) (hc : d.clear = true) : decide (v = .non) = d.isN := by
  cases h <;> first | rfl | (cases hc) | (exact decide_eq_false nofun)
theorem cd_is (hc : d.clear = true) : CmpD X .Is d .non d.isN := ⟨_, op_isN, fun B H v1 v2 Q s h1 h2 q => by
  cases h2
  exact ⟨rfl, by rw [h1.isN hc]; exact q _ (.bl _)⟩⟩
theorem cd_isnot (hc : d.clear = true) : CmpD X .IsNot d .non (!d.isN) := ⟨_, op_notN, fun B H v1 v2 Q s h1 h2 q => by
  cases h2
  exact ⟨rfl, by rw [h1.isN hc]; exact q _ (.bl _)⟩⟩

/-! ### built-ins -/
def CalD (X : Cx) (f : Value) (ds : List D) (d : D) : Prop := ∃ r, CallR X f r ∧ ∀ B H vs Q, Sub B H → DnA X.K B vs ds → (∀ v, Dn X.K B v d → Q v H) → r vs H Q
def CalN (X : Cx) (f : Value) (ds : List D) (xs : List D) : Prop := ∃ r, CallR X f r ∧ ∀ B H vs Q, Sub B H → DnA X.K B vs ds → (∀ p ws, H p = none → DnA X.K B ws xs → Q (.ref p) (upd H p (.lst ws))) → r vs H Q
theorem de_bltN {f : Value} {t : TA → TE} {rr : List V → Hp → VK → Prop} {xs : List D} (hp : PE X e (tCB rr (wA X es))) (ha : DA X es Δ ds Δ1)
    (hrr : ∀ B H vs Q, Sub B H → DnA X.K B vs ds → (∀ p ws, H p = none → DnA X.K B ws xs → Q (.ref p) (upd H p (.lst ws))) → rr vs H Q) : DE X e Δ (.ow none (rLst xs)) Δ1 := fun B H F σ a Q k =>
  ⟨_, hp, ha B H F σ a _ fun vs B1 H1 F1 s1 r1 a1 => hrr B1 H1 vs Q a1.sub r1 fun q ws hq rw => by
    obtain ⟨s2, a2⟩ := a1.made (o := .lst ws) (R := rLst xs) hq rLst_ok ⟨q, ws, rfl, rfl, upd_same, rw⟩
    exact k _ _ _ _ (s1.trans s2) a2⟩
theorem de_blt {rr : List V → Hp → VK → Prop} (hp : PE X e (tCB rr (wA X es))) (ha : DA X es Δ ds Δ1) (hrr : ∀ B H vs Q, Sub B H → DnA X.K B vs ds → (∀ v, Dn X.K B v d → Q v H) → rr vs H Q) : DV X e Δ d Δ1 := DE.of fun B H F σ a Q k =>
  ⟨_, hp, ha B H F σ a _ fun vs B1 H1 F1 s1 r1 a1 => hrr B1 H1 vs Q a1.sub r1 fun v z => k v B1 H1 F1 s1 z a1⟩
theorem de_b {id : String} (hm : X.mg x = none) (ha : DA X (e :: es) Δ ds Δ1) (o : CalD X (.builtin id) ds d) (hg : Gl X x := by rfl) (hv : bootBuiltins x = some (.builtin id) := by decide +kernel) (hn : x ≠ "__name__" := by decide) (hdb : (x == ("__debug__" : Str)) = false := by decide)
    (he : starEach (e :: es) X.env = (false, eval e X.env) :: starEach es X.env := by rfl) (hpl : (backTo pos (starEach es X.env)).any (·.1) = false := by rfl) : DV X (.Call (.Name x p) (e :: es) [] pos) Δ d Δ1 := by
  obtain ⟨r, hc, hr⟩ := o
  exact de_blt (pe_callB hc hg hm hv (pa_w _) hn hdb he hpl) ha hr
theorem de_bN {id : String} {xs : List D} (hm : X.mg x = none) (ha : DA X (e :: es) Δ ds Δ1) (o : CalN X (.builtin id) ds xs) (hg : Gl X x := by rfl) (hv : bootBuiltins x = some (.builtin id) := by decide +kernel) (hn : x ≠ "__name__" := by decide) (hdb : (x == ("__debug__" : Str)) = false := by decide)
    (he : starEach (e :: es) X.env = (false, eval e X.env) :: starEach es X.env := by rfl) (hpl : (backTo pos (starEach es X.env)).any (·.1) = false := by rfl) : DE X (.Call (.Name x p) (e :: es) [] pos) Δ (.ow none (rLst xs)) Δ1 := by
  obtain ⟨r, hc, hr⟩ := o
  exact de_bltN (f := .none) (t := fun _ => wE X e) (pe_callB hc hg hm hv (pa_w _) hn hdb he hpl) ha hr
theorem de_t {T : String} (hm : X.mg x = none) (ha : DA X (e :: es) Δ ds Δ1) (o : CalD X (.type T) ds d) (hg : Gl X x := by rfl) (hv : bootBuiltins x = some (.type T) := by decide +kernel) (hn : x ≠ "__name__" := by decide) (hdb : (x == ("__debug__" : Str)) = false := by decide)
    (he : starEach (e :: es) X.env = (false, eval e X.env) :: starEach es X.env := by rfl) (hpl : (backTo pos (starEach es X.env)).any (·.1) = false := by rfl) : DV X (.Call (.Name x p) (e :: es) [] pos) Δ d Δ1 := by
  obtain ⟨r, hc, hr⟩ := o
  exact de_blt (pe_callTy hc hg hm hv (pa_w _) hn hdb he hpl) ha hr
theorem de_tN {T : String} {xs : List D} (hm : X.mg x = none) (ha : DA X (e :: es) Δ ds Δ1) (o : CalN X (.type T) ds xs) (hg : Gl X x := by rfl) (hv : bootBuiltins x = some (.type T) := by decide +kernel) (hn : x ≠ "__name__" := by decide) (hdb : (x == ("__debug__" : Str)) = false := by decide)
    (he : starEach (e :: es) X.env = (false, eval e X.env) :: starEach es X.env := by rfl) (hpl : (backTo pos (starEach es X.env)).any (·.1) = false := by rfl) : DE X (.Call (.Name x p) (e :: es) [] pos) Δ (.ow none (rLst xs)) Δ1 := by
  obtain ⟨r, hc, hr⟩ := o
  exact de_bltN (f := .none) (t := fun _ => wE X e) (pe_callTy hc hg hm hv (pa_w _) hn hdb he hpl) ha hr
variable {i j : Int}
theorem DnA.one' {vs : List V} (h : DnA K B vs [d]) : ∃ v, vs = [v] ∧ Dn K B v d := by
  cases h with
  | cons h t => cases t; exact ⟨_, rfl, h⟩
theorem DnA.two' {vs : List V} (h : DnA K B vs [d1, d2]) : ∃ v w, vs = [v, w] ∧ Dn K B v d1 ∧ Dn K B w d2 := by
  cases h with
  | cons h t =>
    obtain ⟨w, rfl, h2⟩ := t.one'
    exact ⟨_, w, rfl, h, h2⟩
theorem ca_lenL {xs : List D} : CalD X (.builtin "len") [.lst xs] (.int xs.length) := ⟨_, call_len_seq, fun B H vs Q s h q => by
  obtain ⟨v, rfl, r⟩ := h.one'
  cases r with
  | lst e1 r1 => exact ⟨_, _, rfl, .inl (SqL.of (s.lst e1)), by rw [r1.length]; exact q _ (.int _)⟩⟩
theorem ca_lenR {xs : List D} : CalD X (.builtin "len") [.rol xs] (.int xs.length) := ⟨_, call_len_seq, fun B H vs Q s h q => by
  obtain ⟨v, rfl, r⟩ := h.one'
  cases r with
  | rol e1 r1 => exact ⟨_, _, rfl, .inl (s.seq e1), by rw [r1.length]; exact q _ (.int _)⟩⟩
theorem ca_lenT {xs : List D} : CalD X (.builtin "len") [.tup xs] (.int xs.length) := ⟨_, call_len_seq, fun B H vs Q s h q => by
  obtain ⟨v, rfl, r⟩ := h.one'
  cases r with
  | tup e1 r1 => exact ⟨_, _, rfl, .inr (SqT.of (s.tup e1)), by rw [r1.length]; exact q _ (.int _)⟩⟩
theorem ca_lenS {z : Str} (hz : z.length ≤ 100000) : CalD X (.builtin "len") [.str z] (.int z.length) := ⟨_, call_len_str, fun B H vs Q s h q => by
  obtain ⟨v, rfl, r⟩ := h.one'
  cases r
  exact ⟨z, rfl, Nat.le_trans hz (by decide), q _ (.int _)⟩⟩
theorem ca_max2 (hc : X.calm = true) : CalD X (.builtin "max") [.int i, .int j] (.int (max i j)) := ⟨_, call_max2 hc, fun B H vs Q s h q => by
  obtain ⟨v, w, rfl, r1, r2⟩ := h.two'
  cases r1; cases r2
  refine ⟨i, j, rfl, ?_⟩
  rw [show (if j > i then j else i) = max i j by split <;> omega]
  exact q _ (.int _)⟩
theorem ca_min2 (hc : X.calm = true) : CalD X (.builtin "min") [.int i, .int j] (.int (min i j)) := ⟨_, call_min2 hc, fun B H vs Q s h q => by
  obtain ⟨v, w, rfl, r1, r2⟩ := h.two'
  cases r1; cases r2
  refine ⟨i, j, rfl, ?_⟩
  rw [show (if j < i then j else i) = min i j by split <;> omega]
  exact q _ (.int _)⟩
theorem ca_intB : CalD X (.type "int") [.bl k] (.int (if k then 1 else 0)) := ⟨_, call_int1, fun B H vs Q s h q => by
  obtain ⟨v, rfl, r⟩ := h.one'
  cases r
  exact .inr ⟨k, rfl, q _ (.int _)⟩⟩
theorem ca_intI : CalD X (.type "int") [.int i] (.int i) := ⟨_, call_int1, fun B H vs Q s h q => by
  obtain ⟨v, rfl, r⟩ := h.one'
  cases r
  exact .inl ⟨i, rfl, q _ (.int _)⟩⟩
theorem ca_strI (hi : i.natAbs.log2 < 1920) : CalD X (.type "str") [.int i] (.str (toString i)) := ⟨_, call_str_int, fun B H vs Q s h q => by
  obtain ⟨v, rfl, r⟩ := h.one'
  cases r
  exact ⟨i, rfl, hi, q _ (.str _)⟩⟩
theorem ca_sum {ns : List Int} (hc : X.calm = true) : CalD X (.builtin "sum") [.lst (ns.map .int)] (.int ns.sum) := ⟨_, cr_sum hc, fun B H vs Q s h q => by
  obtain ⟨v, rfl, r⟩ := h.one'
  cases r with
  | lst e1 r1 => exact ⟨_, ns, rfl, by rw [← r1.ints]; exact SqL.of (s.lst e1), q _ (.int _)⟩⟩
theorem ca_maxL {ns : List Int} {m : Int} (hc : X.calm = true) (hn : 0 < ns.length) (hm : ∀ z, z ∈ ns → (∀ y ∈ ns, y ≤ z) → z = m) : CalD X (.builtin "max") [.lst (ns.map .int)] (.int m) := ⟨_, cr_max hc, fun B H vs Q s h q => by
  obtain ⟨v, rfl, r⟩ := h.one'
  cases r with
  | lst e1 r1 => exact ⟨_, ns, rfl, by rw [← r1.ints]; exact SqL.of (s.lst e1), hn, fun z h1 h2 => by rw [hm z h1 h2]; exact q _ (.int _)⟩⟩
theorem ca_minL {ns : List Int} {m : Int} (hc : X.calm = true) (hn : 0 < ns.length) (hm : ∀ z, z ∈ ns → (∀ y ∈ ns, z ≤ y) → z = m) : CalD X (.builtin "min") [.lst (ns.map .int)] (.int m) := ⟨_, cr_min hc, fun B H vs Q s h q => by
  obtain ⟨v, rfl, r⟩ := h.one'
  cases r with
  | lst e1 r1 => exact ⟨_, ns, rfl, by rw [← r1.ints]; exact SqL.of (s.lst e1), hn, fun z h1 h2 => by rw [hm z h1 h2]; exact q _ (.int _)⟩⟩
theorem cn_listL {xs : List D} : CalN X (.type "list") [.lst xs] xs := ⟨_, call_list_of, fun B H vs Q s h q => by
  obtain ⟨v, rfl, r⟩ := h.one'
  cases r with
  | lst e1 r1 => exact ⟨_, _, rfl, .inl (SqL.of (s.lst e1)), fun l hl => q l _ hl r1⟩⟩
theorem cn_listT {xs : List D} : CalN X (.type "list") [.tup xs] xs := ⟨_, call_list_of, fun B H vs Q s h q => by
  obtain ⟨v, rfl, r⟩ := h.one'
  cases r with
  | tup e1 r1 => exact ⟨_, _, rfl, .inr (SqT.of (s.tup e1)), fun l hl => q l _ hl r1⟩⟩

/-! ### isinstance of a written class -/
def D.ty : D → String
  | .non => "NoneType" | .bl _ => "bool" | .int _ => "int" | .str _ => "str" | .tup _ => "tuple" | .lst _ => "list" | .rol _ => "list" | .rot _ => "tuple" | .dk _ => "dict" | .dt _ => "dict" | .raw _ => ""
def D.known : D → Bool
  | .raw _ => false
  | .dt _ => false
  | _ => true
theorem Dn.tyx {v : V} {d : D} (s : Sub B H) (h : Dn K B v d) (hc : d.known = true) : TyX K H v (.type d.ty) := by
  cases h with
  | non => exact .base .non
  | bl => exact .base (.bl _)
  | int => exact .base (.int _)
  | str => exact .base (.str _)
  | tup h => exact .base (.tup (s.tup h))
  | rot h =>
    rcases s.seqT h with (h | ⟨o, h⟩) | ⟨o, its, n, h, hcl, _⟩
    · exact .base (.tup h)
    · exact .fTuple h
    · exact .kTuple h hcl
  | lst h => exact .base (.lst (s.lst h))
  | rol h =>
    rcases s.seq h with (h | ⟨o, h⟩) | ⟨o, its, n, h, hcl, _⟩
    · exact .base (.lst h)
    · exact .base (.frz h)
    · exact .kList h hcl
  | dk h =>
    rcases s _ _ h with h | ⟨_, ob, h⟩
    · exact .base (.dK h)
    · exact .fDict h
  | dt h => cases hc
  | raw => cases hc
theorem ca_isi {T : String} {b : Bool} (hc : d.known = true) (hb : kitB d.ty T = some b) : CalD X (.builtin "isinstance") [d, .raw (.ty T)] (.bl b) := ⟨_, call_isi, fun B H vs Q s h q => by
  obtain ⟨v, w, rfl, r1, r2⟩ := h.two'
  cases r2
  exact ⟨v, _, _, _, b, rfl, .ty T, r1.tyx s hc, kit_ty hb, q _ (.bl b)⟩⟩
theorem de_tyn {T : String} (hm : X.mg x = none) (hg : Gl X x := by rfl) (hv : bootBuiltins x = some (.type T) := by decide +kernel) (hn : x ≠ "__name__" := by decide) (hd : (x == ("__debug__" : Str)) = false := by decide) : DV X (.Name x pos) Δ (.raw (.ty T)) Δ :=
  de_pe _ (pe_bltn hg hm hv (v := .ty T) rfl hn hd) fun _ _ _ _ _ _ k => k _ (.raw _)

/-! ### calls of the text's own defs -/
theorem At.join {F0 G0 G1 : List Addr} {Δ Θ : List Sk} {σ τ : L2.St} (sl : Sl K B H Δ σ F0) (nd : F0.Nodup) (out : ∀ a ∈ F0, B a = none) (dis : ∀ a ∈ F0, a ∉ G0) (s : Stp B H G0 B' H' G1) (a' : At K B' H' G1 Θ τ) :
    Sl K B' H' Δ σ F0 ∧ (∀ a ∈ F0, a ∉ G1) ∧ (∀ a ∈ F0, B' a = none) ∧ (G1 ++ F0).Nodup := by
  have d1 : ∀ a ∈ F0, a ∉ G1 := fun a m m1 => by
    rcases s.newF a m1 with z | z
    · exact dis a m z
    · exact sl.there a m z
  refine ⟨sl.frame s.sub fun a m o q => s.keep a o q (dis a m), d1, fun a m => ?_, List.nodup_append.mpr ⟨a'.nd, nd, fun a m b m2 e => d1 a (e ▸ m2) m⟩⟩
  cases q : B' a with
  | none => rfl
  | some o =>
    rcases s.newB a (by rw [q]; exact nofun) with z | z | z
    · exact absurd (out a m) z
    · exact absurd z (dis a m)
    · exact absurd z (sl.there a m)
theorem Stp.wide {G0 G1 F0 : List Addr} (s : Stp B H G0 B' H' G1) : Stp B H (G0 ++ F0) B' H' (G1 ++ F0) :=
  ⟨s.sub, fun a o h n => s.keep a o h fun m => n (List.mem_append_left _ m), fun a m => by
    rcases List.mem_append.mp m with m | m
    · rcases s.newF a m with z | z
      · exact .inl (List.mem_append_left _ z)
      · exact .inr z
    · exact .inl (List.mem_append_right _ m), fun a m => by
    rcases s.newB a m with z | z | z
    · exact .inl z
    · exact .inr (.inl (List.mem_append_left _ z))
    · exact .inr (.inr z), s.all⟩
theorem Sl.append {Θ Δ : List Sk} {τ σ : L2.St} {F G : List Addr} (h : Sl K B H Θ τ F) (h' : Sl K B H Δ σ G) : Sl K B H (Θ ++ Δ) (τ ++ σ) (F ++ G) := by
  induction h with
  | nil => exact h'
  | un o _ ih => exact .un o ih
  | im d _ ih => exact .im d ih
  | ow ok p r _ ih => rw [List.append_assoc]; exact .ow ok p r ih
/-- a def of data alone: pre says of the arguments what comes back -/
def Sp0 (K : PySem.W.Frag) (n : Nat) (pre : List D → Sk → Prop) : Sp := fun vs H Q _ => vs.length = n ∧ ∃ B ds r, pre ds r ∧ Sub B H ∧ DnA K B vs ds ∧
  ∀ v B' H' F', Stp B H [] B' H' F' → At K B' H' F' [r] [some v] → Q v H'
/-- a def that changes its first argument -/
def Sp1 (K : PySem.W.Frag) (n : Nat) (pre : ResT → List D → Sk → ResT → Prop) : Sp := fun vs H Q _ => vs.length = n ∧ ∃ B F v0 vs' R ds r R', vs = v0 :: vs' ∧ pre R ds r R' ∧ At K B H F [.ow none R] [some v0] ∧ DnA K B vs' ds ∧
  ∀ v B' H' F', Stp B H F B' H' F' → At K B' H' F' [r, .ow none R'] [some v, some v0] → Q v H'
structure Cal (P : Program) (w : World) (K : PySem.W.Frag) (mg : Str → Option Value) (base : Heap) (CX : CXT) (k : Nat) (x : Str) (ps : List Str) (sp : Sp) : Prop where
  ex : ∃ f fd, FnOk P w K mg base CX k f fd ps sp ∧ mg x = some (.ref f) ∧ PySem.W.keepIn K (.ref f) = true ∧ Binds K fd ps []
theorem de_call {CX : CXT} {E : XK} {lv lk n : Nat} {ps : List Str} {pre : List D → Sk → Prop} (C : Cal X.prog X.w X.K X.mg X.base CX lk x ps (Sp0 X.K n pre)) (hr : Room lv X.A) (hx : Passes CX X E) (ha : DA X (e :: es) Δ ds Δ1) (hp : pre ds r)
    (hn : ds.length = n) (hl : lk ≤ lv := by decide) (hg : Gl X x := by rfl) (hdb : (x == ("__debug__" : Str)) = false := by decide) (he : starEach (e :: es) X.env = (false, eval e X.env) :: starEach es X.env := by rfl) (hpl : (backTo pos (starEach es X.env)).any (·.1) = false := by rfl) :
    DE X (.Call (.Name x p) (e :: es) [] pos) Δ r Δ1 := fun B H F σ a Q q => by
  obtain ⟨f, fd, G, hm, hk, hb⟩ := C.ex
  refine ⟨_, pe_call G (hr.mono hl) hg hm hk hb .nil hx (pa_w _) hdb he hpl, ha B H F σ a _ fun vs B1 H1 F1 s1 r1 a1 => ?_⟩
  rw [List.append_nil]
  refine ⟨by rw [r1.length, hn], B1, ds, r, hp, a1.sub, r1, fun v B2 H2 F2 s2 a2 => ?_⟩
  obtain ⟨j1, j2, j3, j4⟩ := At.join a1.sl a1.nd a1.out (fun _ _ m => by cases m) s2 a2
  refine q v B2 H2 (F2 ++ F1) (s1.trans (s2.wide (F0 := F1))) ⟨a2.sub, a2.sl.append j1, j4, fun b m => ?_⟩
  rcases List.mem_append.mp m with m | m
  · exact a2.out b m
  · exact j3 b m
theorem Sl.heads {F : List Addr} {oa : Option V} {R : ResT} {Δ : List Sk} {v : V} {σ : L2.St} (h : Sl K B H (.ow oa R :: Δ) (some v :: σ) F) : ∃ G F0, F = G ++ F0 ∧ ROk R ∧ (∀ u, oa = some u → v = u) ∧ R K B H v G ∧ Sl K B H Δ σ F0 := by
  cases h with
  | ow ok p r s => exact ⟨_, _, rfl, ok, p, r, s⟩
theorem Sl.head_any {F : List Addr} {r : Sk} {Δ : List Sk} {o : Option V} {σ : L2.St} (h : Sl K B H (r :: Δ) (o :: σ) F) : ∃ G F0, F = G ++ F0 ∧ Sl K B H [r] [o] G ∧ Sl K B H Δ σ F0 := by
  cases h with
  | un o s => exact ⟨[], _, rfl, .un _ .nil, s⟩
  | im d s => exact ⟨[], _, rfl, .im d .nil, s⟩
  | ow ok p r s => exact ⟨_, _, rfl, by have := Sl.ow ok p r (Sl.nil (K := K) (B := B) (H := H)); rwa [List.append_nil] at this, s⟩
/-- an owned thing put back into its slot -/
theorem At.put {F : List Addr} {r : Sk} {oa : Option V} {R : ResT} {Δ : List Sk} {v w : V} {σ : L2.St} {i : Nat} (h : At K B H F (r :: .ow oa R :: Δ) (some v :: some w :: σ)) (hi : i < Δ.length) (hs : σ[i]? = some (some w)) {oa' : Option V} (hoa : ∀ u, oa' = some u → w = u) :
    ∃ F', At K B H F' (r :: Δ.set i (.ow oa' R)) (some v :: σ) ∧ ∀ a ∈ F', a ∈ F := by
  obtain ⟨s, sl, nd, out⟩ := h
  obtain ⟨G1, F1, e1, s1, s2⟩ := sl.head_any
  obtain ⟨G2, F2, e2, ok, p, rr, s3⟩ := s2.heads
  obtain ⟨F3, F4, s4, sub⟩ := Sl.put_ow (i := i) (v := w) (oa := oa') s3 ok hoa rr hi
  have e4 : σ.set i (some w) = σ := by
    apply List.ext_getElem?
    intro j
    rw [List.getElem?_set]
    split
    · rename_i z; subst z; split
      · exact hs.symm
      · rename_i z2; rw [List.getElem?_eq_none (by omega)]
    · rfl
  rw [e4] at s4
  have pm : (F3 ++ (G2 ++ F4)).Perm (G2 ++ (F3 ++ F4)) := by
    rw [← List.append_assoc, ← List.append_assoc]
    exact List.Perm.append_right _ List.perm_append_comm
  have sub2 : (G2 ++ (F3 ++ F4)).Sublist (G2 ++ F2) := List.Sublist.append (List.Sublist.refl _) sub
  have mem : ∀ a ∈ G1 ++ (F3 ++ (G2 ++ F4)), a ∈ F := fun a m => by
    rw [e1, e2]
    rcases List.mem_append.mp m with m | m
    · exact List.mem_append_left _ m
    · exact List.mem_append_right _ (sub2.subset (pm.subset m))
  refine ⟨_, ⟨s, s1.append s4, ?_, fun a m => out a (mem a m)⟩, mem⟩
  subst e1 e2
  have n1 : (G1 ++ (G2 ++ (F3 ++ F4))).Nodup := nd.sublist (List.Sublist.append (List.Sublist.refl _) sub2)
  exact (List.Perm.append_left G1 pm).nodup_iff.mpr n1
theorem de_call1 {CX : CXT} {E : XK} {lv lk n : Nat} {ps : List Str} {pre : ResT → List D → Sk → ResT → Prop} {R R' : ResT} {oa : Option V} {y : Str} {py : Pos} (i : Nat) (C : Cal X.prog X.w X.K X.mg X.base CX lk x ps (Sp1 X.K n pre)) (hr : Room lv X.A) (hx : Passes CX X E)
    (hN : X.N[i]? = some y) (hv : Vis X.env.scope y) (ha : DA X es Δ ds Δ1) (hi : Δ1[i]? = some (.ow oa R)) (hi0 : ∃ oa0 R0, Δ[i]? = some (.ow oa0 R0)) (hp : pre R ds r R')
    (hn : ds.length + 1 = n) (hl : lk ≤ lv := by decide) (hg : Gl X x := by rfl) (hdb : (x == ("__debug__" : Str)) = false := by decide) (he : starEach (.Name y py :: es) X.env = (false, eval (.Name y py) X.env) :: starEach es X.env := by rfl) (hpl : (backTo pos (starEach es X.env)).any (·.1) = false := by rfl)
    (hd : (y == ("__debug__" : Str)) = false := by decide) (hcd : (y == ("__classdict__" : Str)) = false := by decide) :
    DE X (.Call (.Name x p) (.Name y py :: es) [] pos) Δ r (Δ1.set i (.ow oa R')) := fun B H F σ a Q q => by
  obtain ⟨f, fd, G, hm, hk, hb⟩ := C.ex
  obtain ⟨oa0, R0, hi0⟩ := hi0
  obtain ⟨v0, _, _, _, e1, _⟩ := a.sl.get_ow hi0
  refine ⟨_, pe_call G (hr.mono hl) hg hm hk hb .nil hx (pa_cons (pe_var hN hv hd hcd) (pa_w es) he) hdb he hpl, v0, e1, ha B H F σ a _ fun vs B1 H1 F1 s1 r1 a1 => ?_⟩
  obtain ⟨v1, F1', e1', s1', a1'⟩ := a1.take hi
  rw [e1] at e1'
  cases e1'
  obtain ⟨G0, F0, ef, ok, pp, rr, sl0⟩ := a1'.sl.heads
  subst ef
  have nd := List.nodup_append.mp a1'.nd
  rw [List.append_nil]
  refine ⟨by rw [List.length_cons, r1.length, hn], B1, G0, v0, vs, R, ds, r, R', rfl, hp, ⟨a1'.sub, ?_, nd.1, fun b m => a1'.out b (List.mem_append_left _ m)⟩, r1, fun v B2 H2 F2 s2 a2 => ?_⟩
  · have := Sl.ow (oa := none) ok nofun rr (Sl.nil (K := X.K) (B := B1) (H := H1))
    rwa [List.append_nil] at this
  · obtain ⟨j1, j2, j3, j4⟩ := At.join sl0 nd.2.1 (fun b m => a1'.out b (List.mem_append_right _ m)) (fun b m m2 => nd.2.2 b m2 b m rfl) s2 a2
    have big : At X.K B2 H2 (F2 ++ F0) (r :: .ow none R' :: Δ1.set i .un) (some v :: some v0 :: σ) := ⟨a2.sub, a2.sl.append j1, j4, fun b m => by
      rcases List.mem_append.mp m with m | m
      · exact a2.out b m
      · exact j3 b m⟩
    have lt : i < Δ1.length := (List.getElem?_eq_some_iff.mp hi).1
    obtain ⟨F', h1, h2⟩ := big.put (i := i) (oa' := oa) (by rw [List.length_set]; exact lt) e1 pp
    rw [List.set_set] at h1
    exact q v B2 H2 F' ((s1.trans s1').trans ((s2.wide (F0 := F0)).less h2)) h1
end
end DL
set_option Elab.async false
set_option linter.all false
set_option maxRecDepth 100000
/-! DL4: statements, loops, comprehensions -/
namespace DL
open PySem PySem.Spec PyProof.Rows L2
variable {X : Cx} {K : PySem.W.Frag} {B B' H H' : Hp}
section
variable {e a b c tg iter : Expr} {es : List Expr} {st : Stmt} {sts sts' : List Stmt} {Δ Δ' Δ1 Δ2 Δ3 : List Sk} {d d1 d2 d3 : D} {ds ys : List D} {pos p apos cpos : Pos} {x : Str} {r : Sk} {k k1 k2 : Bool}

/-- what is wanted behind a statement -/
structure Pst where
  nx : List Sk → Prop
  rt : Sk → List Sk → Prop
  bk : List Sk → Prop := fun _ => False
  ct : List Sk → Prop := fun _ => False
structure Meets (K : PySem.W.Frag) (B H : Hp) (F : List Addr) (P : Pst) (D : Ends) : Prop where
  nx : ∀ Δ' σ' B' H' F', P.nx Δ' → Stp B H F B' H' F' → At K B' H' F' Δ' σ' → D.nx σ' H'
  rt : ∀ r Δ' v σ' B' H' F', P.rt r Δ' → Stp B H F B' H' F' → At K B' H' F' (r :: Δ') (some v :: σ') → D.rt v H'
  bk : ∀ Δ' σ' B' H' F', P.bk Δ' → Stp B H F B' H' F' → At K B' H' F' Δ' σ' → D.bk σ' H'
  ct : ∀ Δ' σ' B' H' F', P.ct Δ' → Stp B H F B' H' F' → At K B' H' F' Δ' σ' → D.ct σ' H'
theorem Meets.step {F F' : List Addr} {P : Pst} {D : Ends} (m : Meets K B H F P D) (s : Stp B H F B' H' F') : Meets K B' H' F' P D :=
  ⟨fun Δ' σ' _ _ _ q s' => m.nx Δ' σ' _ _ _ q (s.trans s'), fun r Δ' v σ' _ _ _ q s' => m.rt r Δ' v σ' _ _ _ q (s.trans s'), fun Δ' σ' _ _ _ q s' => m.bk Δ' σ' _ _ _ q (s.trans s'), fun Δ' σ' _ _ _ q s' => m.ct Δ' σ' _ _ _ q (s.trans s')⟩
def DS (X : Cx) (st : Stmt) (Δ : List Sk) (P : Pst) : Prop := ∀ B H F σ, At X.K B H F Δ σ → ∀ D : Ends, Meets X.K B H F P D → wS X st D σ H
def DSs (X : Cx) (sts : List Stmt) (Δ : List Sk) (P : Pst) : Prop := ∀ B H F σ, At X.K B H F Δ σ → ∀ D : Ends, Meets X.K B H F P D → wSs X sts D σ H
theorem dss_nil {P : Pst} (h : P.nx Δ) : DSs X [] Δ P := fun B H F σ a D m => ⟨_, pss_nil, m.nx Δ σ B H F h .refl a⟩
theorem dss_cons {P : Pst} (h : DS X st Δ { P with nx := fun Δ' => DSs X sts Δ' P }) : DSs X (st :: sts) Δ P := fun B H F σ a D m =>
  ⟨_, pss_cons (ps_w st) (pss_w sts), h B H F σ a { D with nx := wSs X sts D } ⟨fun Δ' σ' B' H' F' q s a' => q B' H' F' σ' a' D (m.step s), m.rt, m.bk, m.ct⟩⟩
theorem DS.imp {P P' : Pst} (h : DS X st Δ P) (hn : ∀ Δ, P.nx Δ → P'.nx Δ) (hr : ∀ r Δ, P.rt r Δ → P'.rt r Δ) (hb : ∀ Δ, P.bk Δ → P'.bk Δ) (hc : ∀ Δ, P.ct Δ → P'.ct Δ) : DS X st Δ P' := fun B H F σ a D m =>
  h B H F σ a D ⟨fun Δ' σ' _ _ _ q => m.nx Δ' σ' _ _ _ (hn _ q), fun r Δ' v σ' _ _ _ q => m.rt r Δ' v σ' _ _ _ (hr _ _ q), fun Δ' σ' _ _ _ q => m.bk Δ' σ' _ _ _ (hb _ q), fun Δ' σ' _ _ _ q => m.ct Δ' σ' _ _ _ (hc _ q)⟩
theorem DSs.imp {P P' : Pst} (h : DSs X sts Δ P) (hn : ∀ Δ, P.nx Δ → P'.nx Δ) (hr : ∀ r Δ, P.rt r Δ → P'.rt r Δ) (hb : ∀ Δ, P.bk Δ → P'.bk Δ) (hc : ∀ Δ, P.ct Δ → P'.ct Δ) : DSs X sts Δ P' := fun B H F σ a D m =>
  h B H F σ a D ⟨fun Δ' σ' _ _ _ q => m.nx Δ' σ' _ _ _ (hn _ q), fun r Δ' v σ' _ _ _ q => m.rt r Δ' v σ' _ _ _ (hr _ _ q), fun Δ' σ' _ _ _ q => m.bk Δ' σ' _ _ _ (hb _ q), fun Δ' σ' _ _ _ q => m.ct Δ' σ' _ _ _ (hc _ q)⟩
theorem ds_pass {P : Pst} (h : P.nx Δ) : DS X (.Pass pos) Δ P := fun B H F σ a D m => ⟨_, ps_pass, m.nx Δ σ B H F h .refl a⟩
theorem ds_ret {P : Pst} (h : DE X e Δ r Δ1) (q : P.rt r Δ1) : DS X (.Return (some e) pos) Δ P := fun B H F σ a D m => ⟨_, ps_ret (pe_w e), h B H F σ a _ fun v B' H' F' s a' => m.rt r Δ1 v σ B' H' F' q s a'⟩
theorem ds_retN {P : Pst} (q : P.rt (.im .non) Δ) : DS X (.Return none pos) Δ P := fun B H F σ a D m => ⟨_, ps_retN, m.rt _ Δ .non σ B H F q .refl (.mk_im .non a)⟩
theorem At.drop {F : List Addr} {Δ : List Sk} {o : Option V} {σ : L2.St} (h : At K B H F (r :: Δ) (o :: σ)) : ∃ F', At K B H F' Δ σ ∧ ∀ a ∈ F', a ∈ F := by
  obtain ⟨s, sl, nd, out⟩ := h
  obtain ⟨G, F0, e, _, s2⟩ := sl.head_any
  subst e
  exact ⟨F0, ⟨s, s2, (List.nodup_append.mp nd).2.1, fun a m => out a (List.mem_append_right _ m)⟩, fun a m => List.mem_append_right _ m⟩
theorem ds_expr {P : Pst} (h : DE X e Δ r Δ1) (q : P.nx Δ1) (hs : swapsWith e none pos.line X.env = pure false := by rfl) : DS X (.Expr e pos) Δ P := fun B H F σ a D m =>
  ⟨_, ps_expr (pe_w e) hs, h B H F σ a _ fun v B' H' F' s a' => by
    obtain ⟨F2, a2, mm⟩ := a'.drop
    exact m.nx Δ1 σ B' H' F2 q (s.less mm) a2⟩
/-- an owned thing, or a value, put into a slot -/
theorem At.store {F : List Addr} {Δ : List Sk} {v : V} {σ : L2.St} (i : Nat) (h : At K B H F (r :: Δ) (some v :: σ)) : ∃ F', At K B H F' (Δ.set i r) (σ.set i (some v)) ∧ ∀ a ∈ F', a ∈ F := by
  obtain ⟨s, sl, nd, out⟩ := h
  cases sl with
  | un o sl =>
    obtain ⟨F', h1, h2⟩ := sl.set_un (i := i) (some v)
    exact ⟨F', ⟨s, h1, nd.sublist h2, fun a m => out a (h2.subset m)⟩, fun a m => h2.subset m⟩
  | im d sl =>
    obtain ⟨F', h1, h2⟩ := sl.set_im (i := i) d
    exact ⟨F', ⟨s, h1, nd.sublist h2, fun a m => out a (h2.subset m)⟩, fun a m => h2.subset m⟩
  | @ow _ _ F0 _ oa R G ok pp rr sl =>
    by_cases hi : i < Δ.length
    · obtain ⟨F1, F2, h1, h2⟩ := sl.put_ow (i := i) (oa := oa) ok pp rr hi
      have pm : (F1 ++ (G ++ F2)).Perm (G ++ (F1 ++ F2)) := by
        rw [← List.append_assoc, ← List.append_assoc]
        exact List.Perm.append_right _ List.perm_append_comm
      have sub2 : (G ++ (F1 ++ F2)).Sublist (G ++ F0) := List.Sublist.append (List.Sublist.refl _) h2
      have mem : ∀ a ∈ F1 ++ (G ++ F2), a ∈ G ++ F0 := fun a m => sub2.subset (pm.subset m)
      exact ⟨_, ⟨s, h1, pm.nodup_iff.mpr (nd.sublist sub2), fun a m => out a (mem a m)⟩, mem⟩
    · have e1 : Δ.set i (.ow oa R) = Δ := List.set_eq_of_length_le (by omega)
      have e2 : σ.set i (some v) = σ := List.set_eq_of_length_le (by rw [sl.length]; omega)
      rw [e1, e2]
      exact ⟨F0, ⟨s, sl, (List.nodup_append.mp nd).2.1, fun a m => out a (List.mem_append_right _ m)⟩, fun a m => List.mem_append_right _ m⟩
theorem ds_set {P : Pst} (i : Nat) {pos' : Pos} (h : DE X e Δ r Δ1) (q : P.nx (Δ1.set i r)) (hN : X.N.Nodup) (hi : X.N[i]? = some x) (hx : Loc X.env.scope x) (hs : swapsWith e (some (.Name x pos')) pos.line X.env = pure false := by rfl)
    (hf : X.fn x = true ∨ X.env.scope.names.lookup x = some .local := by first | exact .inl rfl | exact .inr rfl | assumption) : DS X (.Assign [.Name x pos'] e pos) Δ P := fun B H F σ a D m =>
  ⟨_, ps_set hN hi hx (pe_w e) hs hf, h B H F σ a _ fun v B' H' F' s a' => by
    obtain ⟨F2, a2, mm⟩ := a'.store i
    exact m.nx _ _ B' H' F2 q (s.less mm) a2⟩

/-! ### targets -/
/-- σ' is σ but at js -/
def But (js : List Nat) (σ σ' : L2.St) : Prop := σ'.length = σ.length ∧ ∀ j, j ∉ js → σ'[j]? = σ[j]?
def DG (X : Cx) (tg : Expr) (d : D) (Δ Δ' : List Sk) (js : List Nat) : Prop := ∀ B H F σ v, At X.K B H F Δ σ → Dn X.K B v d → ∀ Q : L2.St → Hp → Prop,
  (∀ B' H' F' σ', But js σ σ' → Stp B H F B' H' F' → At X.K B' H' F' Δ' σ' → Q σ' H') → wG X tg v σ H Q
theorem dg_nm (i : Nat) (hN : X.N.Nodup) (hi : X.N[i]? = some x) (hx : Loc X.env.scope x) (hf : X.fn x = true ∨ X.env.scope.names.lookup x = some .local := by first | exact .inl rfl | exact .inr rfl | assumption) : DG X (.Name x pos) d Δ (Δ.set i (.im d)) [i] := fun B H F σ v a r Q q =>
  ⟨_, pg_name hN hi hx hf, by
    obtain ⟨F2, a2, mm⟩ := (At.mk_im r a).store i
    exact q B H F2 _ ⟨List.length_set .., fun j hj => List.getElem?_set_ne (fun e => hj (by simp [e]))⟩ ((Stp.refl).less mm) a2⟩
/-- the parts of a tuple's target, one by one -/
def DGs (X : Cx) (ts : List Expr) (ds : List D) (Δ Δ' : List Sk) (js : List Nat) : Prop := ∀ B H F σ vs, At X.K B H F Δ σ → DnA X.K B vs ds → ∀ Q : L2.St → Hp → Prop,
  (∀ B' H' F' σ', But js σ σ' → Stp B H F B' H' F' → At X.K B' H' F' Δ' σ' → Q σ' H') → ∃ t, PGs X ts t ∧ t vs σ H Q
theorem But.trans {js js' : List Nat} {σ σ1 σ2 : L2.St} (h : But js σ σ1) (h' : But js' σ1 σ2) : But (js ++ js') σ σ2 :=
  ⟨h'.1.trans h.1, fun j hj => (h'.2 j fun m => hj (List.mem_append_right _ m)).trans (h.2 j fun m => hj (List.mem_append_left _ m))⟩
theorem dgs_nil : DGs X [] [] Δ Δ [] := fun B H F σ vs a r Q q => by
  cases r
  exact ⟨_, pgs_nil, rfl, q B H F σ ⟨rfl, fun _ _ => rfl⟩ .refl a⟩
theorem dgs_cons {js js' : List Nat} {ts : List Expr} (h : DG X e d Δ Δ1 js) (h' : DGs X ts ds Δ1 Δ2 js') (hs : (assignEach (e :: ts) X.env).map (·.2) = assign e X.env :: (assignEach ts X.env).map (·.2) := by rfl) : DGs X (e :: ts) (d :: ds) Δ Δ2 (js ++ js') := fun B H F σ vs a r Q q => by
  cases r with
  | cons r rr =>
    have wgs : PGs X ts (fun vs σ H Q => ∃ t, PGs X ts t ∧ t vs σ H Q) := ⟨fun pins s σ H vs us Q I r ⟨_, h, q⟩ => h.run pins s σ H vs us Q I r q⟩
    exact ⟨_, pgs_cons (pg_w e) wgs hs, _, _, rfl, h B H F σ _ a r _ fun B1 H1 F1 σ1 b1 s1 a1 => h' B1 H1 F1 σ1 _ a1 (rr.mono s1.sub) Q fun B2 H2 F2 σ2 b2 s2 a2 => q B2 H2 F2 σ2 (b1.trans b2) (s1.trans s2) a2⟩
theorem dg_tup {js : List Nat} {kk n : Nat} (hc : X.calm = true) (h : DGs X es ds Δ Δ1 js) (hl : ds.length = n) (hn : (assignEach es X.env).length = n := by rfl) (hst : (assignEach es X.env).findIdx? (·.1) = none := by rfl) : DG X (.Tuple es kk pos) (.tup ds) Δ Δ1 js := fun B H F σ v a r Q q => by
  cases r with
  | @tup l xs _ e1 r1 =>
    have wgs : PGs X es (fun vs σ H Q => ∃ t, PGs X es t ∧ t vs σ H Q) := ⟨fun pins s σ H vs us Q I r ⟨_, h, q⟩ => h.run pins s σ H vs us Q I r q⟩
    exact ⟨_, pg_tup hc wgs hn hst, l, xs, rfl, SqT.of (a.sub.tup e1), by rw [r1.length, hl], h B H F σ xs a r1 Q q⟩
theorem ds_asg {P : Pst} {js : List Nat} (h : DV X e Δ d Δ1) (g : DG X tg d Δ1 Δ2 js) (q : P.nx Δ2) (hs : swapsWithSole [tg] e pos.line X.env = pure false := by rfl) (hw : swappedStores [tg] e X.env = pure none := by rfl)
    (h1 : (assignEach [tg] X.env).map (·.2) = [assign tg X.env] := by rfl) : DS X (.Assign [tg] e pos) Δ P := fun B H F σ a D m =>
  ⟨_, ps_asg (pe_w e) (pg_w tg) hs hw h1, h.run a fun v B1 H1 F1 s1 r1 a1 => g B1 H1 F1 σ v a1 r1 _ fun B2 H2 F2 σ2 b2 s2 a2 => m.nx _ _ B2 H2 F2 q (s1.trans s2) a2⟩

/-! ### an owned thing is changed -/
theorem Sl.rewrite {F : List Addr} {Δ : List Sk} {σ : L2.St} {oa : Option V} {R R' : ResT} {p : Addr} {o : HO} (h : Sl K B H Δ σ F) : ∀ {i : Nat}, Δ[i]? = some (.ow oa R) → σ[i]? = some (some (.ref p)) → (∀ G, R K B H (.ref p) G → G = [p]) → F.Nodup → ROk R' → R' K B (upd H p o) (.ref p) [p] →
    Sl K B (upd H p o) (Δ.set i (.ow oa R')) σ F ∧ p ∈ F := by
  have fr : ∀ {Δ : List Sk} {σ : L2.St} {F : List Addr}, Sl K B H Δ σ F → p ∉ F → Sl K B (upd H p o) Δ σ F := fun sl n => sl.frame (Same.refl _) fun a m u q => by rw [upd_ne (fun z => n (by rw [← z]; exact m))]; exact q
  induction h with
  | nil => intro i e; simp at e
  | un u s ih => intro i; cases i with
    | zero => intro e; simp at e
    | succ i =>
      intro e1 e2 hR nd ok r
      obtain ⟨h1, h2⟩ := @ih i (by simpa using e1) (by simpa using e2) hR nd ok r
      exact ⟨.un u h1, h2⟩
  | im d s ih => intro i; cases i with
    | zero => intro e; simp at e
    | succ i =>
      intro e1 e2 hR nd ok r
      obtain ⟨h1, h2⟩ := @ih i (by simpa using e1) (by simpa using e2) hR nd ok r
      exact ⟨.im d h1, h2⟩
  | @ow Δ σ F v oa' R0 G ok0 pp0 rr s ih => intro i; cases i with
    | zero =>
      intro e1 e2 hR nd ok r
      simp at e1 e2
      obtain ⟨rfl, rfl⟩ := e1
      subst e2
      obtain rfl := hR G rr
      have n : p ∉ F := (List.nodup_cons.mp nd).1
      exact ⟨.ow ok pp0 r (fr s n), List.mem_append_left _ (List.mem_singleton_self p)⟩
    | succ i =>
      intro e1 e2 hR nd ok r
      have nd' := List.nodup_append.mp nd
      obtain ⟨h1, h2⟩ := @ih i (by simpa using e1) (by simpa using e2) hR nd'.2.1 ok r
      have n : p ∉ G := fun m => nd'.2.2 p m p h2 rfl
      exact ⟨.ow ok0 pp0 (ok0.loc (fun a m u q => by rw [upd_ne (fun z => n (by rw [← z]; exact m))]; exact q) rr) h1, List.mem_append_right _ h2⟩
theorem At.write {F : List Addr} {Δ : List Sk} {σ : L2.St} {i : Nat} {oa : Option V} {R R' : ResT} {p : Addr} {o : HO} (h : At K B H F Δ σ) (hi : Δ[i]? = some (.ow oa R)) (hs : σ[i]? = some (some (.ref p))) (hR : ∀ G, R K B H (.ref p) G → G = [p])
    (ok' : ROk R') (r' : R' K B (upd H p o) (.ref p) [p]) : Stp B H F B (upd H p o) F ∧ At K B (upd H p o) F (Δ.set i (.ow oa R')) σ := by
  obtain ⟨s, sl, nd, out⟩ := h
  obtain ⟨sl', mp⟩ := sl.rewrite hi hs hR nd ok' r'
  have bp : B p = none := out p mp
  refine ⟨⟨Same.refl _, fun a u q n => by rw [upd_ne (fun z => n (by rw [z]; exact mp))]; exact q, fun a m => .inl m, fun a m => .inl m, fun a m => ?_⟩, fun a u q => ?_, sl', nd, out⟩
  · by_cases z : a = p
    · rw [z, upd_same]; exact nofun
    · rw [upd_ne z]; exact m
  · rw [upd_ne (fun z => by rw [z, bp] at q; cases q)]
    exact s a u q
theorem rLst_foot {ds : List D} {p : Addr} {G : List Addr} (h : rLst ds K B H (.ref p) G) : G = [p] := by
  obtain ⟨a, vs, e, rfl, _⟩ := h
  cases e; rfl
theorem rDk_foot {ds : List (Key × D)} {p : Addr} {G : List Addr} (h : rDk ds K B H (.ref p) G) : G = [p] := by
  obtain ⟨a, vs, e, rfl, _⟩ := h
  cases e; rfl
theorem rDt_foot {ds : List (List Key × D)} {p : Addr} {G : List Addr} (h : rDt ds K B H (.ref p) G) : G = [p] := by
  obtain ⟨a, vs, e, rfl, _⟩ := h
  cases e; rfl
theorem At.lst {F : List Addr} {Δ : List Sk} {σ : L2.St} {i : Nat} {oa : Option V} {xs : List D} (h : At K B H F Δ σ) (hi : Δ[i]? = some (.ow oa (rLst xs))) : ∃ p vs, σ[i]? = some (some (.ref p)) ∧ H p = some (.lst vs) ∧ DnA K B vs xs := by
  obtain ⟨v, G, F1, F2, e1, e2, ok, pp, ⟨p, vs, rfl, _, e3, e4⟩, _⟩ := h.sl.get_ow hi
  exact ⟨p, vs, e1, e3, e4⟩
/-- xs.append(e) and its like: a method of one's own list -/
def MtL (X : Cx) (id : String) (xs ds : List D) (d : D) (xs' : List D) : Prop := ∃ r, MtR X id r ∧ ∀ B H p vs ws Q, Sub B H → H p = some (.lst vs) → DnA X.K B vs xs → DnA X.K B ws ds → (∀ v us, DnA X.K B us xs' → (∀ H0 : Hp, Dn X.K B v d ∧ True) → Q v (upd H p (.lst us))) → r (.ref p) ws H Q
theorem de_mt {T : String} {name : Str} {id : String} {oa : Option V} {xs xs' : List D} (i : Nat) (pa : PlainAttrs "list") (slot : Slot "list" name id) (hty : typeOf (.builtin id) = pure (.type "method_descriptor")) (hN : X.N[i]? = some x) (hv : Vis X.env.scope x)
    (ha : DA X (e :: es) Δ ds Δ1) (hi0 : ∃ oa0 xs0, Δ[i]? = some (.ow oa0 (rLst xs0))) (hi : Δ1[i]? = some (.ow oa (rLst xs))) (m : MtL X id xs ds d xs')
    (hbase : attributeBase (.Name x p) name X.env (eval (.Name x p) X.env) = eval (.Name x p) X.env := by rfl)
    (hfew : ((backTo cpos (starEach (e :: es) X.env)).all (fun x => !x.1) && (backToKw cpos (keywordEach [] X.env)).all (fun x => x.1.isSome) && decide ((e :: es).length + ([] : List Keyword).length + (if ([] : List Keyword).isEmpty then 0 else 1) < 30)) = true := by rfl)
    (hline : (apos.endLine == cpos.line) = true := by rfl) (hs : starEach (e :: es) X.env = (false, eval e X.env) :: starEach es X.env := by rfl) (hplain : (backTo cpos (starEach es X.env)).any (·.1) = false := by rfl)
    (hd : (x == ("__debug__" : Str)) = false := by decide) (hcd : (x == ("__classdict__" : Str)) = false := by decide) :
    DV X (.Call (.Attribute (.Name x p) name apos) (e :: es) [] cpos) Δ d (Δ1.set i (.ow oa (rLst xs'))) := DE.of fun B H F σ a Q q => by
  obtain ⟨oa0, xs0, hi0⟩ := hi0
  obtain ⟨l, vs0, e0, e1, _⟩ := a.lst hi0
  obtain ⟨r, hm, hr⟩ := m
  refine ⟨_, pe_bm pa slot hty hm (pe_var hN hv hd hcd) (pa_w _) hbase hfew hline hs hplain, .ref l, e0, .inl ⟨rfl, _, SqL.of e1⟩, ha B H F σ a _ fun ws B1 H1 F1 s1 r1 a1 => ?_⟩
  obtain ⟨l', vs, e2, e3, e4⟩ := a1.lst hi
  rw [e0] at e2
  cases e2
  refine hr B1 H1 l vs ws Q a1.sub e3 e4 r1 fun v us h1 h2 => ?_
  obtain ⟨s2, a2⟩ := a1.write (o := .lst us) (R' := rLst xs') hi e0 (fun G => rLst_foot) rLst_ok ⟨l, us, rfl, rfl, upd_same, h1⟩
  exact q v _ _ _ (s1.trans s2) (h2 H).1 a2
theorem de_mt0 {name : Str} {id : String} {oa : Option V} {xs xs' : List D} (i : Nat) (pa : PlainAttrs "list") (slot : Slot "list" name id) (hty : typeOf (.builtin id) = pure (.type "method_descriptor")) (hN : X.N[i]? = some x) (hv : Vis X.env.scope x)
    (hi : Δ[i]? = some (.ow oa (rLst xs))) (m : MtL X id xs [] d xs')
    (hbase : attributeBase (.Name x p) name X.env (eval (.Name x p) X.env) = eval (.Name x p) X.env := by rfl) (hline : (apos.endLine == cpos.line) = true := by rfl)
    (hd : (x == ("__debug__" : Str)) = false := by decide) (hcd : (x == ("__classdict__" : Str)) = false := by decide) :
    DV X (.Call (.Attribute (.Name x p) name apos) [] [] cpos) Δ d (Δ.set i (.ow oa (rLst xs'))) := DE.of fun B H F σ a Q q => by
  obtain ⟨l, vs, e0, e1, e4⟩ := a.lst hi
  obtain ⟨r, hm, hr⟩ := m
  refine ⟨_, pe_bm0 pa slot hty hm (pe_var hN hv hd hcd) hbase hline, .ref l, e0, .inl ⟨rfl, _, SqL.of e1⟩, hr B H l vs [] Q a.sub e1 e4 .nil fun v us h1 h2 => ?_⟩
  obtain ⟨s2, a2⟩ := a.write (o := .lst us) (R' := rLst xs') hi e0 (fun G => rLst_foot) rLst_ok ⟨l, us, rfl, rfl, upd_same, h1⟩
  exact q v _ _ _ s2 (h2 H).1 a2
theorem mt_app {xs : List D} (hl : xs.length < 100000) : MtL X "list.append" xs [d] .non (xs ++ [d]) := ⟨_, L2.mt_append, fun B H p vs ws Q s h1 h2 h3 q => by
  obtain ⟨v, rfl, r⟩ := h3.one'
  exact ⟨p, vs, v, rfl, rfl, h1, by rw [h2.length]; exact Nat.lt_of_lt_of_le hl (by decide), q _ _ (h2.append (.one r)) fun _ => ⟨.non, trivial⟩⟩⟩
theorem mt_ext {xs zs : List D} (hl : xs.length + zs.length ≤ 100000) : MtL X "list.extend" xs [.lst zs] .non (xs ++ zs) := ⟨_, L2.mt_extend, fun B H p vs ws Q s h1 h2 h3 q => by
  obtain ⟨v, rfl, r⟩ := h3.one'
  cases r with
  | lst e1 r1 => exact ⟨p, _, vs, _, rfl, rfl, h1, s.lst e1, by rw [h2.length, r1.length]; exact Nat.le_trans hl (by decide), q _ _ (h2.append r1) fun _ => ⟨.non, trivial⟩⟩⟩
theorem mt_rev {xs : List D} : MtL X "list.reverse" xs [] .non xs.reverse := ⟨_, L2.mt_reverse, fun B H p vs ws Q s h1 h2 h3 q => by
  cases h3
  exact ⟨p, vs, rfl, rfl, h1, q _ _ h2.reverse fun _ => ⟨.non, trivial⟩⟩⟩
theorem mt_clr {xs : List D} : MtL X "list.clear" xs [] .non [] := ⟨_, L2.mt_clear, fun B H p vs ws Q s h1 h2 h3 q => by
  cases h3
  exact ⟨p, vs, rfl, rfl, h1, q _ _ .nil fun _ => ⟨.non, trivial⟩⟩⟩
/-- xs[i] = e, a list of one's own -/
theorem ds_setIx {P : Pst} {oa : Option V} {xs : List D} {j : Int} {m : Nat} (i : Nat) (h : DV X e Δ d Δ1) (h' : DV X b Δ1 (.int j) Δ2) (hi : Δ2[i]? = some (.ow oa (rLst xs))) (hi1 : Δ1[i]? = some (.ow oa (rLst xs))) (hm : ixN xs.length j = some m)
    (q : P.nx (Δ2.set i (.ow oa (rLst (xs.set m d))))) (hN : X.N[i]? = some x) (hv : Vis X.env.scope x)
    (hs : swapsWithSole [.Subscript (.Name x p) b apos] e pos.line X.env = pure false := by rfl) (hw : swappedStores [.Subscript (.Name x p) b apos] e X.env = pure none := by rfl)
    (h1 : (assignEach [.Subscript (.Name x p) b apos] X.env).map (·.2) = [assign (.Subscript (.Name x p) b apos) X.env] := by rfl)
    (hsub : ∀ v, assign (.Subscript (.Name x p) b apos) X.env v = (do
      let ov ← holding [v] (eval (.Name x p) X.env)
      let iv ← holding [v, ov] (eval b X.env)
      standAt apos
      holding [v, ov, iv] (setItem ov iv v)
      release [v, ov, iv] []) := by intro _; rfl)
    (hd : (x == ("__debug__" : Str)) = false := by decide) (hcd : (x == ("__classdict__" : Str)) = false := by decide) : DS X (.Assign [.Subscript (.Name x p) b apos] e pos) Δ P := fun B H F σ a D mm =>
  ⟨_, ps_asg (pe_w e) (pg_sub (pe_var hN hv hd hcd) (pe_w b) set_list hsub) hs hw h1, h.run a fun v B1 H1 F1 s1 r1 a1 => by
    obtain ⟨l, vs, e0, e1, e4⟩ := a1.lst hi1
    refine ⟨.ref l, e0, h'.run a1 fun w B2 H2 F2 s2 r2 a2 => ?_⟩
    cases r2
    obtain ⟨l', vs', e0', e1', e4'⟩ := a2.lst hi
    rw [e0] at e0'
    cases e0'
    refine ⟨l, vs', j, m, rfl, rfl, e1', by rw [e4'.length]; exact hm, ?_⟩
    obtain ⟨s3, a3⟩ := a2.write (o := .lst (vs'.set m v)) (R' := rLst (xs.set m d)) hi e0 (fun G => rLst_foot) rLst_ok ⟨l, _, rfl, rfl, upd_same, e4'.set (r1.mono s2.sub) m⟩
    exact mm.nx _ _ _ _ _ q ((s1.trans s2).trans s3) a3⟩

/-! ### if -/
theorem ds_if {P : Pst} (h : DT X c Δ k Δ1) (h1 : k = true → DSs X sts Δ1 P) (h2 : k = false → DSs X sts' Δ1 P) : DS X (.If c sts sts' pos) Δ P := fun B H F σ a D m =>
  ⟨_, ps_if (pt_w c) (pss_w sts) (pss_w sts'), h B H F σ a _ fun B' H' F' s a' => by
    cases k with
    | true => exact iteT (h1 rfl B' H' F' σ a' D (m.step s))
    | false => exact iteF (h2 rfl B' H' F' σ a' D (m.step s))⟩
/-- the test is known -/
theorem ds_ifF {P : Pst} (h : DT X c Δ false Δ1) (h2 : DSs X sts' Δ1 P) : DS X (.If c sts sts' pos) Δ P := ds_if h nofun fun _ => h2
theorem ds_ifT {P : Pst} (h : DT X c Δ true Δ1) (h1 : DSs X sts Δ1 P) : DS X (.If c sts sts' pos) Δ P := ds_if h (fun _ => h1) nofun

/-! ### while -/
theorem ds_while {P : Pst} (J : Nat → List Sk → Prop) {m0 : Nat} (h0 : J m0 Δ) (hp : PassesOwn (model X.prog X.w) X.A X.env X.xe)
    (ht : ∀ m Δi, J m Δi → ∃ k Δ', DT X c Δi k Δ' ∧ (k = true → DSs X sts Δ' { P with nx := fun Δ'' => ∃ m', m' < m ∧ J m' Δ'', ct := fun Δ'' => ∃ m', m' < m ∧ J m' Δ'', bk := P.nx }) ∧ (k = false → P.nx Δ')) :
    DS X (.While c sts [] pos) Δ P := fun B H F σ a D mm =>
  ⟨_, ps_while hp (pt_w c) (pss_w sts), fun m σ' H' => ∃ Δi B' F', J m Δi ∧ Stp B H F B' H' F' ∧ At X.K B' H' F' Δi σ', ⟨m0, Δ, B, F, h0, .refl, a⟩, fun m σ' H' ⟨Δi, B', F', j, s, a'⟩ => by
    obtain ⟨k, Δ', h, h1, h2⟩ := ht m Δi j
    refine h B' H' F' σ' a' _ fun B1 H1 F1 s1 a1 => ?_
    cases k with
    | true =>
      refine iteT ⟨fun σ'' H'' => ∃ m', m' < m ∧ ∃ Δi B' F', J m' Δi ∧ Stp B H F B' H'' F' ∧ At X.K B' H'' F' Δi σ'', fun _ _ z => z, ?_⟩
      refine h1 rfl B1 H1 F1 σ' a1 _ ⟨?_, ?_, ?_, ?_⟩
      · rintro Δ'' σ'' B2 H2 F2 ⟨m', lt, j'⟩ s2 a2
        exact ⟨m', lt, Δ'', B2, F2, j', (s.trans s1).trans s2, a2⟩
      · exact (mm.step (s.trans s1)).rt
      · exact (mm.step (s.trans s1)).nx
      · rintro Δ'' σ'' B2 H2 F2 ⟨m', lt, j'⟩ s2 a2
        exact ⟨m', lt, Δ'', B2, F2, j', (s.trans s1).trans s2, a2⟩
    | false => exact iteF (mm.nx Δ' σ' B1 H1 F1 (h2 rfl) (s.trans s1) a1)⟩

/-! ### what is walked -/
/-- what a turn yields: an elder value, or a new tuple -/
def Yl (K : PySem.W.Frag) (B H : Hp) (x : V) (H' : Hp) (d : D) : Prop := (H' = H ∧ Dn K B x d) ∨ ∃ T xs ds, x = .ref T ∧ H T = none ∧ H' = upd H T (.tup xs) ∧ DnA K B xs ds ∧ d = .tup ds
/-- what must stand while it is walked -/
def Lks (B H : Hp) (L : List (Addr × HO)) : Prop := ∀ q ∈ L, H q.1 = some q.2 ∧ B q.1 ≠ none
structure ItD (K : PySem.W.Frag) (J : It) (B : Hp) (ys : List D) (L : List (Addr × HO)) : Prop where
  go : ∀ i H, Sub B H → Lks B H L → i < ys.length → J.go i H
  stop : ∀ i H, Sub B H → Lks B H L → ys.length ≤ i → J.stop i H
  yld : ∀ i H x H' d, Sub B H → Lks B H L → J.yld i H x H' → ys[i]? = some d → Yl K B H x H' d
def wI (X : Cx) (tg iter : Expr) : TI := fun σ H R => ∃ wi, PI X tg iter wi ∧ wi σ H R
theorem pi_w (tg iter : Expr) : PI X tg iter (wI X tg iter) := ⟨fun pins s σ H R I ⟨_, h, q⟩ => h.run pins s σ H R I q⟩
def DI (X : Cx) (tg iter : Expr) (Δ : List Sk) (ys : List D) (Δ' : List Sk) : Prop := ∀ B H F σ, At X.K B H F Δ σ → ∀ R : It → Hp → Prop,
  (∀ J L B' H' F', Stp B H F B' H' F' → At X.K B' H' F' Δ' σ → (∀ B'', Same B' B'' → ItD X.K J B'' ys L) → Lks B' H' L → R J H') → wI X tg iter σ H R
def DIat (X : Cx) (tg iter : Expr) (Δ : List Sk) (ys : List D) (Δ' : List Sk) (B H : Hp) (F : List Addr) (σ : L2.St) : Prop := ∀ R : It → Hp → Prop,
  (∀ J L B' H' F', Stp B H F B' H' F' → At X.K B' H' F' Δ' σ → (∀ B'', Same B' B'' → ItD X.K J B'' ys L) → Lks B' H' L → R J H') → wI X tg iter σ H R
theorem lks_nil : Lks B H [] := fun _ m => by cases m
theorem di_list (h : DV X iter Δ (.lst ys) Δ1) : DI X tg iter Δ ys Δ1 := fun B H F σ a R q => ⟨_, pi_list (pe_w iter), h.run a fun v B1 H1 F1 s1 r1 a1 => by
  cases r1 with
  | @lst l vs _ e1 r1 =>
    refine ⟨l, rfl, ⟨vs, SqL.of (a1.sub.lst e1)⟩, q _ [] B1 H1 F1 s1 a1 (fun B'' sm => ⟨fun i H sb _ lt => ?_, fun i H sb _ le => ?_, fun i H x H' d sb _ y e => ?_⟩) lks_nil⟩
    · have : i < vs.length := by rw [r1.length]; exact lt
      exact ⟨vs, vs[i], SqL.of (sb.lst (sm _ _ e1)), by simp [this]⟩
    · exact ⟨vs, SqL.of (sb.lst (sm _ _ e1)), by rw [r1.length]; exact le⟩
    · obtain ⟨rfl, y⟩ := y
      have := y vs (SqL.of (sb.lst (sm _ _ e1)))
      obtain ⟨v, h1, h2⟩ := r1.get e
      rw [h1] at this
      cases this
      exact .inl ⟨rfl, h2.mono sm⟩⟩
theorem di_tup (h : DV X iter Δ (.tup ys) Δ1) : DI X tg iter Δ ys Δ1 := fun B H F σ a R q => ⟨_, pi_tup (pe_w iter), h.run a fun v B1 H1 F1 s1 r1 a1 => by
  cases r1 with
  | @tup l vs _ e1 r1 =>
    refine ⟨l, rfl, ⟨vs, SqT.of (a1.sub.tup e1)⟩, q _ [] B1 H1 F1 s1 a1 (fun B'' sm => ⟨fun i H sb _ lt => ?_, fun i H sb _ le => ?_, fun i H x H' d sb _ y e => ?_⟩) lks_nil⟩
    · have : i < vs.length := by rw [r1.length]; exact lt
      exact ⟨vs, vs[i], SqT.of (sb.tup (sm _ _ e1)), by simp [this]⟩
    · exact ⟨vs, SqT.of (sb.tup (sm _ _ e1)), by rw [r1.length]; exact le⟩
    · obtain ⟨rfl, y⟩ := y
      have := y vs (SqT.of (sb.tup (sm _ _ e1)))
      obtain ⟨v, h1, h2⟩ := r1.get e
      rw [h1] at this
      cases this
      exact .inl ⟨rfl, h2.mono sm⟩⟩
/-- lo, lo + 1, .. -/
def rngD (lo : Int) (n : Nat) : List D := (List.range n).map fun i => D.int (lo + (i : Nat))
theorem rngD_length (lo : Int) (n : Nat) : (rngD lo n).length = n := by simp [rngD]
theorem rngD_get {lo : Int} {n i : Nat} {d : D} (h : (rngD lo n)[i]? = some d) : i < n ∧ d = .int (lo + i) := by
  have lt : i < n := by
    have := (List.getElem?_eq_some_iff.mp h).1
    rwa [rngD_length] at this
  refine ⟨lt, ?_⟩
  unfold rngD at h
  rw [List.getElem?_map, List.getElem?_range lt] at h
  exact (Option.some.inj h).symm
theorem itD_rng (lo : Int) (n : Nat) : ItD K (Itr lo n) B (rngD lo n) [] := ⟨fun i H _ _ lt => by rw [rngD_length] at lt; exact lt, fun i H _ _ le => by rw [rngD_length] at le; exact le, fun i H x H' d _ _ y e => by
  obtain ⟨rfl, rfl⟩ := y
  obtain ⟨_, rfl⟩ := rngD_get e
  exact .inl ⟨rfl, .int _⟩⟩
theorem di_rng1 {j : Int} (hm : X.mg "range" = none) (h : DA X [a] Δ [.int j] Δ1) (h1 : -(2 ^ 62) ≤ j) (h2 : j < 2 ^ 62) (hg : Gl X "range" := by rfl) (hs : starEach [a] X.env = [(false, eval a X.env)] := by rfl) : DI X tg (.Call (.Name "range" p) [a] [] pos) Δ (rngD 0 j.toNat) Δ1 := fun B H F σ a' R q =>
  ⟨_, pi_range1 hg hm (pa_w _) hs, h B H F σ a' _ fun vs B1 H1 F1 s1 r1 a1 => by
    obtain ⟨v, rfl, r⟩ := r1.one'
    cases r
    exact ⟨j, rfl, h1, h2, q _ [] B1 H1 F1 s1 a1 (fun _ _ => itD_rng 0 j.toNat) lks_nil⟩⟩
theorem di_rng2 {i j : Int} (hm : X.mg "range" = none) (h : DA X [a, b] Δ [.int i, .int j] Δ1) (hb : -(2 ^ 62) ≤ i ∧ i < 2 ^ 62 ∧ -(2 ^ 62) ≤ j ∧ j < 2 ^ 62) (hg : Gl X "range" := by rfl) (hs : starEach [a, b] X.env = [(false, eval a X.env), (false, eval b X.env)] := by rfl)
    (hs2 : starEach [b] X.env = [(false, eval b X.env)] := by rfl) : DI X tg (.Call (.Name "range" p) [a, b] [] pos) Δ (rngD i (j - i).toNat) Δ1 := fun B H F σ a' R q =>
  ⟨_, pi_range2 hg hm (pa_w _) hs hs2, h B H F σ a' _ fun vs B1 H1 F1 s1 r1 a1 => by
    obtain ⟨v, w, rfl, r, r'⟩ := r1.two'
    cases r; cases r'
    exact ⟨i, j, rfl, hb, q _ [] B1 H1 F1 s1 a1 (fun _ _ => itD_rng i _) lks_nil⟩⟩
end
end DL
set_option Elab.async false
set_option linter.all false
set_option maxRecDepth 100000
/-! DL5: for, comprehensions, defs -/
namespace DL
open PySem PySem.Spec PyProof.Rows L2
variable {X : Cx} {K : PySem.W.Frag} {B B' H H' : Hp}
section
variable {e a b c tg iter elt : Expr} {es ifs elts : List Expr} {st : Stmt} {sts sts' : List Stmt} {Δ Δ' Δ1 Δ2 Δ3 : List Sk} {d d1 d2 d3 : D} {ds ys : List D} {pos p apos cpos tpos : Pos} {x : Str} {r : Sk} {k k1 k2 : Bool}

theorem Lks.keep {F F' : List Addr} {L : List (Addr × HO)} (l : Lks B H L) (s : Stp B H F B' H' F') (out : ∀ a ∈ F, B a = none) : Lks B' H' L := fun q m => by
  obtain ⟨h1, h2⟩ := l q m
  refine ⟨s.keep _ _ h1 fun mf => h2 (out _ mf), fun z => ?_⟩
  cases e : B q.1 with
  | none => exact h2 e
  | some o => rw [s.sub _ _ e] at z; cases z
/-- the state behind a turn's yield -/
theorem At.yl {F : List Addr} {Δ : List Sk} {σ : L2.St} {x : V} (a : At K B H F Δ σ) (y : Yl K B H x H' d) : ∃ B', Stp B H F B' H' F ∧ At K B' H' F Δ σ ∧ Dn K B' x d := by
  rcases y with ⟨rfl, r⟩ | ⟨T, xs, ds, rfl, hT, rfl, r, rfl⟩
  · exact ⟨B, .refl, a, r⟩
  · obtain ⟨s, a'⟩ := a.laid (o := .tup xs) hT
    exact ⟨_, s, a', .tup upd_same (r.mono s.sub)⟩
theorem for_at {P : Pst} {ys : List D} {F : List Addr} {σ : L2.St} {D : Ends} (I : Nat → List Sk → Prop) (a : At X.K B H F Δ σ) (mm : Meets X.K B H F P D) (hi : DIat X tg iter Δ ys Δ1 B H F σ) (h0 : I 0 Δ1) (hp : PassesOwn (model X.prog X.w) X.A X.env X.xe) (hc : X.calm = true)
    (ht : ∀ i d Δi, ys[i]? = some d → I i Δi → ∃ Δi' js, DG X tg d Δi Δi' js ∧ DSs X sts Δi' { P with nx := I (i + 1), ct := I (i + 1), bk := P.nx }) (hd : ∀ Δn, I ys.length Δn → P.nx Δn)
    (hs : ∀ x, foldedSetIterable iter X.env x = pure x := by intro _; rfl) : wS X (.For tg iter sts [] pos) D σ H :=
  ⟨_, ps_for hp hc (pi_w tg iter) (pg_w tg) (pss_w sts) hs, hi _ fun J L B1 H1 F1 s1 a1 it lk => by
    refine ⟨fun i m σ' H' => m = ys.length - i ∧ i ≤ ys.length ∧ ∃ Δi B' F', I i Δi ∧ Stp B1 H1 F1 B' H' F' ∧ At X.K B' H' F' Δi σ', ⟨_, rfl, Nat.zero_le _, Δ1, B1, F1, h0, .refl, a1⟩, ?_⟩
    rintro i m σ' H' ⟨rfl, hle, Δi, B', F', hI, s2, a2⟩
    have it' := it B' s2.sub
    have lk' := lk.keep s2 a1.out
    by_cases hlt : i < ys.length
    · refine .inr ⟨it'.go i H' a2.sub lk' hlt, fun σ'' H'' => ∃ Δi B' F', I (i + 1) Δi ∧ Stp B1 H1 F1 B' H'' F' ∧ At X.K B' H'' F' Δi σ'', fun σ'' H'' q => ⟨ys.length - (i + 1), by omega, rfl, hlt, q⟩, fun x H'' y => ?_⟩
      obtain ⟨Δi', js, g, body⟩ := ht i ys[i] Δi (List.getElem?_eq_getElem hlt) hI
      obtain ⟨B3, s3, a3, r3⟩ := a2.yl (it'.yld i H' x H'' _ a2.sub lk' y (List.getElem?_eq_getElem hlt))
      refine g B3 H'' F' σ' x a3 r3 _ fun B4 H4 F4 σ4 _ s4 a4 => ?_
      have s5 := (s2.trans s3).trans s4
      refine body B4 H4 F4 σ4 a4 _ ⟨?_, (mm.step (s1.trans s5)).rt, (mm.step (s1.trans s5)).nx, ?_⟩
      · exact fun Δ'' σ'' B6 H6 F6 q s6 a6 => ⟨Δ'', B6, F6, q, s5.trans s6, a6⟩
      · exact fun Δ'' σ'' B6 H6 F6 q s6 a6 => ⟨Δ'', B6, F6, q, s5.trans s6, a6⟩
    · have e : i = ys.length := by omega
      subst e
      exact .inl ⟨it'.stop _ H' a2.sub lk' (Nat.le_refl _), mm.nx Δi σ' B' H' F' (hd Δi hI) (s1.trans s2) a2⟩⟩
theorem ds_for {P : Pst} {ys : List D} (I : Nat → List Sk → Prop) (hi : DI X tg iter Δ ys Δ1) (h0 : I 0 Δ1) (hp : PassesOwn (model X.prog X.w) X.A X.env X.xe) (hc : X.calm = true)
    (ht : ∀ i d Δi, ys[i]? = some d → I i Δi → ∃ Δi' js, DG X tg d Δi Δi' js ∧ DSs X sts Δi' { P with nx := I (i + 1), ct := I (i + 1), bk := P.nx }) (hd : ∀ Δn, I ys.length Δn → P.nx Δn)
    (hs : ∀ x, foldedSetIterable iter X.env x = pure x := by intro _; rfl) : DS X (.For tg iter sts [] pos) Δ P := fun B H F σ a D mm => for_at I a mm (hi B H F σ a) h0 hp hc ht hd hs
theorem di_enum (hm : X.mg "enumerate" = none) (h : DA X [e] Δ [.lst ds] Δ1) (hg : Gl X "enumerate" := by rfl) (hs : starEach [e] X.env = [(false, eval e X.env)] := by rfl) :
    DI X (.Tuple elts kk tpos) (.Call (.Name "enumerate" p) [e] [] pos) Δ (ds.mapIdx fun i d => D.tup [.int (i : Nat), d]) Δ1 := fun B H F σ a' R q =>
  ⟨_, pi_enum hg hm (pa_w _) hs, h B H F σ a' _ fun vs B1 H1 F1 s1 r1 a1 => by
    obtain ⟨v, rfl, r⟩ := r1.one'
    cases r with
    | @lst l vs _ e1 r1 =>
      refine ⟨l, vs, rfl, SqL.of (a1.sub.lst e1), q _ [] B1 H1 F1 s1 a1 (fun B'' sm => ⟨fun i H sb _ lt => ?_, fun i H sb _ le => ?_, fun i H x H' d sb _ y e => ?_⟩) lks_nil⟩
      · rw [List.length_mapIdx] at lt
        have : i < vs.length := by rw [r1.length]; exact lt
        exact ⟨vs, vs[i], SqL.of (sb.lst (sm _ _ e1)), by simp [this]⟩
      · rw [List.length_mapIdx] at le
        exact ⟨vs, SqL.of (sb.lst (sm _ _ e1)), by rw [r1.length]; exact le⟩
      · obtain ⟨T, z, rfl, hT, rfl, y⟩ := y
        have := y vs (SqL.of (sb.lst (sm _ _ e1)))
        rw [List.getElem?_mapIdx] at e
        obtain ⟨d', h1, h2⟩ := r1.get' this
        rw [h1] at e
        cases e
        exact .inr ⟨T, _, _, rfl, hT, rfl, .cons (.int _) (.one (h2.mono sm)), rfl⟩⟩
theorem di_zip {es' : List D} {e2 : Expr} (hm : X.mg "zip" = none) (h : DA X [e, e2] Δ [.lst ds, .lst es'] Δ1) (hg : Gl X "zip" := by rfl)
    (hs : starEach [e, e2] X.env = (false, eval e X.env) :: starEach [e2] X.env := by rfl) (hpl : (backTo pos (starEach [e2] X.env)).any (·.1) = false := by rfl) :
    DI X (.Tuple elts kk tpos) (.Call (.Name "zip" p) [e, e2] [] pos) Δ ((ds.zip es').map fun q => D.tup [q.1, q.2]) Δ1 := fun B H F σ a' R q =>
  ⟨_, pi_zip hg hm (pa_w _) hs hpl, h B H F σ a' _ fun vs B1 H1 F1 s1 r1 a1 => by
    obtain ⟨v, w, rfl, r, r'⟩ := r1.two'
    cases r with
    | @lst l vs _ e1 q1 =>
      cases r' with
      | @lst l' vs' _ e1' q1' =>
        have L1 := q1.length
        have L2 := q1'.length
        refine ⟨l, l', vs, vs', rfl, SqL.of (a1.sub.lst e1), SqL.of (a1.sub.lst e1'), q _ [] B1 H1 F1 s1 a1 (fun B'' sm => ⟨fun i H sb _ lt => ?_, fun i H sb _ le => ?_, fun i H x H' d sb _ y e => ?_⟩) lks_nil⟩
        · rw [List.length_map, List.length_zip] at lt
          have t1 : i < vs.length := by omega
          have t2 : i < vs'.length := by omega
          exact ⟨vs, vs', vs[i], vs'[i], SqL.of (sb.lst (sm _ _ e1)), SqL.of (sb.lst (sm _ _ e1')), by simp [t1], by simp [t2]⟩
        · rw [List.length_map, List.length_zip] at le
          exact ⟨vs, vs', SqL.of (sb.lst (sm _ _ e1)), SqL.of (sb.lst (sm _ _ e1')), by omega⟩
        · obtain ⟨T, z, z', rfl, hT, rfl, y1, y2⟩ := y
          have y1 := y1 vs (SqL.of (sb.lst (sm _ _ e1)))
          have y2 := y2 vs' (SqL.of (sb.lst (sm _ _ e1')))
          obtain ⟨d1, h1, g1⟩ := q1.get' y1
          obtain ⟨d2, h2, g2⟩ := q1'.get' y2
          have ez : (ds.zip es')[i]? = some (d1, d2) := List.getElem?_zip_eq_some.mpr ⟨h1, h2⟩
          rw [List.getElem?_map, ez] at e
          cases e
          exact .inr ⟨T, _, _, rfl, hT, rfl, .cons (g1.mono sm) (.one (g2.mono sm)), rfl⟩⟩
theorem di_str {z : Str} (h : DV X iter Δ (.str z) Δ1) : DI X tg iter Δ (z.cps.toList.map fun c => D.str ⟨#[c]⟩) Δ1 := fun B H F σ a R q => ⟨_, pi_str (pe_w iter), h.run a fun v B1 H1 F1 s1 r1 a1 => by
  cases r1
  refine ⟨z, rfl, q _ [] B1 H1 F1 s1 a1 (fun B'' sm => ⟨fun i H sb _ lt => ?_, fun i H sb _ le => ?_, fun i H x H' d sb _ y e => ?_⟩) lks_nil⟩
  · show i < z.cps.size
    simpa using lt
  · show z.cps.size ≤ i
    simpa using le
  · obtain ⟨rfl, c, h1, rfl⟩ := y
    rw [List.getElem?_map, Array.getElem?_toList, h1] at e
    cases e
    exact .inl ⟨rfl, .str _⟩⟩

/-! ### comprehensions -/
def hide (Δ : List Sk) : List Nat → List Sk
  | [] => Δ
  | v :: vs => (hide Δ vs).set v .un
theorem At.hide {F : List Addr} {Δ : List Sk} {σ : L2.St} (h : At K B H F Δ σ) : ∀ vs : List Nat, ∃ F', At K B H F' (hide Δ vs) (wipe σ vs) ∧ ∀ a ∈ F', a ∈ F
  | [] => ⟨F, h, fun _ m => m⟩
  | v :: vs => by
    obtain ⟨F1, a1, m1⟩ := At.hide h vs
    obtain ⟨F2, s2, m2⟩ := a1.sl.set_un (i := v) none
    exact ⟨F2, ⟨a1.sub, s2, a1.nd.sublist m2, fun a m => a1.out a (m2.subset m)⟩, fun a m => m1 a (m2.subset m)⟩
theorem wipe_ext {σ σ' : L2.St} (hl : σ.length = σ'.length) : ∀ {vs : List Nat}, (∀ j, j ∉ vs → σ[j]? = σ'[j]?) → wipe σ vs = wipe σ' vs := fun {vs} h => by
  have key : ∀ (σ : L2.St) (vs : List Nat) (j : Nat), (wipe σ vs)[j]? = if j ∈ vs then (if j < σ.length then some none else none) else σ[j]? := by
    intro σ vs
    induction vs with
    | nil => intro j; simp [wipe]
    | cons v vs ih =>
      intro j
      unfold wipe
      rw [List.getElem?_set, wipe_length, ih j]
      by_cases e : v = j
      · subst e; simp
      · have e' : j ≠ v := fun z => e z.symm
        simp [e, e']
  apply List.ext_getElem?
  intro j
  rw [key, key, hl]
  split
  · rfl
  · rename_i hn; exact h j hn
/-- slots that are forgotten may hold anything -/
theorem Sl.un_all {Δ : List Sk} {σ : L2.St} {F : List Addr} (h : Sl K B H Δ σ F) {σ' : L2.St} (hl : σ'.length = σ.length) (hv : ∀ j : Nat, Δ[j]? ≠ some .un → σ'[j]? = σ[j]?) : Sl K B H Δ σ' F := by
  induction h generalizing σ' with
  | nil =>
    cases σ' with
    | nil => exact .nil
    | cons _ _ => simp at hl
  | un o s ih =>
    cases σ' with
    | nil => simp at hl
    | cons o' σ' => exact .un o' (ih (by simpa using hl) fun j hj => by simpa using hv (j + 1) (by simpa using hj))
  | im d s ih =>
    cases σ' with
    | nil => simp at hl
    | cons o' σ' =>
      have e := hv 0 (by simp)
      simp at e
      subst e
      exact .im d (ih (by simpa using hl) fun j hj => by simpa using hv (j + 1) (by simpa using hj))
  | ow ok p r s ih =>
    cases σ' with
    | nil => simp at hl
    | cons o' σ' =>
      have e := hv 0 (by simp)
      simp at e
      subst e
      exact .ow ok p r (ih (by simpa using hl) fun j hj => by simpa using hv (j + 1) (by simpa using hj))
theorem hide_un {vs : List Nat} {j : Nat} (h : j ∈ vs) : (hide Δ vs)[j]? = some .un ∨ (hide Δ vs)[j]? = none := by
  induction vs with
  | nil => cases h
  | cons v vs ih =>
    unfold hide
    rw [List.getElem?_set]
    by_cases e : v = j
    · subst e; simp; omega
    · rw [if_neg e]
      rcases List.mem_cons.mp h with z | z
      · exact absurd z.symm e
      · exact ih z
theorem hide_length (vs : List Nat) : (hide Δ vs).length = Δ.length := by
  induction vs with
  | nil => rfl
  | cons v vs ih => unfold hide; rw [List.length_set, ih]
theorem wipe_get {σ : L2.St} {vs : List Nat} {j : Nat} (h : j ∉ vs) : (wipe σ vs)[j]? = σ[j]? := by
  induction vs with
  | nil => rfl
  | cons v vs ih =>
    unfold wipe
    rw [List.getElem?_set_ne (fun e => h (by simp [e]))]
    exact ih fun m => h (List.mem_cons_of_mem _ m)
def DTs (X : Cx) (ifs : List Expr) (Δ : List Sk) (b : Bool) (Δ' : List Sk) : Prop := ∀ B H F σ, At X.K B H F Δ σ → ∀ Q : Bool → Hp → Prop,
  (∀ B' H' F', Stp B H F B' H' F' → At X.K B' H' F' Δ' σ → Q b H') → ∃ t, PTs X ifs t ∧ t σ H Q
theorem dts_nil : DTs X [] Δ true Δ := fun B H F σ a Q q => ⟨_, pts_nil, q B H F .refl a⟩
theorem dts_one (h : DT X c Δ k Δ1) : DTs X [c] Δ k Δ1 := fun B H F σ a Q q => ⟨_, pts_one (pt_w c), h B H F σ a Q q⟩
/-- what stands in front stays while the rest goes on -/
theorem At.under {F : List Addr} {h : Sk} {o : Option V} {Δ Δ2 : List Sk} {τ τ2 : L2.St} {G F0 F2 : List Addr} (a : At K B H F (h :: Δ) (o :: τ)) (e : F = G ++ F0) (sh : Sl K B H [h] [o] G) (s : Stp B H F0 B' H' F2) (a2 : At K B' H' F2 Δ2 τ2) :
    At K B' H' (G ++ F2) (h :: Δ2) (o :: τ2) ∧ Stp B H F B' H' (G ++ F2) := by
  subst e
  have nd := List.nodup_append.mp a.nd
  obtain ⟨j1, j2, j3, j4⟩ := At.join sh nd.1 (fun b m => a.out b (List.mem_append_left _ m)) (fun b m m2 => nd.2.2 b m b m2 rfl) s a2
  refine ⟨⟨a2.sub, j1.append a2.sl, (List.perm_append_comm).nodup_iff.mpr j4, fun b m => ?_⟩, ?_⟩
  · rcases List.mem_append.mp m with m | m
    · exact j3 b m
    · exact a2.out b m
  · refine ⟨s.sub, fun b u q n => s.keep b u q fun m => n (List.mem_append_right _ m), fun b m => ?_, fun b m => ?_, s.all⟩
    · rcases List.mem_append.mp m with m | m
      · exact .inl (List.mem_append_left _ m)
      · rcases s.newF b m with z | z
        · exact .inl (List.mem_append_right _ z)
        · exact .inr z
    · rcases s.newB b m with z | z | z
      · exact .inl z
      · exact .inr (.inl (List.mem_append_right _ z))
      · exact .inr (.inr z)
theorem At.heads {F : List Addr} {oa : Option V} {R : ResT} {Δ : List Sk} {v : V} {σ : L2.St} (h : At K B H F (.ow oa R :: Δ) (some v :: σ)) : ∃ G F0, F = G ++ F0 ∧ Sl K B H [.ow oa R] [some v] G ∧ At K B H F0 Δ σ := by
  obtain ⟨s, sl, nd, out⟩ := h
  obtain ⟨G, F0, e, s1, s2⟩ := sl.head_any
  subst e
  exact ⟨G, F0, rfl, s1, s, s2, (List.nodup_append.mp nd).2.1, fun a m => out a (List.mem_append_right _ m)⟩
/-- a comprehension: as a value, and behind `name =` on its line -/
structure PLc (X : Cx) (e : Expr) (t : TE) : Prop where
  pe : PE X e t
  ps : ∀ i y py spos, X.N[i]? = some y → X.env.scope.names.lookup y = some .local → swapsWith e (some (.Name y py)) (Pos.line spos) X.env = pure true → PS X (.Assign [.Name y py] e spos) (tAsg t (gName i))
def wL (X : Cx) (e : Expr) : TE := fun σ H Q => ∃ t, PLc X e t ∧ t σ H Q
theorem plc_w (e : Expr) : PLc X e (wL X e) := ⟨⟨fun pins s σ H Q I h => by
    obtain ⟨t, p, q⟩ := h
    exact p.pe.run pins s σ H Q I q⟩, fun i y py spos h1 h2 h3 => ⟨fun pins s σ H D I h => by
    obtain ⟨t, p, q⟩ := (show wL X e σ H _ from h)
    exact (p.ps i y py spos h1 h2 h3).run pins s σ H D I q⟩⟩
theorem wL.we {e : Expr} {σ : L2.St} {Q : VK} (h : wL X e σ H Q) : wE X e σ H Q := by
  obtain ⟨t, p, q⟩ := h
  exact ⟨t, p.pe, q⟩
theorem PLc.lock {e : Expr} {t : TE} (h : PLc X e t) : PLc X e (tLockE t) := ⟨pe_lock h.pe, fun i y py spos h1 h2 h3 => ⟨fun pins s σ H D I q => (ps_lock (h.ps i y py spos h1 h2 h3)).run pins s σ H D I q⟩⟩
def DLc (X : Cx) (e : Expr) (Δ : List Sk) (ds : List D) (Δ' : List Sk) : Prop := ∀ B H F σ, At X.K B H F Δ σ → ∀ Q : VK,
  (∀ v B' H' F', Stp B H F B' H' F' → At X.K B' H' F' (.ow none (rLst ds) :: Δ') (some v :: σ) → Q v H') → wL X e σ H Q
theorem DLc.de {e : Expr} {ds : List D} (h : DLc X e Δ ds Δ1) : DE X e Δ (.ow none (rLst ds)) Δ1 := fun B H F σ a Q q => (h B H F σ a Q q).we
theorem ds_setLc {P : Pst} {e : Expr} {ds : List D} {x : Str} (i : Nat) {pos pos' : Pos} (h : DLc X e Δ ds Δ1) (q : P.nx (Δ1.set i (.ow none (rLst ds)))) (hi : X.N[i]? = some x) (hx : X.env.scope.names.lookup x = some .local) (hs : swapsWith e (some (.Name x pos')) (Pos.line pos) X.env = pure true) : DS X (.Assign [.Name x pos'] e pos) Δ P := fun B H F σ a D m => by
  obtain ⟨t, p, r⟩ := h B H F σ a (fun v H' => D.nx (σ.set i (some v)) H') fun v B' H' F' s a' => by
    obtain ⟨F2, a2, mm⟩ := a'.store i
    exact m.nx _ _ B' H' F2 q (s.less mm) a2
  exact ⟨_, p.ps i x pos' pos hi hx hs, r⟩
theorem ds_setLcF {P : Pst} {e : Expr} {ds : List D} {x : Str} (i : Nat) {pos pos' : Pos} (h : DLc X e Δ ds Δ1) (q : P.nx (Δ1.set i (.im (.lst ds)))) (hi : X.N[i]? = some x) (hx : X.env.scope.names.lookup x = some .local) (hs : swapsWith e (some (.Name x pos')) (Pos.line pos) X.env = pure true) : DS X (.Assign [.Name x pos'] e pos) Δ P := fun B H F σ a D m => by
  obtain ⟨t, p, r⟩ := h B H F σ a (fun v H' => D.nx (σ.set i (some v)) H') fun v B' H' F' s a' => by
    obtain ⟨v', B2, F2, e2, s2, r2, a2⟩ := a'.freeze (i := 0) rfl frz_lst
    cases e2
    obtain ⟨F3, a3, mm⟩ := At.store (r := .im (.lst ds)) i a2
    exact m.nx _ _ B2 H' F3 q ((s.trans s2).less mm) a3
  exact ⟨_, p.ps i x pos' pos hi hx hs, r⟩
theorem lc_at {scope : Scope} {own : List (Str × Nat)} {acc : List D} {F : List Addr} {σ : L2.St} {Q : VK} (I : Nat → List D → List Sk → Prop) (a : At X.K B H F Δ σ) (q : ∀ v B' H' F', Stp B H F B' H' F' → At X.K B' H' F' (.ow none (rLst acc) :: Δ2) (some v :: σ) → Q v H') (hi : DIat X tg iter Δ ys Δ1 B H F σ) (h0 : I 0 [] (hide Δ1 (own.map (·.2)))) (hc : X.calm = true) (hN : X.N.Nodup) (ok : BlkOk X.N X.env.scope scope own)
    (ht : ∀ i d acc Δi, ys[i]? = some d → I i acc Δi → ∃ Δa js b Δb, (∀ s H C cl fp, DG (X.blk s H scope (compEnvC scope cl C X.env) fp) tg d Δi Δa js) ∧ (∀ j ∈ js, j ∈ own.map (·.2)) ∧
      (∀ s H C cl fp, DTs (X.blk s H scope (compEnvC scope cl C X.env) fp) ifs Δa b Δb) ∧
      (b = true → ∃ de Δc, (∀ s H C cl fp, DV (X.blk s H scope (compEnvC scope cl C X.env) fp) elt Δb de Δc) ∧ I (i + 1) (acc ++ [de]) (hide Δc (own.map (·.2)))) ∧ (b = false → I (i + 1) acc (hide Δb (own.map (·.2)))))
    (hd : ∀ acc' Δn, I ys.length acc' Δn → acc' = acc ∧ Δn = Δ2) (hlen : ys.length ≤ 100000) (hΔ : ∀ j ∈ own.map (·.2), Δ2[j]? = some .un ∨ Δ2[j]? = none)
    (hs : ∀ x, foldedSetIterable iter X.env x = pure x := by intro _; rfl) : wL X (.ListComp elt [⟨tg, iter, ifs, 0⟩] scope pos) σ H Q := by
  let vs := own.map (·.2)
  let g : TG := fun v σ H Q => ∀ s H0 C cl fp, wG (X.blk s H0 scope (compEnvC scope cl C X.env) fp) tg v σ H Q
  let tt : TT := fun σ H Q => ∀ s H0 C cl fp, ∃ t, PTs (X.blk s H0 scope (compEnvC scope cl C X.env) fp) ifs t ∧ t σ H Q
  let te : TE := fun σ H Q => ∀ s H0 C cl fp, wE (X.blk s H0 scope (compEnvC scope cl C X.env) fp) elt σ H Q
  have hg : ∀ s H0 C cl fp, PG (X.blk s H0 scope (compEnvC scope cl C X.env) fp) tg g := fun s H0 C cl fp => ⟨fun pins s' σ H v u Q I r h => (pg_w tg).run pins s' σ H v u Q I r (h s H0 C cl fp)⟩
  have htt : ∀ s H0 C cl fp, PTs (X.blk s H0 scope (compEnvC scope cl C X.env) fp) ifs tt := fun s H0 C cl fp => ⟨fun pins s' σ H Q I h => by
    obtain ⟨t, h1, h2⟩ := h s H0 C cl fp
    exact h1.run pins s' σ H Q I h2⟩
  have hte : ∀ s H0 C cl fp, PE (X.blk s H0 scope (compEnvC scope cl C X.env) fp) elt te := fun s H0 C cl fp => ⟨fun pins s' σ H Q I h => (pe_w elt).run pins s' σ H Q I (h s H0 C cl fp)⟩
  refine ⟨_, ⟨pe_lc hc hN (pi_w tg iter) ok hg htt hte hs, fun i y py spos h1 h2 h3 => ps_setLc hc hN h1 h2 h3 (pi_w tg iter) ok hg htt hte hs⟩, hi _ fun J L B1 H1 F1 s1 a1 it lk D hD => ?_⟩
  obtain ⟨Fh, ah, mh⟩ := a1.hide vs
  obtain ⟨s0, a0⟩ := ah.made (o := .lst []) (R := rLst []) hD rLst_ok ⟨D, [], rfl, rfl, upd_same, .nil⟩
  have s0' : Stp B1 H1 F1 B1 (upd H1 D (.lst [])) ([D] ++ Fh) := ((Stp.refl (F := F1)).less mh).trans s0
  have lk0 : Lks B1 (upd H1 D (.lst [])) L := lk.keep s0' a1.out
  refine ⟨fun i m H' => m = ys.length - i ∧ i ≤ ys.length ∧ ∃ acc Δi B' F', I i acc Δi ∧ acc.length ≤ i ∧ Stp B1 (upd H1 D (.lst [])) ([D] ++ Fh) B' H' F' ∧ At X.K B' H' F' (.ow none (rLst acc) :: Δi) (some (.ref D) :: wipe σ vs), ⟨_, rfl, Nat.zero_le _, [], _, B1, _, h0, Nat.zero_le _, .refl, a0⟩, ?_⟩
  rintro i m H' ⟨rfl, hle, acc', Δi, B', F', hI, hal, s2, a2⟩
  have it' := it B' s2.sub
  have lk' : Lks B' H' L := lk0.keep s2 a0.out
  by_cases hlt : i < ys.length
  · refine .inr ⟨it'.go i H' a2.sub lk' hlt, fun H'' => ∃ acc Δi B' F', I (i + 1) acc Δi ∧ acc.length ≤ i + 1 ∧ Stp B1 (upd H1 D (.lst [])) ([D] ++ Fh) B' H'' F' ∧ At X.K B' H'' F' (.ow none (rLst acc) :: Δi) (some (.ref D) :: wipe σ vs), fun H'' w => ⟨ys.length - (i + 1), by omega, rfl, hlt, w⟩, fun x H'' y => ?_⟩
    obtain ⟨Δa, js, b, Δb, g1, g2, g3, g4, g5⟩ := ht i ys[i] acc' Δi (List.getElem?_eq_getElem hlt) hI
    obtain ⟨B3, s3, a3, r3⟩ := a2.yl (it'.yld i H' x H'' _ a2.sub lk' y (List.getElem?_eq_getElem hlt))
    obtain ⟨G, F0, eF, sh, at0⟩ := a3.heads
    have hG : G = [D] := by
      obtain ⟨G', F0', e', ok', _, rr, sl'⟩ := sh.heads
      cases sl'
      rw [List.append_nil] at e'
      rw [e']
      exact rLst_foot rr
    subst hG
    -- the target
    intro s H0 C cl fp
    refine g1 s H0 C cl fp B3 H'' F0 _ x at0 r3 _ fun B4 H4 F4 σ4 b4 s4 a4 => ?_
    have e4 : wipe σ4 vs = wipe σ vs := by
      refine wipe_ext (b4.1.trans (wipe_length σ vs)) fun j hj => ?_
      rw [b4.2 j fun m => hj (g2 j m)]
      exact wipe_get hj
    refine ⟨e4, fun s H0 C cl fp => g3 s H0 C cl fp B4 H4 F4 σ4 a4 _ fun B5 H5 F5 s5 a5 => ?_⟩
    cases b with
    | true =>
      refine iteT ?_
      obtain ⟨de, Δc, k1, k2⟩ := g4 rfl
      intro s H0 C cl fp
      refine (k1 s H0 C cl fp).run a5 fun w B6 H6 F6 s6 r6 a6 => ?_
      have s46 := (s4.trans s5).trans s6
      obtain ⟨a7, s7⟩ := At.under a3 eF sh s46 a6
      obtain ⟨p7, vs7, e7, h7, d7⟩ := a7.lst (i := 0) rfl
      have ep : p7 = D := by
        have : some (some (V.ref D)) = some (some (V.ref p7)) := e7
        cases this; rfl
      subst ep
      refine ⟨vs7, h7, by rw [d7.length]; exact Nat.lt_of_le_of_lt (Nat.le_trans hal (by omega)) (Nat.lt_of_lt_of_le (show ys.length < 100001 by omega) (by decide)), ?_⟩
      obtain ⟨s8, a8⟩ := a7.write (i := 0) (o := .lst (vs7 ++ [w])) (R' := rLst (acc' ++ [de])) rfl rfl (fun G => rLst_foot) rLst_ok ⟨p7, _, rfl, rfl, upd_same, d7.append (.one r6)⟩
      obtain ⟨G9, F9, e9, sh9, at9⟩ := (show At X.K B6 (upd H6 p7 (.lst (vs7 ++ [w]))) _ (.ow none (rLst (acc' ++ [de])) :: Δc) (some (.ref p7) :: σ4) from a8).heads
      obtain ⟨F10, a10, m10⟩ := at9.hide vs
      rw [e4] at a10
      obtain ⟨a11, s11⟩ := At.under a8 e9 sh9 ((Stp.refl).less m10) a10
      exact ⟨_, _, B6, _, k2, by simp; omega, (((s2.trans s3).trans s7).trans s8).trans s11, a11⟩
    | false =>
      refine iteF ?_
      have s45 := s4.trans s5
      obtain ⟨F10, a10, m10⟩ := a5.hide vs
      rw [e4] at a10
      obtain ⟨a11, s11⟩ := At.under a3 eF sh (s45.less m10) a10
      exact ⟨acc', _, B5, _, g5 rfl, by omega, (s2.trans s3).trans s11, a11⟩
  · have e : i = ys.length := by omega
    subst e
    refine .inl ⟨it'.stop _ H' a2.sub lk' (Nat.le_refl _), ?_⟩
    obtain ⟨rfl, rfl⟩ := hd acc' Δi hI
    refine q (.ref D) B' H' F' ((s1.trans s0').trans s2) ⟨a2.sub, a2.sl.un_all (by simp [wipe_length]) (fun j hj => ?_), a2.nd, a2.out⟩
    cases j with
    | zero => rfl
    | succ j =>
      have hj' : Δi[j]? ≠ some .un := by simpa using hj
      show σ[j]? = (wipe σ vs)[j]?
      by_cases hm : j ∈ vs
      · rcases hΔ j hm with z | z
        · exact absurd z hj'
        · have hl := a2.sl.length
          have h1 : Δi.length ≤ j := List.getElem?_eq_none_iff.mp z
          have h2 : (wipe σ vs).length = Δi.length := by simpa using hl
          rw [wipe_length] at h2
          rw [List.getElem?_eq_none (by omega), List.getElem?_eq_none (by rw [wipe_length]; omega)]
      · exact (wipe_get hm).symm
/-- [elt for tg in iter if ..]: I says of the list so far and the state; the block's own slots are forgotten -/
theorem dl_lc {scope : Scope} {own : List (Str × Nat)} {acc : List D} (I : Nat → List D → List Sk → Prop) (hi : DI X tg iter Δ ys Δ1) (h0 : I 0 [] (hide Δ1 (own.map (·.2)))) (hc : X.calm = true) (hN : X.N.Nodup) (ok : BlkOk X.N X.env.scope scope own)
    (ht : ∀ i d acc Δi, ys[i]? = some d → I i acc Δi → ∃ Δa js b Δb, (∀ s H C cl fp, DG (X.blk s H scope (compEnvC scope cl C X.env) fp) tg d Δi Δa js) ∧ (∀ j ∈ js, j ∈ own.map (·.2)) ∧
      (∀ s H C cl fp, DTs (X.blk s H scope (compEnvC scope cl C X.env) fp) ifs Δa b Δb) ∧
      (b = true → ∃ de Δc, (∀ s H C cl fp, DV (X.blk s H scope (compEnvC scope cl C X.env) fp) elt Δb de Δc) ∧ I (i + 1) (acc ++ [de]) (hide Δc (own.map (·.2)))) ∧ (b = false → I (i + 1) acc (hide Δb (own.map (·.2)))))
    (hd : ∀ acc' Δn, I ys.length acc' Δn → acc' = acc ∧ Δn = Δ2) (hlen : ys.length ≤ 100000) (hΔ : ∀ j ∈ own.map (·.2), Δ2[j]? = some .un ∨ Δ2[j]? = none)
    (hs : ∀ x, foldedSetIterable iter X.env x = pure x := by intro _; rfl) : DLc X (.ListComp elt [⟨tg, iter, ifs, 0⟩] scope pos) Δ acc Δ2 := fun B H F σ a Q q => lc_at I a q (hi B H F σ a) h0 hc hN ok ht hd hlen hΔ hs
end

/-! ### defs -/
section
variable {P : Program} {w : World} {mg : Str → Option Value} {base : Heap} {x qual : Str} {st : Stmt} {f : Addr} {fd : FuncData} {N ps : List Str} {lv : Nat}
/-- the context of a def's body from which no exception comes -/
abbrev FX (P : Program) (w : World) (K : PySem.W.Frag) (mg : Str → Option Value) (base : Heap) (N : List Str) (qual : Str) (sc : Scope) (f : Addr) (cdv : Value) (A : Around) (outer : List Env) (s : Shared) (H : Hp) (E : XK) : Cx := (cxOf CX0 P w K mg base N qual sc f cdv A outer s H E).nox
def uns (n : Nat) : List Sk := List.replicate n .un
theorem sl_args : ∀ {vs : List V} {ds : List D}, DnA K B vs ds → ∀ n, Sl K B H (ds.map Sk.im ++ uns n) (vs.map some ++ List.replicate n none) []
  | _, _, .nil, 0 => .nil
  | _, _, .nil, n + 1 => .un none (sl_args .nil n)
  | _, _, .cons r t, n => .im r (sl_args t n)
theorem fn0 {pre : List D → Sk → Prop} (F : Fun K x qual st f fd) (S : FnScope N ps (defScope st))
    (hb : ∀ cdv A outer s H E, Room lv (A.deeper (envOfC qual (defScope st) s.heap.objs.size f cdv)) → ∀ ds r, pre ds r → ds.length = ps.length →
      DSs (FX P w K mg base N qual (defScope st) f cdv A outer s H E) (defBody st) (ds.map Sk.im ++ uns (N.length - ps.length)) { nx := fun _ => r = .im .non, rt := fun r' _ => r' = r }) : FnOk P w K mg base CX0 (lv + 1) f fd ps (Sp0 K ps.length pre) := by
  refine F.ok S (fun vs H Q E h => h.1) (fun cdv A outer s H vs Q E hr h => ?_)
  obtain ⟨hl, B, ds, r, hp, sub, rv, q⟩ := h
  refine ⟨_, pss_w _, ?_⟩
  have hd : ds.length = ps.length := by rw [← rv.length, hl]
  refine hb cdv A outer s H E hr ds r hp hd B H [] _ ⟨sub, ?_, List.nodup_nil, fun _ m => by cases m⟩ _ ⟨?_, ?_, fun _ _ _ _ _ q => q.elim, fun _ _ _ _ _ q => q.elim⟩
  · show Sl K B H _ (vs.map some ++ List.replicate (N.length - vs.length) none) []
    rw [hl]
    exact sl_args rv _
  · rintro Δ' σ' B' H' F' rfl s' a'
    exact q .non B' H' [] (s'.less fun _ m => by cases m) ⟨a'.sub, .im .non .nil, List.nodup_nil, fun _ m => by cases m⟩
  · rintro r' Δ' v σ' B' H' F' rfl s' a'
    obtain ⟨G, F0, e, s1, s2⟩ := a'.sl.head_any
    subst e
    exact q v B' H' G (s'.less fun a m => List.mem_append_left _ m) ⟨a'.sub, s1, (List.nodup_append.mp a'.nd).1, fun a m => a'.out a (List.mem_append_left _ m)⟩
theorem fn1 {pre : ResT → List D → Sk → ResT → Prop} (F : Fun K x qual st f fd) (S : FnScope N ps (defScope st))
    (hb : ∀ cdv A outer s H E, Room lv (A.deeper (envOfC qual (defScope st) s.heap.objs.size f cdv)) → ∀ R ds r R' v0, pre R ds r R' → ds.length + 1 = ps.length →
      DSs (FX P w K mg base N qual (defScope st) f cdv A outer s H E) (defBody st) (.ow (some v0) R :: ds.map Sk.im ++ uns (N.length - ps.length)) { nx := fun Δ' => r = .im .non ∧ Δ'[0]? = some (.ow (some v0) R'), rt := fun r' Δ' => r' = r ∧ Δ'[0]? = some (.ow (some v0) R') }) :
    FnOk P w K mg base CX0 (lv + 1) f fd ps (Sp1 K ps.length pre) := by
  refine F.ok S (fun vs H Q E h => h.1) (fun cdv A outer s H vs Q E hr h => ?_)
  obtain ⟨hl, B, F0, v0, vs', R, ds, r, R', rfl, hp, a0, rv, q⟩ := h
  refine ⟨_, pss_w _, ?_⟩
  have hd : ds.length + 1 = ps.length := by rw [← rv.length, ← hl]; rfl
  obtain ⟨G, F1, e, ok, _, rr, sl0⟩ := a0.sl.heads
  cases sl0
  rw [List.append_nil] at e
  subst e
  have fin : ∀ {r' : Sk} {Δ' : List Sk} {v : V} {σ' : L2.St} {B' H' : Hp} {F' : List Addr}, Δ'[0]? = some (.ow (some v0) R') → Stp B H F0 B' H' F' → At K B' H' F' (r' :: Δ') (some v :: σ') →
      ∃ F'', Stp B H F0 B' H' F'' ∧ At K B' H' F'' [r', .ow none R'] [some v, some v0] := by
    intro r' Δ' v σ' B' H' F' h0 s' a'
    obtain ⟨G, F2, e, s1, s2⟩ := a'.sl.head_any
    cases Δ' with
    | nil => cases h0
    | cons y Δ' =>
      simp at h0
      subst h0
      cases s2 with
      | @ow _ _ F3 v1 _ _ G1 ok1 p1 r1 s3 =>
        have ev := p1 v0 rfl
        subst ev
        subst e
        have mem : ∀ a ∈ G ++ (G1 ++ []), a ∈ G ++ (G1 ++ F3) := fun a m => by
          rw [List.append_nil] at m
          rcases List.mem_append.mp m with m | m
          · exact List.mem_append_left _ m
          · exact List.mem_append_right _ (List.mem_append_left _ m)
        refine ⟨G ++ (G1 ++ []), s'.less mem, a'.sub, s1.append (.ow ok1 nofun r1 .nil), ?_, fun a m => a'.out a (mem a m)⟩
        refine a'.nd.sublist (List.Sublist.append (List.Sublist.refl _) (List.Sublist.append (List.Sublist.refl _) (List.nil_sublist _)))
  refine hb cdv A outer s H E hr R ds r R' v0 hp hd B H F0 _ ⟨a0.sub, ?_, a0.nd, a0.out⟩ _ ⟨?_, ?_, fun _ _ _ _ _ q => q.elim, fun _ _ _ _ _ q => q.elim⟩
  · show Sl K B H _ (some v0 :: vs'.map some ++ List.replicate (N.length - (v0 :: vs').length) none) F0
    rw [hl]
    have := Sl.ow (oa := some v0) ok (fun u e => by cases e; rfl) rr (sl_args (H := H) rv (N.length - ps.length))
    rwa [List.append_nil] at this
  · rintro Δ' σ' B' H' F' ⟨rfl, h0⟩ s' a'
    obtain ⟨F'', s2, a2⟩ := fin (r' := .im .non) (v := .non) h0 s' (.mk_im .non a')
    exact q .non B' H' F'' s2 a2
  · rintro r' Δ' v σ' B' H' F' ⟨rfl, h0⟩ s' a'
    obtain ⟨F'', s2, a2⟩ := fin h0 s' a'
    exact q v B' H' F'' s2 a2
end
end DL
set_option Elab.async false
set_option linter.all false
set_option maxRecDepth 100000
/-! DL6: peeking, dicts, slices, locked walks -/
namespace DL
open PySem PySem.Spec PyProof.Rows L2
inductive Fz : List Sk → List Sk → Prop
  | nil : Fz [] []
  | un {L M : List Sk} : Fz L M → Fz (.un :: L) (.un :: M)
  | im {L M : List Sk} {d : D} : Fz L M → Fz (.im d :: L) (.im d :: M)
  | ow {L M : List Sk} {oa : Option V} {R : ResT} {d : D} : Frz R d → Fz L M → Fz (.ow oa R :: L) (.im d :: M)
  | dr {L M : List Sk} {y : Sk} : Fz L M → Fz (y :: L) (.un :: M)
variable {X : Cx} {K : PySem.W.Frag} {B B' H H' : Hp}
section
variable {e a b c tg iter elt : Expr} {es ifs elts : List Expr} {st : Stmt} {sts sts' : List Stmt} {Δ Δ' Δ1 Δ2 Δ3 : List Sk} {d d1 d2 d3 : D} {ds ys : List D} {pos p apos cpos tpos : Pos} {x : Str} {r : Sk} {k k1 k2 : Bool} {i j : Int}

theorem bd_fdiv (h : 0 < j ∧ j < 2 ^ 64) : BinD X .FloorDiv (.int i) (.int j) (.int (i / j)) := ⟨_, op_fdivW, rop_I (wide_div (b := 64) h.1 (by omega) (by decide) (by decide)) fun _ => .int _⟩
theorem bd_addS {z w : Str} (h : z.length + w.length ≤ 100000) : BinD X .Add (.str z) (.str w) (.str (z ++ w)) := ⟨_, op_add_str, fun B H v1 v2 Q s h1 h2 q => by
  cases h1; cases h2
  exact ⟨_, _, rfl, rfl, Nat.le_trans h (by decide), q _ (.str _)⟩⟩

/-! ### if as a value, the data told by the test -/
theorem de_ifE (hc : DT X c Δ k Δ1) (h1 : k = true → DV X a Δ1 d1 Δ2) (h2 : k = false → DV X b Δ1 d2 Δ2) : DV X (.IfExp c a b pos) Δ (if k = true then d1 else d2) Δ2 := by
  cases k with
  | true => exact de_ifT hc (h1 rfl)
  | false => exact de_ifF hc (h2 rfl)

/-! ### peeking: all that is owned taken as values for a moment -/
def D.flat : D → Bool
  | .non => true
  | .bl _ => true
  | .int _ => true
  | .str _ => true
  | .raw _ => true
  | _ => false
theorem Dn.flat {v : V} {d : D} (h : Dn K B v d) (f : d.flat = true) : Dn K B' v d := by
  cases h <;> first | (cases f; done) | constructor
theorem Sl.fz {Δ Δ' : List Sk} (z : Fz Δ Δ') : ∀ {σ : L2.St} {F : List Addr} {B : Hp}, Sl K B H Δ σ F → F.Nodup → (∀ a ∈ F, B a = none) → Sub B H →
    ∃ B', Same B B' ∧ (∀ a, B' a ≠ none → B a ≠ none ∨ a ∈ F) ∧ Sub B' H ∧ Sl K B' H Δ' σ [] := by
  induction z with
  | nil => intro σ F B h nd out s; cases h; exact ⟨B, Same.refl _, fun a m => .inl m, s, .nil⟩
  | un z ih =>
    intro σ F B h nd out s
    cases h with
    | un o h =>
      obtain ⟨B', h1, h2, h3, h4⟩ := ih h nd out s
      exact ⟨B', h1, h2, h3, .un o h4⟩
  | im z ih =>
    intro σ F B h nd out s
    cases h with
    | im r h =>
      obtain ⟨B', h1, h2, h3, h4⟩ := ih h nd out s
      exact ⟨B', h1, h2, h3, .im (r.mono h1) h4⟩
  | ow f z ih =>
    intro σ F B h nd out s
    cases h with
    | @ow _ _ F0 v _ _ G ok pp r h =>
      have nd' := List.nodup_append.mp nd
      obtain ⟨B1, q1, q2, q3, q4⟩ := f _ _ _ _ _ r fun a m => out a (List.mem_append_left _ m)
      have s1 : Sub B1 H := fun a o m => by
        rcases q3 a o m with m | m
        · exact s a o m
        · exact .inl m
      have out1 : ∀ a ∈ F0, B1 a = none := fun a m => by
        cases e : B1 a with
        | none => rfl
        | some o =>
          rcases q2 a (by rw [e]; exact nofun) with w | w
          · exact absurd (out a (List.mem_append_right _ m)) w
          · exact absurd rfl (nd'.2.2 a w a m)
      obtain ⟨B', h1, h2, h3, h4⟩ := ih (h.frame q1 fun a _ o q => q) nd'.2.1 out1 s1
      refine ⟨B', q1.trans h1, fun a m => ?_, h3, .im (q4.mono h1) h4⟩
      rcases h2 a m with w | w
      · rcases q2 a w with w | w
        · exact .inl w
        · exact .inr (List.mem_append_left _ w)
      · exact .inr (List.mem_append_right _ w)
  | dr z ih =>
    intro σ F B h nd out s
    cases h with
    | un o h =>
      obtain ⟨B', h1, h2, h3, h4⟩ := ih h nd out s
      exact ⟨B', h1, h2, h3, .un o h4⟩
    | im r h =>
      obtain ⟨B', h1, h2, h3, h4⟩ := ih h nd out s
      exact ⟨B', h1, h2, h3, .un _ h4⟩
    | @ow _ _ F0 v _ _ G ok pp r h =>
      have nd' := List.nodup_append.mp nd
      obtain ⟨B', h1, h2, h3, h4⟩ := ih h nd'.2.1 (fun a m => out a (List.mem_append_right _ m)) s
      refine ⟨B', h1, fun a m => ?_, h3, .un _ h4⟩
      rcases h2 a m with w | w
      · exact .inl w
      · exact .inr (List.mem_append_right _ w)
theorem At.fz {F : List Addr} {Δ Δ1 : List Sk} {σ : L2.St} (h : At K B H F Δ σ) (z : Fz Δ Δ1) : ∃ B1, Same B B1 ∧ (∀ a, B1 a ≠ none → B a ≠ none ∨ a ∈ F) ∧ At K B1 H [] Δ1 σ := by
  obtain ⟨B', h1, h2, h3, h4⟩ := Sl.fz z h.sl h.nd h.out h.sub
  exact ⟨B', h1, h2, h3, h4, List.nodup_nil, fun _ m => by cases m⟩
theorem At.unfz {F F' : List Addr} {Δ Δ1 : List Sk} {σ : L2.St} {B1 B2 : Hp} (h : At K B H F Δ σ) (h1 : At K B1 H [] Δ1 σ) (s : Stp B1 H [] B2 H' F') : Stp B H F B H' F ∧ At K B H' F Δ σ := by
  have kp : ∀ a o, H a = some o → H' a = some o := fun a o q => s.keep a o q (by simp)
  refine ⟨⟨Same.refl _, fun a o q _ => kp a o q, fun a m => .inl m, fun a m => .inl m, s.all⟩, fun a o q => ?_, h.sl.frame (Same.refl _) fun a _ o q => kp a o q, h.nd, h.out⟩
  rcases h.sub a o q with z | ⟨m, ob, z⟩
  · exact .inl (kp _ _ z)
  · exact .inr ⟨m, ob, kp _ _ z⟩
theorem de_peek {Δ1 Δ2 : List Sk} (z : Fz Δ Δ1) (h : DV X e Δ1 d Δ2) (f : d.flat = true) : DV X e Δ d Δ := DE.of fun B H F σ a Q q => by
  obtain ⟨B1, h1, h2, a1⟩ := a.fz z
  refine h.run a1 fun v B2 H2 F2 s2 r2 a2 => ?_
  obtain ⟨s3, a3⟩ := a.unfz a1 s2
  exact q v B H2 F s3 (r2.flat f) a3
theorem dt_peek {Δ1 Δ2 : List Sk} (z : Fz Δ Δ1) (h : DT X e Δ1 k Δ2) : DT X e Δ k Δ := fun B H F σ a Q q => by
  obtain ⟨B1, h1, h2, a1⟩ := a.fz z
  refine h B1 H [] σ a1 _ fun B2 H2 F2 s2 a2 => ?_
  obtain ⟨s3, a3⟩ := a.unfz a1 s2
  exact q B H2 F s3 a3

/-! ### dicts -/
section
variable {κ : Type} [DecidableEq κ]
def valD (es : List (κ × D)) (k : κ) : Option D := (es.find? fun q => decide (q.1 = k)).map (·.2)
def putD (es : List (κ × D)) (k : κ) (d : D) : List (κ × D) := if (es.any fun q => decide (q.1 = k)) = true then es.map (fun q => if q.1 = k then (q.1, d) else q) else es ++ [(k, d)]
end
def kD : Key → D
  | .inl i => .int i
  | .inr x => .str x
theorem Dn.key {v : V} {k : Key} (h : Dn K B v (kD k)) : v = kV k := by
  cases k <;> (cases h; rfl)
theorem Dn.of_key (k : Key) : Dn K B (kV k) (kD k) := by
  cases k with
  | inl i => exact .int i
  | inr x => exact .str x
theorem DnA.keys : ∀ {ks : List Key} {vs : List V}, DnA K B vs (ks.map kD) → vs = ks.map kV
  | [], _, .nil => rfl
  | k :: ks, _, .cons h t => by rw [List.map_cons, h.key, DnA.keys t]
theorem DnK.val {kvs : List (Key × V)} {es : List (Key × D)} (h : DnK K B kvs es) (k : Key) : (valD es k = none ∧ valV kvs k = none) ∨ ∃ d v, valD es k = some d ∧ valV kvs k = some v ∧ Dn K B v d := by
  induction es generalizing kvs with
  | nil => cases h; exact .inl ⟨rfl, rfl⟩
  | cons q es ih =>
    cases h with
    | @cons k' v vs d ds h t =>
      by_cases e : k' = k
      · exact .inr ⟨d, v, by simp [valD, List.find?_cons, e], by simp [valV, List.find?_cons, e], h⟩
      · have e1 : valD ((k', d) :: es) k = valD es k := by simp [valD, List.find?_cons, e]
        have e2 : valV ((k', v) :: vs) k = valV vs k := by simp [valV, List.find?_cons, e]
        rw [e1, e2]
        exact ih t
theorem DnT.val {kvs : List (List Key × V)} {es : List (List Key × D)} (h : DnT K B kvs es) (k : List Key) : (valD es k = none ∧ valV kvs k = none) ∨ ∃ d v, valD es k = some d ∧ valV kvs k = some v ∧ Dn K B v d := by
  induction es generalizing kvs with
  | nil => cases h; exact .inl ⟨rfl, rfl⟩
  | cons q es ih =>
    cases h with
    | @cons k' v vs d ds h t =>
      by_cases e : k' = k
      · exact .inr ⟨d, v, by simp [valD, List.find?_cons, e], by simp [valV, List.find?_cons, e], h⟩
      · have e1 : valD ((k', d) :: es) k = valD es k := by simp [valD, List.find?_cons, e]
        have e2 : valV ((k', v) :: vs) k = valV vs k := by simp [valV, List.find?_cons, e]
        rw [e1, e2]
        exact ih t
theorem DnK.some {kvs : List (Key × V)} {es : List (Key × D)} {k : Key} (h : DnK K B kvs es) (e : valD es k = some d) : ∃ v, valV kvs k = some v ∧ Dn K B v d := by
  rcases h.val k with ⟨h1, _⟩ | ⟨d', v, h1, h2, h3⟩
  · rw [h1] at e; cases e
  · rw [h1] at e; cases e; exact ⟨v, h2, h3⟩
theorem DnT.some {kvs : List (List Key × V)} {es : List (List Key × D)} {k : List Key} (h : DnT K B kvs es) (e : valD es k = some d) : ∃ v, valV kvs k = some v ∧ Dn K B v d := by
  rcases h.val k with ⟨h1, _⟩ | ⟨d', v, h1, h2, h3⟩
  · rw [h1] at e; cases e
  · rw [h1] at e; cases e; exact ⟨v, h2, h3⟩
theorem DnK.isSome {kvs : List (Key × V)} {es : List (Key × D)} (h : DnK K B kvs es) (k : Key) : (valV kvs k).isSome = (valD es k).isSome := by
  rcases h.val k with ⟨h1, h2⟩ | ⟨d', v, h1, h2, h3⟩ <;> rw [h1, h2] <;> rfl
theorem DnT.isSome {kvs : List (List Key × V)} {es : List (List Key × D)} (h : DnT K B kvs es) (k : List Key) : (valV kvs k).isSome = (valD es k).isSome := by
  rcases h.val k with ⟨h1, h2⟩ | ⟨d', v, h1, h2, h3⟩ <;> rw [h1, h2] <;> rfl
theorem DnK.length : ∀ {vs : List (Key × V)} {ds : List (Key × D)}, DnK K B vs ds → vs.length = ds.length
  | _, _, .nil => rfl
  | _, _, .cons _ t => congrArg (· + 1) (DnK.length t)
theorem DnT.length : ∀ {vs : List (List Key × V)} {ds : List (List Key × D)}, DnT K B vs ds → vs.length = ds.length
  | _, _, .nil => rfl
  | _, _, .cons _ t => congrArg (· + 1) (DnT.length t)
theorem DnK.append : ∀ {vs ws : List (Key × V)} {ds es : List (Key × D)}, DnK K B vs ds → DnK K B ws es → DnK K B (vs ++ ws) (ds ++ es)
  | _, _, _, _, .nil, s => s
  | _, _, _, _, .cons r t, s => .cons r (DnK.append t s)
theorem DnT.append : ∀ {vs ws : List (List Key × V)} {ds es : List (List Key × D)}, DnT K B vs ds → DnT K B ws es → DnT K B (vs ++ ws) (ds ++ es)
  | _, _, _, _, .nil, s => s
  | _, _, _, _, .cons r t, s => .cons r (DnT.append t s)
theorem DnK.keysEq : ∀ {vs : List (Key × V)} {ds : List (Key × D)}, DnK K B vs ds → vs.map (·.1) = ds.map (·.1)
  | _, _, .nil => rfl
  | _, _, .cons _ t => congrArg (_ :: ·) (DnK.keysEq t)
theorem DnT.keysEq : ∀ {vs : List (List Key × V)} {ds : List (List Key × D)}, DnT K B vs ds → vs.map (·.1) = ds.map (·.1)
  | _, _, .nil => rfl
  | _, _, .cons _ t => congrArg (_ :: ·) (DnT.keysEq t)
theorem DnK.any : ∀ {vs : List (Key × V)} {ds : List (Key × D)} (k : Key), DnK K B vs ds → (vs.any fun q => decide (q.1 = k)) = (ds.any fun q => decide (q.1 = k))
  | _, _, _, .nil => rfl
  | _, _, k, .cons _ t => by rw [List.any_cons, List.any_cons, DnK.any k t]
theorem DnT.any : ∀ {vs : List (List Key × V)} {ds : List (List Key × D)} (k : List Key), DnT K B vs ds → (vs.any fun q => decide (q.1 = k)) = (ds.any fun q => decide (q.1 = k))
  | _, _, _, .nil => rfl
  | _, _, k, .cons _ t => by rw [List.any_cons, List.any_cons, DnT.any k t]
theorem DnK.over {w : V} {d : D} (r : Dn K B w d) (k : Key) : ∀ {vs : List (Key × V)} {ds : List (Key × D)}, DnK K B vs ds → DnK K B (vs.map fun q => if q.1 = k then (q.1, w) else q) (ds.map fun q => if q.1 = k then (q.1, d) else q)
  | _, _, .nil => .nil
  | _, _, @DnK.cons _ _ k' _ _ _ _ h t => by
    rw [List.map_cons, List.map_cons]
    by_cases e : k' = k
    · rw [if_pos e, if_pos e]; exact .cons r (DnK.over r k t)
    · rw [if_neg e, if_neg e]; exact .cons h (DnK.over r k t)
theorem DnT.over {w : V} {d : D} (r : Dn K B w d) (k : List Key) : ∀ {vs : List (List Key × V)} {ds : List (List Key × D)}, DnT K B vs ds → DnT K B (vs.map fun q => if q.1 = k then (q.1, w) else q) (ds.map fun q => if q.1 = k then (q.1, d) else q)
  | _, _, .nil => .nil
  | _, _, @DnT.cons _ _ k' _ _ _ _ h t => by
    rw [List.map_cons, List.map_cons]
    by_cases e : k' = k
    · rw [if_pos e, if_pos e]; exact .cons r (DnT.over r k t)
    · rw [if_neg e, if_neg e]; exact .cons h (DnT.over r k t)
theorem DnK.put {vs : List (Key × V)} {es : List (Key × D)} {w : V} (k : Key) (r : Dn K B w d) (h : DnK K B vs es) : DnK K B (putK vs k w) (putD es k d) := by
  unfold putK putD
  rw [h.any k]
  by_cases e : (es.any fun q => decide (q.1 = k)) = true
  · rw [if_pos e, if_pos e]; exact h.over r k
  · rw [if_neg e, if_neg e]; exact h.append (.cons r .nil)
theorem DnT.put {vs : List (List Key × V)} {es : List (List Key × D)} {w : V} (k : List Key) (r : Dn K B w d) (h : DnT K B vs es) : DnT K B (putK vs k w) (putD es k d) := by
  unfold putK putD
  rw [h.any k]
  by_cases e : (es.any fun q => decide (q.1 = k)) = true
  · rw [if_pos e, if_pos e]; exact h.over r k
  · rw [if_neg e, if_neg e]; exact h.append (.cons r .nil)
theorem Sub.dk {l : Addr} {kvs : List (Key × V)} (s : Sub B H) (h : B l = Option.some (.dK kvs)) : Rd H l (.dK kvs) := by
  rcases s _ _ h with z | ⟨_, ob, z⟩
  · exact .inl z
  · exact .inr ⟨ob, z⟩
theorem Sub.dt {l : Addr} {kvs : List (List Key × V)} (s : Sub B H) (h : B l = Option.some (.dT kvs)) : Rd H l (.dT kvs) := by
  rcases s _ _ h with z | ⟨_, ob, z⟩
  · exact .inl z
  · exact .inr ⟨ob, z⟩
/-- what a dict tells at a key: two kinds of dicts -/
inductive Look : D → D → Option D → Prop
  | k {es : List (Key × D)} (q : Key) {o : Option D} : valD es q = o → Look (.dk es) (kD q) o
  | t {es : List (List Key × D)} (q : List Key) {o : Option D} : valD es q = o → Look (.dt es) (.tup (q.map kD)) o
theorem Look.ki {es : List (Key × D)} {i : Int} {o : Option D} (h : valD es (.inl i) = o) : Look (.dk es) (.int i) o := .k (.inl i) h
theorem Look.ks {es : List (Key × D)} {z : Str} {o : Option D} (h : valD es (.inr z) = o) : Look (.dk es) (.str z) o := .k (.inr z) h
theorem Look.kp {es : List (List Key × D)} {i j : Int} {o : Option D} (h : valD es [.inl i, .inl j] = o) : Look (.dt es) (.tup [.int i, .int j]) o := .t [.inl i, .inl j] h
theorem Look.get {o : Option D} (l : Look d1 d2 o) {v w : V} (s : Sub B H) (h1 : Dn K B v d1) (h2 : Dn K B w d2) : ∃ a r, v = .ref a ∧ IsD H a ∧ DGet H a w r ∧ ((o = none ∧ r = none) ∨ ∃ d u, o = Option.some d ∧ r = Option.some u ∧ Dn K B u d) := by
  cases l with
  | @k es q o e =>
    subst e
    cases h1 with
    | @dk l kvs _ e1 r1 =>
      refine ⟨l, valV kvs q, rfl, .inl ⟨kvs, s.dk e1⟩, .inl ⟨kvs, q, s.dk e1, h2.key, rfl⟩, ?_⟩
      rcases r1.val q with ⟨z1, z2⟩ | ⟨d', v', z1, z2, z3⟩
      · exact .inl ⟨z1, z2⟩
      · exact .inr ⟨d', v', z1, z2, z3⟩
  | @t es q o e =>
    subst e
    cases h1 with
    | @dt l kvs _ e1 r1 =>
      cases h2 with
      | @tup b xs _ e2 r2 =>
        rw [r2.keys] at e2
        refine ⟨l, valV kvs q, rfl, .inr ⟨kvs, s.dt e1⟩, .inr ⟨kvs, q, b, s.dt e1, rfl, s.tup e2, rfl⟩, ?_⟩
        rcases r1.val q with ⟨z1, z2⟩ | ⟨d', v', z1, z2, z3⟩
        · exact .inl ⟨z1, z2⟩
        · exact .inr ⟨d', v', z1, z2, z3⟩
theorem de_dget (hu : X.A.units + 1 < cLine) (h : DV X a Δ d1 Δ1) (h' : DV X b Δ1 d2 Δ2) (l : Look d1 d2 (Option.some d)) (hs : NoSl b := by exact fun _ _ => rfl) : DV X (.Subscript a b pos) Δ d Δ2 := DE.of fun B H F σ a' Q q =>
  ⟨_, pe_dget hu (pe_w a) (pe_w b) hs, h.run a' fun v1 B1 H1 F1 s1 r1 a1 => h'.run a1 fun v2 B2 H2 F2 s2 r2 a2 => by
    obtain ⟨ad, r, e, _, g, z⟩ := l.get a2.sub (r1.mono s2.sub) r2
    rcases z with ⟨z, _⟩ | ⟨d', u, z, rfl, w⟩
    · cases z
    · cases z
      exact ⟨ad, u, e, g, q u B2 H2 F2 (s1.trans s2) w a2⟩⟩
theorem de_in {o : Option D} (hu : X.A.units + 1 < cLine) (h : DV X a Δ d2 Δ1) (h' : DV X b Δ1 d1 Δ2) (l : Look d1 d2 o) (hm : behindInMarks .In b = false := by rfl) : DV X (.Compare a [.In] [b] pos) Δ (.bl o.isSome) Δ2 := DE.of fun B H F σ a' Q q =>
  ⟨_, pe_cmp (pc_din hu (pe_w a) (pe_w b)) hm, h.run a' fun v1 B1 H1 F1 s1 r1 a1 => h'.run a1 fun v2 B2 H2 F2 s2 r2 a2 => by
    obtain ⟨ad, r, e, _, g, z⟩ := l.get a2.sub r2 (r1.mono s2.sub)
    refine ⟨ad, r, e, g, ?_⟩
    have er : r.isSome = o.isSome := by rcases z with ⟨z1, z2⟩ | ⟨d', u, z1, z2, _⟩ <;> rw [z1, z2] <;> rfl
    rw [er]
    exact q _ B2 H2 F2 (s1.trans s2) (.bl _) a2⟩
theorem de_nin {o : Option D} (hu : X.A.units + 1 < cLine) (h : DV X a Δ d2 Δ1) (h' : DV X b Δ1 d1 Δ2) (l : Look d1 d2 o) (hm : behindInMarks .NotIn b = false := by rfl) : DV X (.Compare a [.NotIn] [b] pos) Δ (.bl (!o.isSome)) Δ2 := DE.of fun B H F σ a' Q q =>
  ⟨_, pe_cmp (pc_dnotin hu (pe_w a) (pe_w b)) hm, h.run a' fun v1 B1 H1 F1 s1 r1 a1 => h'.run a1 fun v2 B2 H2 F2 s2 r2 a2 => by
    obtain ⟨ad, r, e, _, g, z⟩ := l.get a2.sub r2 (r1.mono s2.sub)
    refine ⟨ad, r, e, g, ?_⟩
    have er : r.isSome = o.isSome := by rcases z with ⟨z1, z2⟩ | ⟨d', u, z1, z2, _⟩ <;> rw [z1, z2] <;> rfl
    rw [er]
    exact q _ B2 H2 F2 (s1.trans s2) (.bl _) a2⟩
theorem dt_in {o : Option D} (hu : X.A.units + 1 < cLine) (h : DV X a Δ d2 Δ1) (h' : DV X b Δ1 d1 Δ2) (l : Look d1 d2 o) (hm : behindInMarks .In b = false := by rfl) : DT X (.Compare a [.In] [b] pos) Δ o.isSome Δ2 := fun B H F σ a' Q q =>
  ⟨_, pt_cmp (pc_din hu (pe_w a) (pe_w b)) hm, h.run a' fun v1 B1 H1 F1 s1 r1 a1 => h'.run a1 fun v2 B2 H2 F2 s2 r2 a2 => by
    obtain ⟨ad, r, e, _, g, z⟩ := l.get a2.sub r2 (r1.mono s2.sub)
    refine ⟨ad, r, e, g, ?_⟩
    have er : r.isSome = o.isSome := by rcases z with ⟨z1, z2⟩ | ⟨d', u, z1, z2, _⟩ <;> rw [z1, z2] <;> rfl
    exact ⟨_, by rw [er], q B2 H2 F2 (s1.trans s2) a2⟩⟩
theorem dt_nin {o : Option D} (hu : X.A.units + 1 < cLine) (h : DV X a Δ d2 Δ1) (h' : DV X b Δ1 d1 Δ2) (l : Look d1 d2 o) (hm : behindInMarks .NotIn b = false := by rfl) : DT X (.Compare a [.NotIn] [b] pos) Δ (!o.isSome) Δ2 := fun B H F σ a' Q q =>
  ⟨_, pt_cmp (pc_dnotin hu (pe_w a) (pe_w b)) hm, h.run a' fun v1 B1 H1 F1 s1 r1 a1 => h'.run a1 fun v2 B2 H2 F2 s2 r2 a2 => by
    obtain ⟨ad, r, e, _, g, z⟩ := l.get a2.sub r2 (r1.mono s2.sub)
    refine ⟨ad, r, e, g, ?_⟩
    have er : r.isSome = o.isSome := by rcases z with ⟨z1, z2⟩ | ⟨d', u, z1, z2, _⟩ <;> rw [z1, z2] <;> rfl
    exact ⟨_, by rw [er], q B2 H2 F2 (s1.trans s2) a2⟩⟩
/-- d.get(k, x) -/
theorem de_dget2 {o : Option D} {f : Expr} (hu : X.A.units + 1 < cLine) (h : DV X a Δ d1 Δ1) (h' : DV X b Δ1 d2 Δ2) (h'' : DV X f Δ2 d3 Δ3) (l : Look d1 d2 o) (m : M2 X a "get" apos b f cpos := by exact ⟨rfl, rfl, rfl, rfl⟩) : DV X (.Call (.Attribute a "get" apos) [b, f] [] cpos) Δ (o.getD d3) Δ3 := DE.of fun B H F σ a' Q q =>
  ⟨_, pe_dget2 hu (pe_w a) (pe_w b) (pe_w f) m, h.run a' fun v1 B1 H1 F1 s1 r1 a1 => by
    have isd : ∃ ad, v1 = .ref ad ∧ IsD H1 ad := by
      cases l with
      | k q e => cases r1 with | dk e1 _ => exact ⟨_, rfl, .inl ⟨_, a1.sub.dk e1⟩⟩
      | t q e => cases r1 with | dt e1 _ => exact ⟨_, rfl, .inr ⟨_, a1.sub.dt e1⟩⟩
    obtain ⟨ad0, e0, isd⟩ := isd
    refine ⟨ad0, e0, isd, h'.run a1 fun v2 B2 H2 F2 s2 r2 a2 => h''.run a2 fun v3 B3 H3 F3 s3 r3 a3 => ?_⟩
    obtain ⟨ad, r, e, _, g, z⟩ := l.get a3.sub (r1.mono (s2.sub.trans s3.sub)) (r2.mono s3.sub)
    rw [e0] at e
    cases e
    refine ⟨r, g, ?_⟩
    rcases z with ⟨rfl, rfl⟩ | ⟨d', u, rfl, rfl, w⟩
    · exact q _ B3 H3 F3 ((s1.trans s2).trans s3) r3 a3
    · exact q _ B3 H3 F3 ((s1.trans s2).trans s3) w a3⟩
theorem de_dnew : DE X (.Dict [] [] pos) Δ (.ow none (rDk [])) Δ := fun B H F σ a Q q => ⟨_, pe_dnewK, fun p hp => by
  obtain ⟨s, a'⟩ := a.made (o := .dK []) (R := rDk []) hp rDk_ok ⟨p, [], rfl, rfl, upd_same, .nil⟩
  exact q _ _ _ _ s a'⟩
theorem de_dnewT : DE X (.Dict [] [] pos) Δ (.ow none (rDt [])) Δ := fun B H F σ a Q q => ⟨_, pe_dnewT, fun p hp => by
  obtain ⟨s, a'⟩ := a.made (o := .dT []) (R := rDt []) hp rDt_ok ⟨p, [], rfl, rfl, upd_same, .nil⟩
  exact q _ _ _ _ s a'⟩
theorem At.dk {F : List Addr} {Δ : List Sk} {σ : L2.St} {i : Nat} {oa : Option V} {xs : List (Key × D)} (h : At K B H F Δ σ) (hi : Δ[i]? = Option.some (.ow oa (rDk xs))) : ∃ p vs, σ[i]? = Option.some (Option.some (.ref p)) ∧ H p = Option.some (.dK vs) ∧ DnK K B vs xs := by
  obtain ⟨v, G, F1, F2, e1, e2, ok, pp, ⟨p, vs, rfl, _, e3, e4⟩, _⟩ := h.sl.get_ow hi
  exact ⟨p, vs, e1, e3, e4⟩
theorem At.dt {F : List Addr} {Δ : List Sk} {σ : L2.St} {i : Nat} {oa : Option V} {xs : List (List Key × D)} (h : At K B H F Δ σ) (hi : Δ[i]? = Option.some (.ow oa (rDt xs))) : ∃ p vs, σ[i]? = Option.some (Option.some (.ref p)) ∧ H p = Option.some (.dT vs) ∧ DnT K B vs xs := by
  obtain ⟨v, G, F1, F2, e1, e2, ok, pp, ⟨p, vs, rfl, _, e3, e4⟩, _⟩ := h.sl.get_ow hi
  exact ⟨p, vs, e1, e3, e4⟩
/-- {k: v}, one pair -/
theorem de_disp1 {kq : Key} {kp : Pos} (h : DV X a Δ (kD kq) Δ1) (h' : DV X b Δ1 d Δ2) : DE X (.Dict [Option.some a] [b] pos) Δ (.ow none (rDk [(kq, d)])) Δ2 := fun B H F σ a' Q q => by
  refine ⟨_, pe_disp (pps_cons (pe_w a) (pe_w b) pps_nil) rfl rfl nofun (Nat.le_of_ble_eq_true rfl), fun p hp => ?_⟩
  obtain ⟨s0, a0⟩ := a'.made (o := .dK []) (R := rDk []) hp rDk_ok ⟨p, [], rfl, rfl, upd_same, .nil⟩
  obtain ⟨G, F0, eF, sh, at0⟩ := a0.heads
  refine h.run at0 fun v1 B1 H1 F1 s1 r1 a1 => h'.run a1 fun v2 B2 H2 F2 s2 r2 a2 => ?_
  obtain ⟨a3, s3⟩ := At.under a0 eF sh (s1.trans s2) a2
  obtain ⟨p3, vs3, e3, h3, d3⟩ := a3.dk (i := 0) rfl
  have ep : p3 = p := by
    have : Option.some (Option.some (V.ref p)) = Option.some (Option.some (V.ref p3)) := e3
    cases this; rfl
  subst ep
  cases d3
  refine ⟨h3, [(kq, v2)], ?_, Nat.le_of_ble_eq_true rfl, ?_⟩
  · rw [r1.key]; rfl
  · obtain ⟨s4, a4⟩ := a3.write (i := 0) (o := .dK [(kq, v2)]) (R' := rDk [(kq, d)]) rfl rfl (fun G => rDk_foot) rDk_ok ⟨p3, _, rfl, rfl, upd_same, .cons r2 .nil⟩
    exact q _ _ _ _ ((s0.trans s3).trans s4) a4
theorem de_disp1I (h : DV X a Δ (.int i) Δ1) (h' : DV X b Δ1 d Δ2) : DE X (.Dict [Option.some a] [b] pos) Δ (.ow none (rDk [(.inl i, d)])) Δ2 := de_disp1 (kq := .inl i) (kp := pos) h h'
/-- d[k] = e, a dict of one's own, keys ints or texts -/
theorem ds_dput {P : Pst} {oa : Option V} {xs : List (Key × D)} {kq : Key} (i : Nat) (hu : X.A.units + 1 < cLine) (h : DV X e Δ d Δ1) (h' : DV X b Δ1 (kD kq) Δ2) (hi : Δ2[i]? = Option.some (.ow oa (rDk xs))) (hi1 : Δ1[i]? = Option.some (.ow oa (rDk xs))) (hl : xs.length < 100000)
    (q : P.nx (Δ2.set i (.ow oa (rDk (putD xs kq d))))) (hN : X.N[i]? = Option.some x) (hv : Vis X.env.scope x) (hs : swapsWith e (Option.some (.Subscript (.Name x p) b apos)) pos.line X.env = pure false := by rfl)
    (hd : (x == ("__debug__" : Str)) = false := by decide) (hcd : (x == ("__classdict__" : Str)) = false := by decide) : DS X (.Assign [.Subscript (.Name x p) b apos] e pos) Δ P := fun B H F σ a D mm =>
  ⟨_, ps_dput hu (pe_var hN hv hd hcd) (pe_w b) (pe_w e) hs, h.run a fun v B1 H1 F1 s1 r1 a1 => by
    obtain ⟨l, vs, e0, e1, e4⟩ := a1.dk hi1
    refine ⟨.ref l, e0, h'.run a1 fun w B2 H2 F2 s2 r2 a2 => ?_⟩
    obtain ⟨l', vs', e0', e1', e4'⟩ := a2.dk hi
    rw [e0] at e0'
    cases e0'
    obtain ⟨s3, a3⟩ := a2.write (o := .dK (putK vs' kq v)) (R' := rDk (putD xs kq d)) hi e0 (fun G => rDk_foot) rDk_ok ⟨l, _, rfl, rfl, upd_same, e4'.put kq (r1.mono s2.sub)⟩
    refine ⟨l, _, rfl, .inl ⟨vs', kq, e1', r2.key, by rw [e4'.length]; exact Nat.lt_of_lt_of_le hl (by decide), rfl⟩, mm.nx _ _ _ _ _ q ((s1.trans s2).trans s3) a3⟩⟩
theorem ds_dputI {P : Pst} {oa : Option V} {xs : List (Key × D)} {j : Int} (i : Nat) (hu : X.A.units + 1 < cLine) (h : DV X e Δ d Δ1) (h' : DV X b Δ1 (.int j) Δ2) (hi : Δ2[i]? = Option.some (.ow oa (rDk xs))) (hi1 : Δ1[i]? = Option.some (.ow oa (rDk xs))) (hl : xs.length < 100000)
    (q : P.nx (Δ2.set i (.ow oa (rDk (putD xs (.inl j) d))))) (hN : X.N[i]? = Option.some x) (hv : Vis X.env.scope x) (hs : swapsWith e (Option.some (.Subscript (.Name x p) b apos)) pos.line X.env = pure false := by rfl)
    (hd : (x == ("__debug__" : Str)) = false := by decide) (hcd : (x == ("__classdict__" : Str)) = false := by decide) : DS X (.Assign [.Subscript (.Name x p) b apos] e pos) Δ P := ds_dput (kq := .inl j) i hu h h' hi hi1 hl q hN hv hs hd hcd
theorem ds_dputT {P : Pst} {oa : Option V} {xs : List (List Key × D)} {kq : List Key} (i : Nat) (hu : X.A.units + 1 < cLine) (h : DV X e Δ d Δ1) (h' : DV X b Δ1 (.tup (kq.map kD)) Δ2) (hi : Δ2[i]? = Option.some (.ow oa (rDt xs))) (hi1 : Δ1[i]? = Option.some (.ow oa (rDt xs))) (hl : xs.length < 100000)
    (q : P.nx (Δ2.set i (.ow oa (rDt (putD xs kq d))))) (hN : X.N[i]? = Option.some x) (hv : Vis X.env.scope x) (hs : swapsWith e (Option.some (.Subscript (.Name x p) b apos)) pos.line X.env = pure false := by rfl)
    (hd : (x == ("__debug__" : Str)) = false := by decide) (hcd : (x == ("__classdict__" : Str)) = false := by decide) : DS X (.Assign [.Subscript (.Name x p) b apos] e pos) Δ P := fun B H F σ a D mm =>
  ⟨_, ps_dput hu (pe_var hN hv hd hcd) (pe_w b) (pe_w e) hs, h.run a fun v B1 H1 F1 s1 r1 a1 => by
    obtain ⟨l, vs, e0, e1, e4⟩ := a1.dt hi1
    refine ⟨.ref l, e0, h'.run a1 fun w B2 H2 F2 s2 r2 a2 => ?_⟩
    obtain ⟨l', vs', e0', e1', e4'⟩ := a2.dt hi
    rw [e0] at e0'
    cases e0'
    obtain ⟨s3, a3⟩ := a2.write (o := .dT (putK vs' kq v)) (R' := rDt (putD xs kq d)) hi e0 (fun G => rDt_foot) rDt_ok ⟨l, _, rfl, rfl, upd_same, e4'.put kq (r1.mono s2.sub)⟩
    cases r2 with
    | @tup bb zs _ eb rb =>
      rw [rb.keys] at eb
      exact ⟨l, _, rfl, .inr ⟨vs', kq, bb, e1', rfl, a2.sub.tup eb, by rw [e4'.length]; exact Nat.lt_of_lt_of_le hl (by decide), rfl⟩, mm.nx _ _ _ _ _ q ((s1.trans s2).trans s3) a3⟩⟩

/-! ### slices -/
def cutD (xs : List D) (lo hi : Option Int) : List D := (xs.drop (HT.sIx xs.length 0 lo)).take (HT.sIx xs.length xs.length hi - HT.sIx xs.length 0 lo)
theorem DnA.cut {vs : List V} {xs : List D} (h : DnA K B vs xs) (lo hi : Option Int) : DnA K B (cutV vs lo hi) (cutD xs lo hi) := by
  unfold cutV cutD
  rw [h.length]
  exact (h.drop _).take _
def wO (X : Cx) (e : Option Expr) : TO := fun σ H Q => ∃ t, PO X e t ∧ t σ H Q
theorem po_w (e : Option Expr) : PO X e (wO X e) := ⟨fun pins s σ H Q I ⟨_, h, q⟩ => h.run pins s σ H Q I q⟩
def DO (X : Cx) (e : Option Expr) (Δ : List Sk) (o : Option Int) (Δ' : List Sk) : Prop := ∀ B H F σ, At X.K B H F Δ σ → ∀ Q : Option Int → Hp → Prop, (∀ B' H' F', Stp B H F B' H' F' → At X.K B' H' F' Δ' σ → Q o H') → wO X e σ H Q
theorem do_none : DO X none Δ none Δ := fun B H F σ a Q q => ⟨_, po_none, q B H F .refl a⟩
theorem do_some (h : DV X e Δ (.int i) Δ1) : DO X (Option.some e) Δ (Option.some i) Δ1 := fun B H F σ a Q q => ⟨_, po_some (pe_w e), h.run a fun v B1 H1 F1 s1 r1 a1 => by
  cases r1
  exact ⟨i, rfl, q B1 H1 F1 s1 a1⟩⟩
theorem de_sl {lo hi : Option Expr} {l u : Option Int} {p2 : Pos} {xs : List D} (h : DV X e Δ (.lst xs) Δ1) (hl : DO X lo Δ1 l Δ2) (hu : DO X hi Δ2 u Δ3) : DE X (.Subscript e (.Slice lo hi none p2) pos) Δ (.ow none (rLst (cutD xs l u))) Δ3 := fun B H F σ a Q q =>
  ⟨_, pe_slice sl_list (pe_w e) (po_w lo) (po_w hi), h.run a fun v B1 H1 F1 s1 r1 a1 => hl B1 H1 F1 σ a1 _ fun B2 H2 F2 s2 a2 => hu B2 H2 F2 σ a2 _ fun B3 H3 F3 s3 a3 => by
    cases r1 with
    | @lst l vs _ e1 r1 =>
      have sm := s2.sub.trans s3.sub
      refine ⟨l, vs, rfl, SqL.of (a3.sub.lst (sm _ _ e1)), fun p hp => ?_⟩
      obtain ⟨s4, a4⟩ := a3.made (o := .lst (cutV vs _ _)) (R := rLst (cutD xs _ _)) hp rLst_ok ⟨p, _, rfl, rfl, upd_same, (r1.mono sm).cut _ _⟩
      exact q _ _ _ _ (((s1.trans s2).trans s3).trans s4) a4⟩
theorem de_rev {k0 : Nat} {p1 p2 p3 : Pos} {xs : List D} (h : DV X e Δ (.lst xs) Δ1) : DE X (.Subscript e (.Slice none none (Option.some (.UnaryOp .USub (.Constant (.int 1) k0 p1) p2)) p3) pos) Δ (.ow none (rLst xs.reverse)) Δ1 := fun B H F σ a Q q =>
  ⟨_, pe_revL (pe_w e), h.run a fun v B1 H1 F1 s1 r1 a1 => by
    cases r1 with
    | @lst l vs _ e1 r1 =>
      refine ⟨l, vs, rfl, SqL.of (a1.sub.lst e1), fun p hp => ?_⟩
      obtain ⟨s4, a4⟩ := a1.made (o := .lst vs.reverse) (R := rLst xs.reverse) hp rLst_ok ⟨p, _, rfl, rfl, upd_same, r1.reverse⟩
      exact q _ _ _ _ (s1.trans s4) a4⟩

/-! ### x += e -/
theorem ds_aug {P : Pst} {op : Operator} (n : Nat) (h0 : Δ[n]? = Option.some (.im d1)) (h : DV X e Δ d2 Δ1) (ho : ∃ t, PIp X op t ∧ ROp X.K t d1 d2 d) (q : P.nx (Δ1.set n (.im d))) (hN : X.N.Nodup) (hi : X.N[n]? = Option.some x) (hx : Loc X.env.scope x)
    (hf : X.fn x = true ∨ X.env.scope.names.lookup x = Option.some .local := by first | exact .inl rfl | exact .inr rfl | assumption) : DS X (.AugAssign (.Name x p) op e pos) Δ P := fun B H F σ a D mm => by
  obtain ⟨t, ht, hr⟩ := ho
  obtain ⟨v, e1, r0⟩ := a.sl.get_im h0
  refine ⟨_, ps_aug hN hi hx (pe_w e) ht hf, v, e1, h.run a fun w B1 H1 F1 s1 r1 a1 => hr B1 H1 v w _ a1.sub (r0.mono s1.sub) r1 fun z rz => ?_⟩
  obtain ⟨F2, a2, m2⟩ := (At.mk_im rz a1).store n
  exact mm.nx _ _ B1 H1 F2 q (s1.less m2) a2
theorem ai_add : ∃ t, PIp X .Add t ∧ ROp X.K t (.int i) (.int j) (.int (i + j)) := ⟨_, ip_add, fun B H v1 v2 Q s h1 h2 q => by cases h1; cases h2; exact ⟨i, j, rfl, rfl, q _ (.int _)⟩⟩
end
end DL
set_option Elab.async false
set_option linter.all false
set_option maxRecDepth 100000
/-! DL7: locked walks; comprehensions that leave the state -/
namespace DL
open PySem PySem.Spec PyProof.Rows L2
variable {X : Cx} {K : PySem.W.Frag} {B B' H H' : Hp}
section
variable {e a b c tg iter elt : Expr} {es ifs elts : List Expr} {st : Stmt} {sts sts' : List Stmt} {Δ Δ' Δ1 Δ2 Δ3 : List Sk} {d d1 d2 d3 : D} {ds ys : List D} {pos p apos cpos tpos : Pos} {x : Str} {r : Sk} {k k1 k2 : Bool} {i j : Int}

theorem hide_hide (vs : List Nat) : hide (hide Δ vs) vs = hide Δ vs := by
  have key : ∀ (Δ : List Sk) (vs : List Nat) (j : Nat), (hide Δ vs)[j]? = if j ∈ vs then (if j < Δ.length then some .un else none) else Δ[j]? := by
    intro Δ vs
    induction vs with
    | nil => intro j; simp [hide]
    | cons v vs ih =>
      intro j
      unfold hide
      rw [List.getElem?_set, hide_length, ih j]
      by_cases e : v = j
      · subst e; simp
      · have e' : j ≠ v := fun z => e z.symm
        simp [e, e']
  apply List.ext_getElem?
  intro j
  rw [key, key, hide_length]
  split <;> rfl
theorem DI.cast {zs : List D} (h : DI X tg iter Δ ys Δ1) (e : ys = zs) : DI X tg iter Δ zs Δ1 := e ▸ h
theorem DE.cast {r' : Sk} (h : DE X e Δ r Δ1) (q : r = r') : DE X e Δ r' Δ1 := q ▸ h
theorem DT.cast {k' : Bool} (h : DT X e Δ k Δ1) (q : k = k') : DT X e Δ k' Δ1 := q ▸ h
/-- each item by itself, the state left as it is: those with pr, by g -/
theorem lcM_at {α : Type} (xs : List α) (f : α → D) (pr : α → Bool) (g : α → D) {scope : Scope} {own : List (Str × Nat)} {F : List Addr} {σ : L2.St} {Q : VK} (a : At X.K B H F Δ σ) (q : ∀ v B' H' F', Stp B H F B' H' F' → At X.K B' H' F' (.ow none (rLst ((xs.filter pr).map g)) :: hide Δ1 (own.map (·.2))) (some v :: σ) → Q v H')
    (hi : DIat X tg iter Δ (xs.map f) Δ1 B H F σ) (hc : X.calm = true) (hN : X.N.Nodup) (ok : BlkOk X.N X.env.scope scope own) (hlen : xs.length ≤ 100000)
    (ht : ∀ x, x ∈ xs → ∃ Δa js, (∀ s H C cl fp, DG (X.blk s H scope (compEnvC scope cl C X.env) fp) tg (f x) (hide Δ1 (own.map (·.2))) Δa js) ∧ (∀ j ∈ js, j ∈ own.map (·.2)) ∧ (∀ s H C cl fp, DTs (X.blk s H scope (compEnvC scope cl C X.env) fp) ifs Δa (pr x) Δa) ∧
      (pr x = true → ∀ s H C cl fp, DV (X.blk s H scope (compEnvC scope cl C X.env) fp) elt Δa (g x) Δa) ∧ hide Δa (own.map (·.2)) = hide Δ1 (own.map (·.2)))
    (hs : ∀ x, foldedSetIterable iter X.env x = pure x := by intro _; rfl) : wL X (.ListComp elt [⟨tg, iter, ifs, 0⟩] scope pos) σ H Q := by
  refine lc_at (acc := (xs.filter pr).map g) (Δ2 := hide Δ1 (own.map (·.2))) (fun i acc Δ => Δ = hide Δ1 (own.map (·.2)) ∧ acc = ((xs.take i).filter pr).map g) a q hi ⟨rfl, rfl⟩ hc hN ok (fun i d acc Δi hd hI => ?_) (fun acc' Δn hI => ?_) (by rw [List.length_map]; exact hlen) (fun j m => hide_un m) hs
  · obtain ⟨rfl, rfl⟩ := hI
    rw [List.getElem?_map] at hd
    cases hx : xs[i]? with
    | none => rw [hx] at hd; cases hd
    | some x =>
      rw [hx] at hd
      cases hd
      obtain ⟨Δa, js, h1, h2, h3, h4, h5⟩ := ht x (List.mem_of_getElem? hx)
      have e1 : xs.take (i + 1) = xs.take i ++ [x] := by rw [List.take_add_one, hx]; rfl
      refine ⟨Δa, js, pr x, Δa, h1, h2, h3, fun hp => ⟨g x, Δa, h4 hp, h5, ?_⟩, fun hp => ⟨h5, ?_⟩⟩
      · rw [e1, List.filter_append, List.map_append, List.filter_cons_of_pos (by exact hp)]; rfl
      · rw [e1, List.filter_append, List.map_append, List.filter_cons_of_neg (by rw [hp]; decide), List.filter_nil, List.map_nil, List.append_nil]
  · obtain ⟨rfl, rfl⟩ := hI
    rw [List.length_map, List.take_length]
    exact ⟨rfl, rfl⟩
theorem dl_lcM {α : Type} (xs : List α) (f : α → D) (pr : α → Bool) (g : α → D) {scope : Scope} {own : List (Str × Nat)} (hi : DI X tg iter Δ (xs.map f) Δ1) (hc : X.calm = true) (hN : X.N.Nodup) (ok : BlkOk X.N X.env.scope scope own) (hlen : xs.length ≤ 100000)
    (ht : ∀ x, x ∈ xs → ∃ Δa js, (∀ s H C cl fp, DG (X.blk s H scope (compEnvC scope cl C X.env) fp) tg (f x) (hide Δ1 (own.map (·.2))) Δa js) ∧ (∀ j ∈ js, j ∈ own.map (·.2)) ∧ (∀ s H C cl fp, DTs (X.blk s H scope (compEnvC scope cl C X.env) fp) ifs Δa (pr x) Δa) ∧
      (pr x = true → ∀ s H C cl fp, DV (X.blk s H scope (compEnvC scope cl C X.env) fp) elt Δa (g x) Δa) ∧ hide Δa (own.map (·.2)) = hide Δ1 (own.map (·.2)))
    (hs : ∀ x, foldedSetIterable iter X.env x = pure x := by intro _; rfl) : DLc X (.ListComp elt [⟨tg, iter, ifs, 0⟩] scope pos) Δ ((xs.filter pr).map g) (hide Δ1 (own.map (·.2))) := fun B H F σ a Q q =>
  lcM_at xs f pr g a q (hi B H F σ a) hc hN ok hlen ht hs

/-! ### locks -/
def Lk1 (B H H' : Hp) : Prop := ∃ p od u, B p = some u ∧ isDict u ∧ H p = some u ∧ H' = upd H p (.frz od u)
/-- e is evaluated to one and the same value, a dict being locked or not -/
def DX (X : Cx) (e : Expr) (Δ : List Sk) (d : D) : Prop := ∀ B H F σ, At X.K B H F Δ σ → ∃ v, Dn X.K B v d ∧ ∀ H', (H' = H ∨ Lk1 B H H') → ∀ Q : VK, Q v H' → wE X e σ H' Q
theorem dx_nm (n : Nat) (hi : Δ[n]? = some (.im d)) (hN : X.N[n]? = some x) (hv : Vis X.env.scope x) (hd : (x == ("__debug__" : Str)) = false := by decide) (hcd : (x == ("__classdict__" : Str)) = false := by decide) : DX X (.Name x pos) Δ d := fun B H F σ a => by
  obtain ⟨v, h1, h2⟩ := a.sl.get_im hi
  exact ⟨v, h2, fun H' _ Q q => ⟨_, pe_var hN hv hd hcd, v, h1, q⟩⟩
theorem dx_int {n : Nat} : DX X (.Constant (.int i) n pos) Δ (.int i) := fun B H F σ a => ⟨_, .int i, fun H' _ Q q => ⟨_, pe_int, q⟩⟩
theorem Lk1.lst {l : Addr} {vs : List V} (h : Lk1 B H H') (e : H l = some (.lst vs)) : H' l = some (.lst vs) := by
  obtain ⟨p, od, u, h1, h2, h3, rfl⟩ := h
  have : l ≠ p := fun z => by
    subst z
    rw [h3] at e
    cases e
    exact h2
  rw [upd_ne this]; exact e
theorem dx_ixO (n : Nat) {oa : Option V} {xs : List D} (h : DX X b Δ (.int i)) (hi : Δ[n]? = some (.ow oa (rLst xs))) (e : L2.atI xs i = some d) (hN : X.N[n]? = some x) (hv : Vis X.env.scope x)
    (hs : PlainIx b := by exact fun _ _ => rfl) (hd : (x == ("__debug__" : Str)) = false := by decide) (hcd : (x == ("__classdict__" : Str)) = false := by decide) : DX X (.Subscript (.Name x p) b pos) Δ d := fun B H F σ a => by
  obtain ⟨l, vs, h1, h2, h3⟩ := a.lst hi
  obtain ⟨w, h4, h5⟩ := h B H F σ a
  cases h4
  obtain ⟨v, h6, h7⟩ := h3.atI e
  refine ⟨v, h7, fun H' hh Q q => ⟨_, pe_ix ix_list (pe_var hN hv hd hcd) (pe_w b) hs, .ref l, h1, h5 H' hh _ ⟨l, vs, i, v, rfl, rfl, ?_, h6, q⟩⟩⟩
  rcases hh with rfl | hh
  · exact SqL.of h2
  · exact SqL.of (hh.lst h2)
theorem dx_ix {xs : List D} (h0 : DX X a Δ (.lst xs)) (h : DX X b Δ (.int i)) (e : L2.atI xs i = some d) (hs : PlainIx b := by exact fun _ _ => rfl) : DX X (.Subscript a b pos) Δ d := fun B H F σ at_ => by
  obtain ⟨u, u1, u2⟩ := h0 B H F σ at_
  obtain ⟨w, h4, h5⟩ := h B H F σ at_
  cases h4
  cases u1 with
  | @lst l vs _ e1 r1 =>
    obtain ⟨v, h6, h7⟩ := r1.atI e
    refine ⟨v, h7, fun H' hh Q q => ⟨_, pe_ix ix_list (pe_w a) (pe_w b) hs, u2 H' hh _ (h5 H' hh _ ⟨l, vs, i, v, rfl, rfl, ?_, h6, q⟩)⟩⟩
    rcases hh with rfl | hh
    · exact SqL.of (at_.sub.lst e1)
    · exact SqL.of (hh.lst (at_.sub.lst e1))
theorem At.lock {F : List Addr} {σ : L2.St} {l : Addr} {od : Obj} {u : HO} (a : At K B H F Δ σ) (h1 : B l = some u) (h2 : isDict u) (h3 : H l = some u) : At K B (upd H l (.frz od u)) F Δ σ := by
  have nl : ∀ a' ∈ F, a' ≠ l := fun a' m z => by rw [z] at m; rw [a.out _ m] at h1; cases h1
  refine ⟨fun b o q => ?_, a.sl.frame (Same.refl _) fun b m o q => by rw [upd_ne (nl b m)]; exact q, a.nd, a.out⟩
  by_cases z : b = l
  · subst z
    rw [h1] at q
    cases q
    exact .inr ⟨h2, od, upd_same⟩
  · rw [upd_ne z]; exact a.sub b o q
theorem unlock {F F' : List Addr} {Δ' : List Sk} {σ' : L2.St} {l : Addr} {od : Obj} {u : HO} (h1 : B l = some u) (h2 : isDict u) (h3 : H l = some u) (nl : l ∉ F) (s : Stp B (upd H l (.frz od u)) F B' H' F') (a' : At K B' H' F' Δ' σ') :
    H' l = some (.frz od u) ∧ Stp B H F B' (upd H' l u) F' ∧ At K B' (upd H' l u) F' Δ' σ' := by
  have e0 : H' l = some (.frz od u) := s.keep l _ upd_same nl
  have nl' : ∀ b ∈ F', b ≠ l := fun b m z => by
    subst z
    have := s.sub _ _ h1
    rw [a'.out b m] at this
    cases this
  have back : ∀ b, upd H l (.frz od u) b = none → H b = none := fun b q => by
    by_cases z : b = l
    · subst z; rw [upd_same] at q; cases q
    · rw [upd_ne z] at q; exact q
  refine ⟨e0, ⟨s.sub, fun b o q n => ?_, fun b m => (s.newF b m).imp id (back b), fun b m => (s.newB b m).imp id (·.imp id (back b)), fun b m => ?_⟩, fun b o q => ?_, a'.sl.frame (Same.refl _) fun b m o q => by rw [upd_ne (nl' b m)]; exact q, a'.nd, a'.out⟩
  · by_cases z : b = l
    · subst z; rw [upd_same]; rw [h3] at q; exact q
    · rw [upd_ne z]; exact s.keep b o (by rw [upd_ne z]; exact q) n
  · by_cases z : b = l
    · rw [z, upd_same]; exact nofun
    · rw [upd_ne z]; exact s.all b (by rw [upd_ne z]; exact m)
  · by_cases z : b = l
    · subst z
      rw [s.sub _ _ h1] at q
      rw [upd_same]; exact .inl q
    · rw [upd_ne z]; exact a'.sub b o q
theorem keys_at {kvs : List (Key × V)} {xs : List (Key × D)} {F : List Addr} {σ : L2.St} {l : Addr} {od : Obj} (a : At X.K B H F Δ σ) (h1 : B l = some (.dK kvs)) (h2 : H l = some (.frz od (.dK kvs))) (r : DnK X.K B kvs xs)
    (hw : ∀ Q : VK, Q (.ref l) H → wE X iter σ H Q) : DIat X tg iter Δ (xs.map fun q => kD q.1) Δ B H F σ := fun R q => by
  refine ⟨_, pi_keys (pe_w iter), hw _ ⟨l, od, rfl, .inl ⟨kvs, h2, q _ [(l, .frz od (.dK kvs))] B H F .refl a (fun B'' sm => ⟨fun i H0 sb lk lt => ?_, fun i H0 sb lk le => ?_, fun i H0 x H0' d sb lk y e => ?_⟩) (fun z m => ?_)⟩⟩⟩
  · exact ⟨(lk _ (List.mem_singleton_self _)).1, by rw [r.length]; simpa using lt⟩
  · exact ⟨(lk _ (List.mem_singleton_self _)).1, by rw [r.length]; simpa using le⟩
  · obtain ⟨rfl, kq, v, e1, rfl⟩ := y
    have e2 : (kvs.map (·.1))[i]? = some kq := by rw [List.getElem?_map, e1]; rfl
    rw [r.keysEq, List.getElem?_map] at e2
    rw [List.getElem?_map] at e
    cases e3 : xs[i]? with
    | none => rw [e3] at e; cases e
    | some w =>
      rw [e3] at e e2
      cases e
      cases e2
      exact .inl ⟨rfl, .of_key _⟩
  · rw [List.mem_singleton.mp m]
    exact ⟨h2, by rw [h1]; exact nofun⟩
/-- for k in a dict -/
theorem ds_forK {P : Pst} {xs : List (Key × D)} (I : Nat → List Sk → Prop) (dx : DX X iter Δ (.dk xs)) (h0 : I 0 Δ) (hp : PassesOwn (model X.prog X.w) X.A X.env X.xe) (hc : X.calm = true)
    (ht : ∀ i d Δi, (xs.map fun q => kD q.1)[i]? = some d → I i Δi → ∃ Δi' js, DG X tg d Δi Δi' js ∧ DSs X sts Δi' { P with nx := I (i + 1), ct := I (i + 1), bk := P.nx }) (hd : ∀ Δn, I xs.length Δn → P.nx Δn)
    (hs : ∀ x, foldedSetIterable iter X.env x = pure x := by intro _; rfl) : DS X (.For tg iter sts [] pos) Δ P := fun B H F σ a D mm => by
  obtain ⟨v, h1, h2⟩ := dx B H F σ a
  have hd' : ∀ Δn, I (xs.map fun q => kD q.1).length Δn → P.nx Δn := fun Δn q => hd Δn (by simpa using q)
  cases h1 with
  | @dk l kvs _ e1 r1 =>
    have nl : l ∉ F := fun m => by rw [a.out _ m] at e1; cases e1
    rcases a.sub _ _ e1 with z | ⟨_, ob, z⟩
    · refine ⟨_, ps_lock (ps_w _), l, .dK kvs, z, trivial, fun od => ?_⟩
      refine for_at I (a.lock (od := od) e1 trivial z) ⟨?_, ?_, ?_, ?_⟩ (keys_at (a.lock e1 trivial z) e1 upd_same r1 fun Q q => h2 _ (.inr ⟨l, od, .dK kvs, e1, trivial, z, rfl⟩) Q q) h0 hp hc ht hd' hs
      · intro Δ' σ' B' H' F' q s a'
        obtain ⟨u1, u2, u3⟩ := unlock e1 trivial z nl s a'
        exact ⟨u1, mm.nx Δ' σ' _ _ _ q u2 u3⟩
      · intro r Δ' v σ' B' H' F' q s a'
        obtain ⟨u1, u2, u3⟩ := unlock e1 trivial z nl s a'
        exact ⟨u1, mm.rt r Δ' v σ' _ _ _ q u2 u3⟩
      · intro Δ' σ' B' H' F' q s a'
        obtain ⟨u1, u2, u3⟩ := unlock e1 trivial z nl s a'
        exact ⟨u1, mm.bk Δ' σ' _ _ _ q u2 u3⟩
      · intro Δ' σ' B' H' F' q s a'
        obtain ⟨u1, u2, u3⟩ := unlock e1 trivial z nl s a'
        exact ⟨u1, mm.ct Δ' σ' _ _ _ q u2 u3⟩
    · exact for_at I a mm (keys_at a e1 z r1 fun Q q => h2 _ (.inl rfl) Q q) h0 hp hc ht hd' hs
/-- [.. for k in a dict if ..], each key by itself -/
theorem dl_lcK {xs : List (Key × D)} (pr : Key → Bool) (g : Key → D) {scope : Scope} {own : List (Str × Nat)} (dx : DX X iter Δ (.dk xs)) (hc : X.calm = true) (hN : X.N.Nodup) (ok : BlkOk X.N X.env.scope scope own) (hlen : xs.length ≤ 100000)
    (ht : ∀ x, x ∈ xs.map (·.1) → ∃ Δa js, (∀ s H C cl fp, DG (X.blk s H scope (compEnvC scope cl C X.env) fp) tg (kD x) (hide Δ (own.map (·.2))) Δa js) ∧ (∀ j ∈ js, j ∈ own.map (·.2)) ∧ (∀ s H C cl fp, DTs (X.blk s H scope (compEnvC scope cl C X.env) fp) ifs Δa (pr x) Δa) ∧
      (pr x = true → ∀ s H C cl fp, DV (X.blk s H scope (compEnvC scope cl C X.env) fp) elt Δa (g x) Δa) ∧ hide Δa (own.map (·.2)) = hide Δ (own.map (·.2)))
    (hs : ∀ x, foldedSetIterable iter X.env x = pure x := by intro _; rfl) : DLc X (.ListComp elt [⟨tg, iter, ifs, 0⟩] scope pos) Δ (((xs.map (·.1)).filter pr).map g) (hide Δ (own.map (·.2))) := fun B H F σ a Q q => by
  obtain ⟨v, h1, h2⟩ := dx B H F σ a
  cases h1 with
  | @dk l kvs _ e1 r1 =>
    have nl : l ∉ F := fun m => by rw [a.out _ m] at e1; cases e1
    have ek : (xs.map fun q => kD q.1) = (xs.map (·.1)).map kD := by rw [List.map_map]; rfl
    rcases a.sub _ _ e1 with z | ⟨_, ob, z⟩
    · refine ⟨_, (plc_w _).lock, l, .dK kvs, z, trivial, fun od => ?_⟩
      have ka := keys_at (X := X) (tg := tg) (iter := iter) (a.lock (od := od) e1 trivial z) e1 upd_same r1 fun Q q => h2 _ (.inr ⟨l, od, .dK kvs, e1, trivial, z, rfl⟩) Q q
      rw [ek] at ka
      refine lcM_at (xs.map (·.1)) kD pr g (a.lock (od := od) e1 trivial z) (fun v B' H' F' s a' => ?_) ka hc hN ok (by rw [List.length_map]; exact hlen) ht hs
      obtain ⟨u1, u2, u3⟩ := unlock e1 trivial z nl s a'
      exact ⟨u1, q v _ _ _ u2 u3⟩
    · have ka := keys_at (X := X) (tg := tg) (iter := iter) a e1 z r1 fun Q q => h2 _ (.inl rfl) Q q
      rw [ek] at ka
      exact lcM_at (xs.map (·.1)) kD pr g a q ka hc hN ok (by rw [List.length_map]; exact hlen) ht hs
end
end DL
set_option Elab.async false
set_option linter.all false
set_option maxRecDepth 100000
set_option maxHeartbeats 4000000
/-! DL8: in of lists, methods that change nothing -/
namespace DL
open PySem PySem.Spec PyProof.Rows L2
section
variable {X : Cx} {K : PySem.W.Frag} {B H : Hp} {Δ Δ1 Δ2 Δ3 : List Sk} {d d1 d2 d3 : D} {a b c o e : Expr} {es : List Expr} {pos apos cpos p : Pos} {i j : Int} {ds : List D}
theorem flat_ints (ns : List Int) : (ns.map V.int).all flatV = true := by
  rw [List.all_map, List.all_eq_true]
  intro _ _
  rfl
theorem inV_ints (i : Int) (ns : List Int) : inV (.int i) (ns.map V.int) = decide (i ∈ ns) := by
  unfold inV
  induction ns with
  | nil => rfl
  | cons n ns ih =>
    rw [List.map_cons, List.any_cons, ih]
    by_cases h : n = i
    · subst h
      simp [eqV]
    · have h' : ¬ i = n := fun z => h z.symm
      simp [eqV, h, h']
theorem cd_inI {ns : List Int} : CmpD X .In (.int i) (.lst (ns.map D.int)) (decide (i ∈ ns)) := ⟨_, op_in_seq, fun B H v1 v2 Q s h1 h2 q => by
  cases h1
  cases h2 with
  | lst h t =>
    have e := DnA.ints t
    subst e
    refine ⟨_, _, rfl, .inl (SqL.of (s.lst h)), rfl, flat_ints ns, ?_⟩
    rw [if_neg (by decide), inV_ints]
    exact q _ (.bl _)⟩
theorem cd_ninI {ns : List Int} : CmpD X .NotIn (.int i) (.lst (ns.map D.int)) (!decide (i ∈ ns)) := ⟨_, op_notIn_seq, fun B H v1 v2 Q s h1 h2 q => by
  cases h1
  cases h2 with
  | lst h t =>
    have e := DnA.ints t
    subst e
    refine ⟨_, _, rfl, .inl (SqL.of (s.lst h)), rfl, flat_ints ns, ?_⟩
    rw [if_pos rfl, inV_ints]
    exact q _ (.bl _)⟩
/-- a method of a built-in type, called on d: it changes nothing -/
def MtV (X : Cx) (T id : String) (d : D) (ds : List D) (r : D) : Prop := ∃ rr, MtR X id rr ∧ ∀ B H v ws Q, Sub B H → Dn X.K B v d → DnA X.K B ws ds → (∀ u, Dn X.K B u r → Q u H) → rr v ws H Q
/-- what makes a new list -/
def MtN (X : Cx) (T id : String) (d : D) (ds : List D) (xs : List D) : Prop := ∃ rr, MtR X id rr ∧ ∀ B H v ws Q, Sub B H → Dn X.K B v d → DnA X.K B ws ds → (∀ p us, H p = none → DnA X.K B us xs → Q (.ref p) (upd H p (.lst us))) → rr v ws H Q
def IsTy (K : PySem.W.Frag) (T : String) (d : D) : Prop := ∀ B H v, Sub B H → Dn K B v d → tyV K T v H
theorem isTy_l {xs : List D} : IsTy K "list" (.lst xs) := fun B H v s h => by
  cases h with
  | lst h t => exact .inl ⟨rfl, _, SqL.of (s.lst h)⟩
theorem de_mv {T : String} {name : Str} {id : String} {r : D} (pa : PlainAttrs T) (slot : Slot T name id) (hty : typeOf (.builtin id) = pure (.type "method_descriptor"))
    (h : DV X o Δ d Δ1) (ha : DA X (e :: es) Δ1 ds Δ2) (ty : IsTy X.K T d) (m : MtV X T id d ds r)
    (hbase : attributeBase o name X.env (eval o X.env) = eval o X.env := by rfl)
    (hfew : ((backTo cpos (starEach (e :: es) X.env)).all (fun x => !x.1) && (backToKw cpos (keywordEach [] X.env)).all (fun x => x.1.isSome) && decide ((e :: es).length + ([] : List Keyword).length + (if ([] : List Keyword).isEmpty then 0 else 1) < 30)) = true := by rfl)
    (hline : (apos.endLine == cpos.line) = true := by rfl) (hs : starEach (e :: es) X.env = (false, eval e X.env) :: starEach es X.env := by rfl) (hplain : (backTo cpos (starEach es X.env)).any (·.1) = false := by rfl) :
    DV X (.Call (.Attribute o name apos) (e :: es) [] cpos) Δ r Δ2 := DE.of fun B H F σ a Q q => by
  obtain ⟨rr, hm, hr⟩ := m
  refine ⟨_, pe_bm pa slot hty hm (pe_w _) (pa_w _) hbase hfew hline hs hplain, h.run a fun v B1 H1 F1 s1 r1 a1 => ⟨ty B1 H1 v a1.sub r1, ha B1 H1 F1 σ a1 _ fun ws B2 H2 F2 s2 r2 a2 => ?_⟩⟩
  exact hr B2 H2 v ws Q a2.sub (Dn.mono s2.sub r1) r2 fun u hu => q u B2 H2 F2 (s1.trans s2) hu a2
theorem de_mvN {T : String} {name : Str} {id : String} {xs : List D} (pa : PlainAttrs T) (slot : Slot T name id) (hty : typeOf (.builtin id) = pure (.type "method_descriptor"))
    (h : DV X o Δ d Δ1) (ha : DA X (e :: es) Δ1 ds Δ2) (ty : IsTy X.K T d) (m : MtN X T id d ds xs)
    (hbase : attributeBase o name X.env (eval o X.env) = eval o X.env := by rfl)
    (hfew : ((backTo cpos (starEach (e :: es) X.env)).all (fun x => !x.1) && (backToKw cpos (keywordEach [] X.env)).all (fun x => x.1.isSome) && decide ((e :: es).length + ([] : List Keyword).length + (if ([] : List Keyword).isEmpty then 0 else 1) < 30)) = true := by rfl)
    (hline : (apos.endLine == cpos.line) = true := by rfl) (hs : starEach (e :: es) X.env = (false, eval e X.env) :: starEach es X.env := by rfl) (hplain : (backTo cpos (starEach es X.env)).any (·.1) = false := by rfl) :
    DE X (.Call (.Attribute o name apos) (e :: es) [] cpos) Δ (.ow none (rLst xs)) Δ2 := fun B H F σ a Q q => by
  obtain ⟨rr, hm, hr⟩ := m
  refine ⟨_, pe_bm pa slot hty hm (pe_w _) (pa_w _) hbase hfew hline hs hplain, h.run a fun v B1 H1 F1 s1 r1 a1 => ⟨ty B1 H1 v a1.sub r1, ha B1 H1 F1 σ a1 _ fun ws B2 H2 F2 s2 r2 a2 => ?_⟩⟩
  refine hr B2 H2 v ws Q a2.sub (Dn.mono s2.sub r1) r2 fun p us hp hu => ?_
  obtain ⟨s3, a3⟩ := a2.made (o := .lst us) (R := rLst xs) hp rLst_ok ⟨p, us, rfl, rfl, upd_same, hu⟩
  exact q _ _ _ _ ((s1.trans s2).trans s3) a3
theorem mt_idx {ns : List Int} {k : Nat} (h : ns[k]? = some i) (hno : ∀ (m : Nat), m < k → ns[m]? ≠ some i) : MtV X "list" "list.index" (.lst (ns.map D.int)) [.int i] (.int (k : Nat)) := ⟨_, L2.mt_index, fun B H v ws Q s h1 h2 q => by
  obtain ⟨w, rfl, r⟩ := h2.one'
  cases r
  cases h1 with
  | lst hb t =>
    have e := DnA.ints t
    subst e
    refine ⟨_, _, .int i, k, .int i, rfl, rfl, SqL.of (s.lst hb), rfl, flat_ints ns, by rw [List.getElem?_map, h]; rfl, by simp [eqV], fun m z' hm hz => ?_, q _ (.int _)⟩
    rw [List.getElem?_map] at hz
    obtain ⟨n, hn, rfl⟩ := Option.map_eq_some_iff.mp hz
    have : n ≠ i := fun z => hno m hm (z ▸ hn)
    simp [eqV, this]⟩
end
end DL
set_option Elab.async false
set_option linter.all false
set_option maxRecDepth 100000
set_option maxHeartbeats 4000000
/-! DL9: lists of lists of one's own -/
namespace DL
open PySem PySem.Spec PyProof.Rows L2
section
variable {K : PySem.W.Frag} {B B' H H' : Hp}
/-! ### peeks that make a list -/
theorem DnA.flat : ∀ {vs : List V} {ds : List D}, DnA K B vs ds → (∀ d ∈ ds, d.flat = true) → DnA K B' vs ds
  | _, _, .nil, _ => .nil
  | _, _, .cons q t, f => .cons (q.flat (f _ (List.mem_cons_self ..))) (DnA.flat t fun d m => f d (List.mem_cons_of_mem _ m))
theorem At.unfzL {F F' : List Addr} {Δ Δ1 Δ2 : List Sk} {σ : L2.St} {B1 B2 : Hp} {v : V} {ds : List D} (h : At K B H F Δ σ) (h1 : At K B1 H [] Δ1 σ) (s : Stp B1 H [] B2 H' F') (a2 : At K B2 H' F' (.ow none (rLst ds) :: Δ2) (some v :: σ)) (f : ∀ d ∈ ds, d.flat = true) :
    ∃ F2, Stp B H F B H' F2 ∧ At K B H' F2 (.ow none (rLst ds) :: Δ) (some v :: σ) := by
  obtain ⟨s3, a3⟩ := h.unfz h1 s
  obtain ⟨G, F0, e, ok, pp, r, sl⟩ := a2.sl.heads
  obtain ⟨p, vs, rfl, rfl, hp, rr⟩ := r
  have np : H p = none := by
    rcases s.newF p (by rw [e]; exact List.mem_append_left _ (List.mem_singleton_self p)) with z | z
    · cases z
    · exact z
  have nB : B p = none := h.sub.there np
  have nF : p ∉ F := fun m => h.sl.there p m np
  have rr' : DnA K B vs ds := rr.flat f
  refine ⟨[p] ++ F, ⟨s3.sub, s3.keep, fun a m => ?_, s3.newB, s3.all⟩, a3.sub, .ow rLst_ok (by intro u z; cases z) ⟨p, vs, rfl, rfl, hp, rr'⟩ a3.sl, ?_, fun a m => ?_⟩
  · rcases List.mem_append.mp m with z | z
    · rw [List.mem_singleton] at z
      subst z
      exact .inr np
    · exact .inl z
  · exact List.nodup_cons.mpr ⟨nF, h.nd⟩
  · rcases List.mem_append.mp m with z | z
    · rw [List.mem_singleton] at z
      subst z
      exact nB
    · exact h.out a z
theorem dl_peek {X : Cx} {e : Expr} {Δ Δ1 Δ2 : List Sk} {ds : List D} (z : Fz Δ Δ1) (h : DLc X e Δ1 ds Δ2) (f : ∀ d ∈ ds, d.flat = true) : DLc X e Δ ds Δ := fun B H F σ a Q q => by
  obtain ⟨B1, h1, h2, a1⟩ := a.fz z
  refine h B1 H [] σ a1 Q fun v B2 H2 F2 s2 a2 => ?_
  obtain ⟨F3, s3, a3⟩ := a.unfzL a1 s2 a2 f
  exact q v B H2 F3 s3 a3
theorem de_peekL {X : Cx} {e : Expr} {Δ Δ1 Δ2 : List Sk} {ds : List D} (z : Fz Δ Δ1) (h : DE X e Δ1 (.ow none (rLst ds)) Δ2) (f : ∀ d ∈ ds, d.flat = true) : DE X e Δ (.ow none (rLst ds)) Δ := fun B H F σ a Q q => by
  obtain ⟨B1, h1, h2, a1⟩ := a.fz z
  refine h B1 H [] σ a1 Q fun v B2 H2 F2 s2 a2 => ?_
  obtain ⟨F3, s3, a3⟩ := a.unfzL a1 s2 a2 f
  exact q v B H2 F3 s3 a3
/-! ### writes of larger things -/
theorem At.place {Δ : List Sk} {σ : L2.St} {F0 G : List Addr} {i : Nat} {v : V} {oa : Option V} {R : ResT} (sl : Sl K B H (Δ.set i .un) σ F0) (nd : (G ++ F0).Nodup) (out : ∀ a ∈ G ++ F0, B a = none) (sub : Sub B H) (ok : ROk R) (pp : ∀ u, oa = some u → v = u) (r : R K B H v G) (hi : i < Δ.length) (hs : σ[i]? = some (some v)) :
    ∃ F', At K B H F' (Δ.set i (.ow oa R)) σ ∧ ∀ a ∈ F', a ∈ G ++ F0 := by
  obtain ⟨F1, F2, sl2, sb⟩ := sl.put_ow (i := i) ok pp r (by simpa using hi)
  rw [List.set_set] at sl2
  have es : σ.set i (some v) = σ := by
    apply List.ext_getElem?
    intro j
    rw [List.getElem?_set]
    by_cases e : i = j
    · subst e
      rw [if_pos rfl]
      have := (List.getElem?_eq_some_iff.mp hs).1
      rw [if_pos this, hs]
    · rw [if_neg e]
  rw [es] at sl2
  have nd2 := List.nodup_append.mp nd
  have hsub : ∀ a ∈ F1 ++ F2, a ∈ F0 := fun a m => sb.subset m
  have n12 := nd2.2.1.sublist sb
  have n12' := List.nodup_append.mp n12
  refine ⟨F1 ++ (G ++ F2), ⟨sub, sl2, ?_, fun a m => ?_⟩, fun a m => ?_⟩
  · refine List.nodup_append.mpr ⟨n12'.1, List.nodup_append.mpr ⟨nd2.1, n12'.2.1, fun a ha b hb => nd2.2.2 a ha b (hsub b (List.mem_append_right _ hb))⟩, fun a ha b hb => ?_⟩
    rcases List.mem_append.mp hb with z | z
    · exact fun e => nd2.2.2 b z a (hsub a (List.mem_append_left _ ha)) e.symm
    · exact n12'.2.2 a ha b z
  · rcases List.mem_append.mp m with z | z
    · exact out a (List.mem_append_right _ (hsub a (List.mem_append_left _ z)))
    · rcases List.mem_append.mp z with z | z
      · exact out a (List.mem_append_left _ z)
      · exact out a (List.mem_append_right _ (hsub a (List.mem_append_right _ z)))
  · rcases List.mem_append.mp m with z | z
    · exact List.mem_append_right _ (hsub a (List.mem_append_left _ z))
    · rcases List.mem_append.mp z with z | z
      · exact List.mem_append_left _ z
      · exact List.mem_append_right _ (hsub a (List.mem_append_right _ z))
theorem Stp.chg {F F' : List Addr} (h1 : ∀ a, a ∉ F → H' a = H a) (h2 : ∀ a, H a ≠ none → H' a ≠ none) (h3 : ∀ a ∈ F', a ∈ F) : Stp B H F B H' F' :=
  ⟨Same.refl _, fun a o q n => by rw [h1 a n]; exact q, fun a m => .inl (h3 a m), fun a m => .inl m, h2⟩
theorem Sub.chg {F : List Addr} (s : Sub B H) (h1 : ∀ a, a ∉ F → H' a = H a) (out : ∀ a ∈ F, B a = none) : Sub B H' := fun a o q => by
  have n : a ∉ F := fun m => by rw [out a m] at q; cases q
  rw [h1 a n]
  exact s a o q
theorem At.writeG {F : List Addr} {Δ : List Sk} {σ : L2.St} {i : Nat} {oa : Option V} {R R' : ResT} {v : V} (h : At K B H F Δ σ) (hi : Δ[i]? = some (.ow oa R)) (hs : σ[i]? = some (some v)) (ok' : ROk R')
    (hc : ∀ G, G.Nodup → R K B H v G → R' K B H' v G ∧ ∀ a, a ∉ G → H' a = H a) (ha : ∀ a, H a ≠ none → H' a ≠ none) : ∃ F', Stp B H F B H' F' ∧ At K B H' F' (Δ.set i (.ow oa R')) σ := by
  obtain ⟨w, G, F1, F2, e1, e2, ok, pp, r, sl⟩ := h.sl.get_ow hi
  rw [hs] at e1
  cases e1
  have nd := h.nd
  rw [e2] at nd
  have nd1 := List.nodup_append.mp nd
  have nd2 := List.nodup_append.mp nd1.2.1
  obtain ⟨r', hch⟩ := hc G nd2.1 r
  have dis : ∀ a ∈ F1 ++ F2, a ∉ G := fun a m mg => by
    rcases List.mem_append.mp m with z | z
    · exact nd1.2.2 a z a (List.mem_append_left _ mg) rfl
    · exact nd2.2.2 a mg a z rfl
  have inF : ∀ a ∈ G ++ (F1 ++ F2), a ∈ F := fun a m => by
    rw [e2]
    rcases List.mem_append.mp m with z | z
    · exact List.mem_append_right _ (List.mem_append_left _ z)
    · rcases List.mem_append.mp z with z | z
      · exact List.mem_append_left _ z
      · exact List.mem_append_right _ (List.mem_append_right _ z)
  have hcF : ∀ a, a ∉ F → H' a = H a := fun a n => hch a fun m => n (inF a (List.mem_append_left _ m))
  have sl' : Sl K B H' (Δ.set i .un) σ (F1 ++ F2) := sl.frame (Same.refl _) fun a m o q => by rw [hch a (dis a m)]; exact q
  have ndp : (G ++ (F1 ++ F2)).Nodup := List.nodup_append.mpr ⟨nd2.1, List.nodup_append.mpr ⟨nd1.1, nd2.2.1, fun a ha b hb => nd1.2.2 a ha b (List.mem_append_right _ hb)⟩, fun a ha b hb e => dis b hb (e ▸ ha)⟩
  obtain ⟨F', a', m'⟩ := At.place sl' ndp (fun a m => h.out a (inF a m)) (h.sub.chg hcF h.out) ok' pp r' (List.getElem?_eq_some_iff.mp hi).1 hs
  exact ⟨F', Stp.chg hcF ha fun a m => inF a (m' a m), a'⟩
/-- the thing on top goes into the slot's one -/
theorem At.absorb {F : List Addr} {Δ : List Sk} {σ : L2.St} {i : Nat} {oa oh : Option V} {R R' Rh : ResT} {v w : V} (h : At K B H F (.ow oh Rh :: Δ) (some w :: σ)) (hi : Δ[i]? = some (.ow oa R)) (hs : σ[i]? = some (some v)) (ok' : ROk R')
    (hc : ∀ G Gh, (Gh ++ G).Nodup → R K B H v G → Rh K B H w Gh → R' K B H' v (G ++ Gh) ∧ ∀ a, a ∉ G → H' a = H a) (ha : ∀ a, H a ≠ none → H' a ≠ none) : ∃ F', Stp B H F B H' F' ∧ At K B H' F' (Δ.set i (.ow oa R')) σ := by
  obtain ⟨Gh, F0, e0, okh, pph, rh, slh⟩ := h.sl.heads
  obtain ⟨w', G, F1, F2, e1, e2, ok, pp, r, sl⟩ := slh.get_ow hi
  rw [hs] at e1
  cases e1
  have nd := h.nd
  rw [e0, e2] at nd
  have nd0 := List.nodup_append.mp nd
  have nd1 := List.nodup_append.mp nd0.2.1
  have nd2 := List.nodup_append.mp nd1.2.1
  have hG : (Gh ++ G).Nodup := List.nodup_append.mpr ⟨nd0.1, nd2.1, fun a ha b hb => nd0.2.2 a ha b (List.mem_append_right _ (List.mem_append_left _ hb))⟩
  obtain ⟨r', hch⟩ := hc G Gh hG r rh
  have dis : ∀ a ∈ F1 ++ F2, a ∉ G := fun a m mg => by
    rcases List.mem_append.mp m with z | z
    · exact nd1.2.2 a z a (List.mem_append_left _ mg) rfl
    · exact nd2.2.2 a mg a z rfl
  have dish : ∀ a ∈ F1 ++ F2, a ∉ Gh := fun a m mg => by
    rcases List.mem_append.mp m with z | z
    · exact nd0.2.2 a mg a (List.mem_append_left _ z) rfl
    · exact nd0.2.2 a mg a (List.mem_append_right _ (List.mem_append_right _ z)) rfl
  have inF : ∀ a ∈ (G ++ Gh) ++ (F1 ++ F2), a ∈ F := fun a m => by
    rw [e0, e2]
    rcases List.mem_append.mp m with z | z
    · rcases List.mem_append.mp z with z | z
      · exact List.mem_append_right _ (List.mem_append_right _ (List.mem_append_left _ z))
      · exact List.mem_append_left _ z
    · rcases List.mem_append.mp z with z | z
      · exact List.mem_append_right _ (List.mem_append_left _ z)
      · exact List.mem_append_right _ (List.mem_append_right _ (List.mem_append_right _ z))
  have hcF : ∀ a, a ∉ F → H' a = H a := fun a n => hch a fun m => n (inF a (List.mem_append_left _ (List.mem_append_left _ m)))
  have sl' : Sl K B H' (Δ.set i .un) σ (F1 ++ F2) := sl.frame (Same.refl _) fun a m o q => by rw [hch a (dis a m)]; exact q
  have ndG : (G ++ Gh).Nodup := List.nodup_append.mpr ⟨nd2.1, nd0.1, fun a ha b hb e => nd0.2.2 b hb a (List.mem_append_right _ (List.mem_append_left _ ha)) e.symm⟩
  have ndp : ((G ++ Gh) ++ (F1 ++ F2)).Nodup := List.nodup_append.mpr ⟨ndG, List.nodup_append.mpr ⟨nd1.1, nd2.2.1, fun a ha b hb => nd1.2.2 a ha b (List.mem_append_right _ hb)⟩, fun a ha b hb e => by
    rcases List.mem_append.mp ha with z | z
    · exact dis b hb (e ▸ z)
    · exact dish b hb (e ▸ z)⟩
  obtain ⟨F', a', m'⟩ := At.place sl' ndp (fun a m => h.out a (inF a m)) (h.sub.chg hcF h.out) ok' pp r' (List.getElem?_eq_some_iff.mp hi).1 hs
  exact ⟨F', Stp.chg hcF ha fun a m => inF a (m' a m), a'⟩
/-! ### the thing: a list of lists -/
inductive InL (K : PySem.W.Frag) (B H : Hp) : List Addr → List (List D) → Prop
  | nil : InL K B H [] []
  | cons {p : Addr} {as : List Addr} {ds : List D} {dss : List (List D)} {vs : List V} : H p = some (.lst vs) → DnA K B vs ds → InL K B H as dss → InL K B H (p :: as) (ds :: dss)
theorem InL.mono (e : Same B B') {as : List Addr} {dss : List (List D)} (h : InL K B H as dss) : InL K B' H as dss := by
  induction h with
  | nil => exact .nil
  | cons h1 h2 _ ih => exact .cons h1 (h2.mono e) ih
theorem InL.loc {as : List Addr} {dss : List (List D)} (h : InL K B H as dss) (k : ∀ a ∈ as, ∀ o, H a = some o → H' a = some o) : InL K B H' as dss := by
  induction h with
  | nil => exact .nil
  | cons h1 h2 _ ih => exact .cons (k _ (List.mem_cons_self ..) _ h1) h2 (ih fun a m => k a (List.mem_cons_of_mem _ m))
theorem InL.there {as : List Addr} {dss : List (List D)} (h : InL K B H as dss) : ∀ a ∈ as, H a ≠ none := by
  induction h with
  | nil => exact fun a m => by cases m
  | cons h1 h2 _ ih =>
    intro a m
    rcases List.mem_cons.mp m with z | z
    · rw [z, h1]; exact nofun
    · exact ih a z
theorem InL.length {as : List Addr} {dss : List (List D)} (h : InL K B H as dss) : as.length = dss.length := by
  induction h with
  | nil => rfl
  | cons _ _ _ ih => rw [List.length_cons, List.length_cons, ih]
theorem InL.get {as : List Addr} {dss : List (List D)} (h : InL K B H as dss) : ∀ {j : Nat} {ds : List D}, dss[j]? = some ds → ∃ p vs, as[j]? = some p ∧ H p = some (.lst vs) ∧ DnA K B vs ds := by
  induction h with
  | nil => intro j ds e; simp at e
  | @cons p as ds0 dss vs h1 h2 _ ih =>
    intro j ds e
    cases j with
    | zero => simp at e; subst e; exact ⟨p, vs, rfl, h1, h2⟩
    | succ j => exact ih (j := j) (by simpa using e)
theorem InL.set {as : List Addr} {dss : List (List D)} (h : InL K B H as dss) : ∀ {j : Nat} {p : Addr} {us : List V} {ds : List D}, as.Nodup → as[j]? = some p → H' p = some (.lst us) → DnA K B us ds → (∀ a, a ≠ p → H' a = H a) → InL K B H' as (dss.set j ds) := by
  induction h with
  | nil => intro j p us ds _ e; simp at e
  | @cons p0 as ds0 dss vs h1 h2 t ih =>
    intro j p us ds nd e h3 h4 h5
    have nd' := List.nodup_cons.mp nd
    cases j with
    | zero =>
      simp at e
      subst e
      exact .cons h3 h4 (t.loc fun a m o q => by rw [h5 a fun z => nd'.1 (z ▸ m)]; exact q)
    | succ j =>
      have e' : as[j]? = some p := by simpa using e
      have : p0 ≠ p := fun z => nd'.1 (z ▸ List.mem_of_getElem? e')
      exact .cons (by rw [h5 _ this]; exact h1) h2 (ih nd'.2 e' h3 h4 h5)
theorem InL.append {as bs : List Addr} {dss ess : List (List D)} (h : InL K B H as dss) (h' : InL K B H bs ess) : InL K B H (as ++ bs) (dss ++ ess) := by
  induction h with
  | nil => exact h'
  | cons h1 h2 _ ih => exact .cons h1 h2 ih
def rLLa (a : Addr) (as : List Addr) (dss : List (List D)) : ResT := fun K B H v F => v = .ref a ∧ F = a :: as ∧ H a = some (.lst (as.map V.ref)) ∧ InL K B H as dss
def rLL (dss : List (List D)) : ResT := fun K B H v F => ∃ a as, rLLa a as dss K B H v F
theorem rLLa_ok {a : Addr} {as : List Addr} {dss : List (List D)} : ROk (rLLa a as dss) where
  mono := fun e ⟨h1, h2, h3, h4⟩ => ⟨h1, h2, h3, h4.mono e⟩
  loc := fun k ⟨h1, h2, h3, h4⟩ => ⟨h1, h2, k _ (by rw [h2]; exact List.mem_cons_self ..) _ h3, h4.loc fun a m => k a (by rw [h2]; exact List.mem_cons_of_mem _ m)⟩
  there := fun ⟨h1, h2, h3, h4⟩ b m => by
    rw [h2] at m
    rcases List.mem_cons.mp m with z | z
    · rw [z, h3]; exact nofun
    · exact h4.there b z
theorem rLL_ok {dss : List (List D)} : ROk (rLL dss) where
  mono := fun e ⟨a, as, h⟩ => ⟨a, as, rLLa_ok.mono e h⟩
  loc := fun k ⟨a, as, h⟩ => ⟨a, as, rLLa_ok.loc k h⟩
  there := fun ⟨a, as, h⟩ => rLLa_ok.there h
theorem InL.frz {as : List Addr} {dss : List (List D)} (h : InL K B0 H as dss) : ∀ {B : Hp}, Same B0 B → (∀ a ∈ as, B a = none ∨ B a = H a) → ∃ B', Same B B' ∧ (∀ a, B' a ≠ none → B a ≠ none ∨ a ∈ as) ∧ (∀ a o, B' a = some o → B a = some o ∨ H a = some o) ∧ DnA K B' (as.map V.ref) (dss.map D.lst) := by
  induction h with
  | nil => exact fun _ _ => ⟨_, Same.refl _, fun a m => .inl m, fun a o q => .inl q, .nil⟩
  | @cons p as ds dss vs h1 h2 t ih =>
    intro B e0 hB
    have key : ∃ B1, Same B B1 ∧ (∀ a, B1 a ≠ none → B a ≠ none ∨ a = p) ∧ (∀ a o, B1 a = some o → B a = some o ∨ H a = some o) ∧ B1 p = some (.lst vs) := by
      rcases hB p (List.mem_cons_self ..) with z | z
      · obtain ⟨k1, k2, k3⟩ := frz1 z h1
        exact ⟨_, k1, fun a m => (k2 a m).imp id fun y => List.mem_singleton.mp y, k3, upd_same⟩
      · exact ⟨B, Same.refl _, fun a m => .inl m, fun a o q => .inl q, by rw [z, h1]⟩
    obtain ⟨B1, k1, k2, k3, k4⟩ := key
    obtain ⟨B2, g1, g2, g3, g4⟩ := ih (B := B1) (fun a o q => k1 a o (e0 a o q)) fun a m => by
      cases hb : B1 a with
      | none => exact .inl rfl
      | some o =>
        rcases k3 a o hb with z | z
        · rcases hB a (List.mem_cons_of_mem _ m) with y | y
          · rw [y] at z; cases z
          · exact .inr (by rw [← y, z])
        · exact .inr z.symm
    refine ⟨B2, fun a o q => g1 a o (k1 a o q), fun (a : Addr) m => ?_, fun a o q => ?_, .cons (.lst (g1 _ _ k4) (h2.mono fun a o q => g1 a o (k1 a o (e0 a o q)))) g4⟩
    · rcases g2 a m with z | z
      · exact (k2 a z).imp id fun (y : a = p) => by rw [y]; exact List.mem_cons_self ..
      · exact .inr (List.mem_cons_of_mem _ z)
    · rcases g3 a o q with z | z
      · exact k3 a o z
      · exact .inr z
theorem frz_ll {dss : List (List D)} : Frz (rLL dss) (.lst (dss.map D.lst)) := fun K B H v G ⟨a, as, h1, h2, h3, h4⟩ out => by
  subst h1 h2
  obtain ⟨B1, k1, k2, k3, k4⟩ := h4.frz (Same.refl B) fun b m => .inl (out b (List.mem_cons_of_mem _ m))
  have key : ∃ B2, Same B1 B2 ∧ (∀ b, B2 b ≠ none → B1 b ≠ none ∨ b = a) ∧ (∀ b o, B2 b = some o → B1 b = some o ∨ H b = some o) ∧ B2 a = some (.lst (as.map V.ref)) := by
    cases hb : B1 a with
    | none =>
      obtain ⟨g1, g2, g3⟩ := frz1 hb h3
      exact ⟨_, g1, fun b m => (g2 b m).imp id fun y => List.mem_singleton.mp y, g3, upd_same⟩
    | some o =>
      rcases k3 a o hb with z | z
      · rw [out a (List.mem_cons_self ..)] at z; cases z
      · exact ⟨B1, Same.refl _, fun b m => .inl m, fun b o q => .inl q, by rw [hb, ← z, h3]⟩
  obtain ⟨B2, g1, g2, g3, g4⟩ := key
  refine ⟨B2, fun b o q => g1 b o (k1 b o q), fun b m => ?_, fun b o q => ?_, .lst g4 (k4.mono g1)⟩
  · rcases g2 b m with z | z
    · exact (k2 b z).imp id fun y => List.mem_cons_of_mem _ y
    · exact .inr (z ▸ List.mem_cons_self ..)
  · rcases g3 b o q with z | z
    · exact k3 b o z
    · exact .inr z
end
end DL
set_option Elab.async false
set_option linter.all false
set_option maxRecDepth 100000
set_option maxHeartbeats 4000000
/-! DL10: rules over lists of lists of one's own -/
namespace DL
open PySem PySem.Spec PyProof.Rows L2
section
variable {K : PySem.W.Frag} {B B' H H' : Hp}
theorem Sl.swap {Δ : List Sk} {σ : L2.St} {F : List Addr} {oa : Option V} {R R' : ResT} (h : Sl K B H Δ σ F) (ok' : ROk R') : ∀ {i : Nat}, Δ[i]? = some (.ow oa R) → (∀ v G, σ[i]? = some (some v) → R K B H v G → R' K B H v G) → Sl K B H (Δ.set i (.ow oa R')) σ F := by
  induction h with
  | nil => intro i e; simp at e
  | un u s ih => intro i; cases i with
    | zero => intro e; simp at e
    | succ i => exact fun e1 e2 => .un u (ih (i := i) (by simpa using e1) (by simpa using e2))
  | im d s ih => intro i; cases i with
    | zero => intro e; simp at e
    | succ i => exact fun e1 e2 => .im d (ih (i := i) (by simpa using e1) (by simpa using e2))
  | @ow Δ σ F v oa' R0 G ok0 pp0 rr s ih => intro i; cases i with
    | zero =>
      intro e1 e2
      simp at e1
      obtain ⟨rfl, rfl⟩ := e1
      exact .ow ok' pp0 (e2 v G rfl rr) s
    | succ i => exact fun e1 e2 => .ow ok0 pp0 rr (ih (i := i) (by simpa using e1) (by simpa using e2))
theorem At.swap {Δ : List Sk} {σ : L2.St} {F : List Addr} {oa : Option V} {R R' : ResT} {i : Nat} (h : At K B H F Δ σ) (ok' : ROk R') (hi : Δ[i]? = some (.ow oa R)) (hr : ∀ v G, σ[i]? = some (some v) → R K B H v G → R' K B H v G) : At K B H F (Δ.set i (.ow oa R')) σ :=
  ⟨h.sub, h.sl.swap ok' hi hr, h.nd, h.out⟩
theorem map_ref_inj : ∀ {as bs : List Addr}, as.map V.ref = bs.map V.ref → as = bs
  | [], [], _ => rfl
  | [], _ :: _, e => by cases e
  | _ :: _, [], e => by cases e
  | a :: as, b :: bs, e => by
    rw [List.map_cons, List.map_cons, List.cons.injEq] at e
    rw [V.ref.inj e.1, map_ref_inj e.2]
theorem At.opened {Δ : List Sk} {σ : L2.St} {F : List Addr} {oa : Option V} {dss : List (List D)} {i : Nat} (h : At K B H F Δ σ) (hi : Δ[i]? = some (.ow oa (rLL dss))) : ∃ a as, At K B H F (Δ.set i (.ow oa (rLLa a as dss))) σ := by
  obtain ⟨w, G, F1, F2, e1, e2, ok, pp, ⟨a, as, r1, r2, r3, r4⟩, sl⟩ := h.sl.get_ow hi
  refine ⟨a, as, h.swap rLLa_ok hi fun v G' ev ⟨a', as', q1, q2, q3, q4⟩ => ?_⟩
  rw [e1] at ev
  cases ev
  rw [r1] at q1
  cases q1
  rw [r3] at q3
  have := map_ref_inj (HO.lst.inj (Option.some.inj q3))
  subst this
  exact ⟨r1, q2, r3, q4⟩
theorem At.ll {Δ : List Sk} {σ : L2.St} {F : List Addr} {oa : Option V} {a : Addr} {as : List Addr} {dss : List (List D)} {i : Nat} (h : At K B H F Δ σ) (hi : Δ[i]? = some (.ow oa (rLLa a as dss))) : σ[i]? = some (some (.ref a)) ∧ H a = some (.lst (as.map V.ref)) ∧ InL K B H as dss ∧ (a :: as).Nodup := by
  obtain ⟨w, G, F1, F2, e1, e2, ok, pp, ⟨r1, r2, r3, r4⟩, sl⟩ := h.sl.get_ow hi
  subst r1
  refine ⟨e1, r3, r4, ?_⟩
  have nd := h.nd
  rw [e2] at nd
  rw [← r2]
  exact (List.nodup_append.mp (List.nodup_append.mp nd).2.1).1
end
section
variable {X : Cx} {Δ Δ0 Δ1 Δ2 : List Sk} {d : D} {a b o e e2 : Expr} {es : List Expr} {pos apos cpos p px : Pos} {x : Str} {ds : List D} {st : Stmt} {sts : List Stmt} {oa : Option V} {dss : List (List D)} {l : Addr} {as : List Addr}
theorem ds_openLL {P : Pst} (n : Nat) (hi : Δ[n]? = some (.ow oa (rLL dss)))
    (h : ∀ l as, as.length = dss.length → DS X st (Δ.set n (.ow oa (rLLa l as dss))) (Pst.mk (fun Δ' => ∃ dss', Δ'[n]? = some (.ow oa (rLLa l as dss')) ∧ P.nx (Δ'.set n (.ow oa (rLL dss')))) (fun r Δ' => ∃ dss', Δ'[n]? = some (.ow oa (rLLa l as dss')) ∧ P.rt r (Δ'.set n (.ow oa (rLL dss'))))
      (fun Δ' => ∃ dss', Δ'[n]? = some (.ow oa (rLLa l as dss')) ∧ P.bk (Δ'.set n (.ow oa (rLL dss')))) (fun Δ' => ∃ dss', Δ'[n]? = some (.ow oa (rLLa l as dss')) ∧ P.ct (Δ'.set n (.ow oa (rLL dss')))))) : DS X st Δ P := fun B H F σ a D mm => by
  obtain ⟨l, as, a1⟩ := a.opened hi
  have sw : ∀ {B' H' F' Δ' σ'} {dss' : List (List DL.D)}, At X.K B' H' F' Δ' σ' → Δ'[n]? = some (.ow oa (rLLa l as dss')) → At X.K B' H' F' (Δ'.set n (.ow oa (rLL dss'))) σ' := fun a' hi' => a'.swap rLL_ok hi' fun v G _ r => ⟨l, as, r⟩
  have hlen := (a1.ll (oa := oa) (dss := dss) (i := n) (by rw [List.getElem?_set_self (List.getElem?_eq_some_iff.mp hi).1])).2.2.1.length
  refine h l as hlen B H F σ a1 D ⟨?_, ?_, ?_, ?_⟩
  · exact fun Δ' σ' B' H' F' ⟨dss', e, q⟩ s a' => mm.nx _ σ' B' H' F' q s (sw a' e)
  · refine fun r Δ' v σ' B' H' F' ⟨dss', e, q⟩ s a' => mm.rt r _ v σ' B' H' F' q s ?_
    exact a'.swap (i := n + 1) rLL_ok e fun v G _ r => ⟨l, as, r⟩
  · exact fun Δ' σ' B' H' F' ⟨dss', e, q⟩ s a' => mm.bk _ σ' B' H' F' q s (sw a' e)
  · exact fun Δ' σ' B' H' F' ⟨dss', e, q⟩ s a' => mm.ct _ σ' B' H' F' q s (sw a' e)
theorem de_lstLL1 (h : DE X e Δ (.ow none (rLst ds)) Δ1) (hs : starEach [e] X.env = (false, eval e X.env) :: starEach [] X.env := by rfl) : DE X (.List [e] pos) Δ (.ow none (rLL [ds])) Δ1 := fun B H F σ a Q k =>
  ⟨_, pe_lst (pa_cons (pe_w e) pa_nil hs), h B H F σ a _ fun v B1 H1 F1 s1 a1 => ⟨Nat.le_of_lt (small1000 (show 1 ≤ 1000 by decide)), fun q hq => by
    obtain ⟨G, F0, e0, ok, pp, ⟨p, vs, rfl, rfl, hp, rr⟩, sl⟩ := a1.sl.heads
    have hqp : q ≠ p := fun z => by rw [z, hp] at hq; cases hq
    have fr : ∀ b o, H1 b = some o → (upd H1 q (.lst [.ref p])) b = some o := fun b o y => by
      rw [upd_ne fun z => by rw [z, hq] at y; cases y]
      exact y
    have hqF : q ∉ F1 := fun m => a1.sl.there q m hq
    have hqB : B1 q = none := a1.sub.there hq
    subst e0
    have a2 : At X.K B1 (upd H1 q (.lst [.ref p])) ((q :: [p]) ++ F0) (.ow none (rLL [ds]) :: Δ1) (some (.ref q) :: σ) := by
      refine ⟨fun b o y => ?_, .ow rLL_ok (by intro u z; cases z) ⟨q, [p], rfl, rfl, upd_same, .cons (fr _ _ hp) rr .nil⟩ (sl.frame (Same.refl _) fun b _ o y => fr b o y), List.nodup_cons.mpr ⟨hqF, a1.nd⟩, fun b m => ?_⟩
      · rcases a1.sub b o y with z | ⟨z1, ob, z2⟩
        · exact .inl (fr _ _ z)
        · exact .inr ⟨z1, ob, fr _ _ z2⟩
      · rcases List.mem_cons.mp m with z | z
        · rw [z]; exact hqB
        · exact a1.out b z
    refine k _ B1 _ _ ⟨s1.sub, fun b o y n => fr b o (s1.keep b o y n), fun b m => ?_, s1.newB, fun b y => ?_⟩ a2
    · rcases List.mem_cons.mp m with z | z
      · subst z
        refine .inr ?_
        cases hb : H b with
        | none => rfl
        | some o => exact absurd hq (s1.all b (by rw [hb]; exact nofun))
      · exact s1.newF b z
    · have := s1.all b y
      cases hb : H1 b with
      | none => exact absurd hb this
      | some o => rw [fr b o hb]; exact nofun⟩⟩
theorem At.ref {K : PySem.W.Frag} {B H : Hp} {F : List Addr} {Δ : List Sk} {σ : L2.St} {v : V} {q : Addr} (h : Dn K B v (.raw (.ref q))) : v = .ref q := by
  cases h; rfl
/-- xs[i], an inner list as it is -/
theorem de_ixAl {i : Int} {q : Addr} {p0 : Pos} (n : Nat) {oa2 : Option V} {dss2 : List (List DL.D)} (h' : DV X b Δ (.int i) Δ2) (hi : Δ[n]? = some (.ow oa (rLLa l as dss))) (hi2 : Δ2[n]? = some (.ow oa2 (rLLa l as dss2))) (e : L2.atI as i = some q) (hN : X.N[n]? = some x) (hv : Vis X.env.scope x)
    (hs : PlainIx b := by exact fun _ _ => rfl) (hd : (x == ("__debug__" : Str)) = false := by decide) (hcd : (x == ("__classdict__" : Str)) = false := by decide) : DV X (.Subscript (.Name x p0) b pos) Δ (.raw (.ref q)) Δ2 := DE.of fun B H F σ a' Q k => by
  obtain ⟨e1, _⟩ := a'.ll hi
  refine ⟨_, pe_ix ix_list (pe_var hN hv hd hcd) (pe_w b) hs, .ref l, e1, h'.run a' fun v2 B2 H2 F2 s2 r2 a2 => ?_⟩
  obtain ⟨e2, e3, _⟩ := a2.ll hi2
  cases r2
  exact ⟨_, _, _, .ref q, rfl, rfl, SqL.of e3, by
    unfold L2.atI at e ⊢
    rw [List.length_map]
    cases hx : ixN as.length i with
    | none => rw [hx] at e; cases e
    | some m =>
      rw [hx] at e
      show (as.map V.ref)[m]? = _
      rw [List.getElem?_map, show as[m]? = some q from e]
      rfl, k (.ref q) B2 H2 _ s2 (.raw _) a2⟩
/-- xs[i].append(e) and its like -/
theorem de_mtAl {name : Str} {id : String} {oa0 : Option V} {dss0 : List (List DL.D)} {xs xs' : List DL.D} {q : Addr} {j : Nat} (n : Nat) (pa : PlainAttrs "list") (slot : Slot "list" name id) (hty : typeOf (.builtin id) = pure (.type "method_descriptor"))
    (h : DV X o Δ (.raw (.ref q)) Δ0) (hi0 : Δ0[n]? = some (.ow oa0 (rLLa l as dss0))) (ha : DA X (e :: es) Δ0 ds Δ1) (hi : Δ1[n]? = some (.ow oa (rLLa l as dss))) (hj : as[j]? = some q) (hx : dss[j]? = some xs) (m : MtL X id xs ds d xs')
    (hbase : attributeBase o name X.env (eval o X.env) = eval o X.env := by rfl)
    (hfew : ((backTo cpos (starEach (e :: es) X.env)).all (fun x => !x.1) && (backToKw cpos (keywordEach [] X.env)).all (fun x => x.1.isSome) && decide ((e :: es).length + ([] : List Keyword).length + (if ([] : List Keyword).isEmpty then 0 else 1) < 30)) = true := by rfl)
    (hline : (apos.endLine == cpos.line) = true := by rfl) (hs : starEach (e :: es) X.env = (false, eval e X.env) :: starEach es X.env := by rfl) (hplain : (backTo cpos (starEach es X.env)).any (·.1) = false := by rfl) :
    DV X (.Call (.Attribute o name apos) (e :: es) [] cpos) Δ d (Δ1.set n (.ow oa (rLLa l as (dss.set j xs')))) := DE.of fun B H F σ a Q k => by
  obtain ⟨r, hm, hr⟩ := m
  refine ⟨_, pe_bm pa slot hty hm (pe_w _) (pa_w _) hbase hfew hline hs hplain, h.run a fun v B1 H1 F1 s1 r1 a1 => ?_⟩
  obtain ⟨e1, e2, e3, e4⟩ := a1.ll hi0
  cases r1
  have hp1 : ∃ vs, H1 q = some (.lst vs) := by
    have := e3.length
    have lt := (List.getElem?_eq_some_iff.mp hj).1
    obtain ⟨p', vs, z1, z2, z3⟩ := e3.get (j := j) (ds := dss0[j]) (List.getElem?_eq_getElem (by omega))
    rw [hj] at z1
    cases z1
    exact ⟨vs, z2⟩
  obtain ⟨vs1, hp1⟩ := hp1
  refine ⟨.inl ⟨rfl, _, SqL.of hp1⟩, ha B1 H1 F1 σ a1 _ fun ws B2 H2 F2 s2 r2 a2 => ?_⟩
  obtain ⟨g1, g2, g3, g4⟩ := a2.ll hi
  obtain ⟨p', vs, z1, z2, z3⟩ := g3.get hx
  rw [hj] at z1
  cases z1
  refine hr B2 H2 q vs ws Q a2.sub z2 z3 r2 fun v us y1 y2 => ?_
  have nd := List.nodup_cons.mp g4
  have hlq : l ≠ q := fun z => nd.1 (z ▸ List.mem_of_getElem? hj)
  obtain ⟨F', s3, a3⟩ := a2.writeG (H' := upd H2 q (.lst us)) (R' := rLLa l as (dss.set j xs')) hi g1 rLLa_ok (fun G _ ⟨q1, q2, q3, q4⟩ => by
      refine ⟨⟨rfl, q2, ?_, q4.set nd.2 hj upd_same y1 fun b hb => upd_ne hb⟩, fun b hb => upd_ne fun z => hb ?_⟩
      · rw [upd_ne hlq]; exact q3
      · rw [z, q2]; exact List.mem_cons_of_mem _ (List.mem_of_getElem? hj)) (fun b hb => by
      by_cases z : b = q
      · rw [z, upd_same]; exact nofun
      · rw [upd_ne z]; exact hb)
  exact k v _ _ _ ((s1.trans s2).trans s3) (y2 H).1 a3
/-- xs.append(a new list) -/
theorem de_appLL {oa0 : Option V} {dss0 : List (List DL.D)} (n : Nat) (hi0 : Δ[n]? = some (.ow oa0 (rLL dss0))) (h : DE X e Δ (.ow none (rLst ds)) Δ1) (hi : Δ1[n]? = some (.ow oa (rLL dss))) (hl : dss.length < 100000) (hN : X.N[n]? = some x) (hv : Vis X.env.scope x)
    (hbase : attributeBase (.Name x p) "append" X.env (eval (.Name x p) X.env) = eval (.Name x p) X.env := by rfl)
    (hfew : ((backTo cpos (starEach [e] X.env)).all (fun x => !x.1) && (backToKw cpos (keywordEach [] X.env)).all (fun x => x.1.isSome) && decide ([e].length + ([] : List Keyword).length + (if ([] : List Keyword).isEmpty then 0 else 1) < 30)) = true := by rfl)
    (hline : (apos.endLine == cpos.line) = true := by rfl) (hs : starEach [e] X.env = (false, eval e X.env) :: starEach [] X.env := by rfl) (hplain : (backTo cpos (starEach [] X.env)).any (·.1) = false := by rfl)
    (hd : (x == ("__debug__" : Str)) = false := by decide) (hcd : (x == ("__classdict__" : Str)) = false := by decide) :
    DV X (.Call (.Attribute (.Name x p) "append" apos) [e] [] cpos) Δ .non (Δ1.set n (.ow oa (rLL (dss ++ [ds])))) := DE.of fun B H F σ a Q k => by
  obtain ⟨l0, as0, a0⟩ := a.opened hi0
  obtain ⟨e1, e2, _⟩ := a0.ll (oa := oa0) (dss := dss0) (i := n) (by rw [List.getElem?_set_self (List.getElem?_eq_some_iff.mp hi0).1])
  refine ⟨_, pe_bm PySem.F.plainAttrs_list PySem.F.slot_list_append PySem.F.type_list_append L2.mt_append (pe_var hN hv hd hcd) (pa_cons (pe_w e) pa_nil hs) hbase hfew hline hs hplain, .ref l0, e1, .inl ⟨rfl, _, SqL.of e2⟩, h B H F σ a _ fun w B1 H1 F1 s1 a1 => ?_⟩
  obtain ⟨G, F0, e0, sh, at0⟩ := a1.heads
  obtain ⟨l1, as1, a1'⟩ := at0.opened hi
  obtain ⟨g1, g2, g3, g4⟩ := a1'.ll (oa := oa) (dss := dss) (i := n) (by rw [List.getElem?_set_self (List.getElem?_eq_some_iff.mp hi).1])
  rw [e1] at g1
  cases g1
  have hlen := g3.length
  refine ⟨l0, as1.map V.ref, w, rfl, rfl, g2, by rw [List.length_map, hlen]; exact Nat.lt_of_lt_of_le hl (by decide), ?_⟩
  obtain ⟨F', s3, a3⟩ := a1.absorb (H' := upd H1 l0 (.lst (as1.map V.ref ++ [w]))) (R' := rLL (dss ++ [ds])) hi e1 rLL_ok (fun G' Gh nd ⟨l2, as2, q1, q2, q3, q4⟩ ⟨p2, vs2, q5, q6, q7, q8⟩ => by
      cases q1
      subst q5 q6
      rw [g2] at q3
      have := map_ref_inj (HO.lst.inj (Option.some.inj q3))
      subst this
      have nd' := List.nodup_append.mp nd
      have ndG : l0 ∉ as1 := by
        have := nd'.2.1
        rw [q2] at this
        exact (List.nodup_cons.mp this).1
      have hp2 : p2 ≠ l0 := fun z => nd'.2.2 p2 (List.mem_singleton_self _) l0 (by rw [q2]; exact List.mem_cons_self ..) z
      refine ⟨⟨l0, as1 ++ [p2], rfl, by rw [q2]; rfl, by rw [upd_same, List.map_append]; rfl, (q4.loc fun b m o y => by rw [upd_ne fun (z : b = l0) => ndG (by rw [← z]; exact m)]; exact y).append (.cons (by rw [upd_ne hp2]; exact q7) q8 .nil)⟩, fun b hb => upd_ne fun z => hb (by rw [z, q2]; exact List.mem_cons_self ..)⟩) (fun b hb => by
      by_cases z : b = l0
      · rw [z, upd_same]; exact nofun
      · rw [upd_ne z]; exact hb)
  exact k .non _ _ _ (s1.trans s3) .non a3
/-- for a, f in zip(xs, e): xs stays the same list of the same lists -/
theorem ds_forZ {P : Pst} {fs : List DL.D} {elts : List Expr} {kk : Nat} {tpos : Pos} (n : Nat) (I : Nat → List Sk → Prop) (hi0 : Δ[n]? = some (.ow oa (rLLa l as dss))) (h2 : DV X e2 Δ (.lst fs) Δ1) (h0 : I 0 Δ1) (hI : ∀ i Δi, I i Δi → ∃ oa dss, Δi[n]? = some (.ow oa (rLLa l as dss)))
    (hN : X.N[n]? = some x) (hv : Vis X.env.scope x) (hm : X.mg "zip" = none) (hp : PassesOwn (model X.prog X.w) X.A X.env X.xe) (hc : X.calm = true)
    (ht : ∀ i q f Δi, as[i]? = some q → fs[i]? = some f → I i Δi → ∃ Δi' js, DG X (.Tuple elts kk tpos) (.tup [.raw (.ref q), f]) Δi Δi' js ∧ DSs X sts Δi' { P with nx := I (i + 1), ct := I (i + 1), bk := P.nx }) (hd : ∀ Δn, I (min as.length fs.length) Δn → P.nx Δn)
    (hg : Gl X "zip" := by rfl) (hs1 : starEach [.Name x px, e2] X.env = (false, eval (.Name x px) X.env) :: starEach [e2] X.env := by rfl) (hs2 : starEach [e2] X.env = (false, eval e2 X.env) :: starEach [] X.env := by rfl) (hpl : (backTo cpos (starEach [e2] X.env)).any (·.1) = false := by rfl)
    (hs : ∀ z, foldedSetIterable (.Call (.Name "zip" p) [.Name x px, e2] [] cpos) X.env z = pure z := by intro _; rfl) (hdb : (x == ("__debug__" : Str)) = false := by decide) (hcd : (x == ("__classdict__" : Str)) = false := by decide) :
    DS X (.For (.Tuple elts kk tpos) (.Call (.Name "zip" p) [.Name x px, e2] [] cpos) sts [] pos) Δ P := fun B H F σ a D mm => by
  obtain ⟨e1, _⟩ := a.ll hi0
  refine ⟨_, ps_for hp hc (pi_zip hg hm (pa_cons (pe_var hN hv hdb hcd) (pa_cons (pe_w e2) pa_nil hs2) hs1) hs1 hpl) (pg_w _) (pss_w sts) hs, .ref l, e1, h2.run a fun v B1 H1 F1 s1 r1 a1 => ?_⟩
  cases r1 with
  | @lst l' vs' _ e1' q1' =>
    obtain ⟨oa1, dss1, hi1⟩ := hI 0 Δ1 h0
    obtain ⟨_, e2, _⟩ := a1.ll hi1
    refine ⟨l, l', as.map V.ref, vs', rfl, SqL.of e2, SqL.of (a1.sub.lst e1'), ?_⟩
    refine ⟨fun i m σ' H' => m = min as.length fs.length - i ∧ i ≤ min as.length fs.length ∧ ∃ Δi B' F', I i Δi ∧ Stp B1 H1 F1 B' H' F' ∧ At X.K B' H' F' Δi σ', ⟨_, rfl, Nat.zero_le _, Δ1, B1, F1, h0, .refl, a1⟩, ?_⟩
    rintro i m σ' H' ⟨rfl, hle, Δi, B', F', hIi, s2, a2⟩
    obtain ⟨oa2, dss2, hi2⟩ := hI i Δi hIi
    obtain ⟨_, f2, _⟩ := a2.ll hi2
    have g2 := SqL.of (K := X.K) (a2.sub.lst (s2.sub _ _ e1'))
    have lq := q1'.length
    by_cases hlt : i < min as.length fs.length
    · have t1 : i < as.length := by omega
      have t2 : i < vs'.length := by omega
      refine .inr ⟨⟨_, vs', .ref as[i], vs'[i], SqL.of f2, g2, by simp [t1], by simp [t2]⟩, fun σ'' H'' => ∃ Δi B' F', I (i + 1) Δi ∧ Stp B1 H1 F1 B' H'' F' ∧ At X.K B' H'' F' Δi σ'', fun σ'' H'' q => ⟨min as.length fs.length - (i + 1), by omega, rfl, hlt, q⟩, fun z H'' y => ?_⟩
      obtain ⟨T, z1, z2, rfl, hT, rfl, y1, y2⟩ := y
      have y1 := y1 _ (SqL.of f2)
      have y2 := y2 _ g2
      rw [List.getElem?_map, List.getElem?_eq_getElem t1] at y1
      cases y1
      obtain ⟨f, j1, j2⟩ := q1'.get' y2
      obtain ⟨Δi', js, g, body⟩ := ht i as[i] f Δi (List.getElem?_eq_getElem t1) j1 hIi
      obtain ⟨s3, a3⟩ := a2.laid (o := .tup [.ref as[i], z2]) hT
      refine g _ _ F' σ' _ a3 (.tup upd_same (.cons (.raw _) (.one ((j2.mono s2.sub).mono s3.sub)))) _ fun B4 H4 F4 σ4 _ s4 a4 => ?_
      have s5 := (s2.trans s3).trans s4
      refine body B4 H4 F4 σ4 a4 _ ⟨?_, (mm.step (s1.trans s5)).rt, (mm.step (s1.trans s5)).nx, ?_⟩
      · exact fun Δ'' σ'' B6 H6 F6 q s6 a6 => ⟨Δ'', B6, F6, q, s5.trans s6, a6⟩
      · exact fun Δ'' σ'' B6 H6 F6 q s6 a6 => ⟨Δ'', B6, F6, q, s5.trans s6, a6⟩
    · have e : i = min as.length fs.length := by omega
      subst e
      exact .inl ⟨⟨_, vs', SqL.of f2, g2, by rw [List.length_map]; omega⟩, mm.nx Δi σ' B' H' F' (hd Δi hIi) (s1.trans s2) a2⟩
end
end DL
set_option Elab.async false
set_option linter.all false
set_option maxRecDepth 100000
set_option maxHeartbeats 4000000
/-! DL11: more rules: tuples cut and joined, lists unpacked, sorted, dicts compared, a row out of a new list of lists -/
namespace DL
open PySem PySem.Spec PyProof.Rows L2
section
variable {X : Cx} {K : PySem.W.Frag} {a b e : Expr} {es : List Expr} {Δ Δ1 Δ2 Δ3 : List Sk} {d d1 d2 : D} {ds xs ys : List D} {p pos : Pos} {i : Int} {oa : Option V} {dss : List (List D)} {x : Str}
/-- a rule that makes a new tuple -/
def ROpT (K : PySem.W.Frag) (r : R2) (d1 d2 : D) (ds : List D) : Prop := ∀ B H v1 v2 Q, Sub B H → Dn K B v1 d1 → Dn K B v2 d2 → (∀ p vs, H p = none → DnA K B vs ds → Q (.ref p) (upd H p (.tup vs))) → r v1 v2 H Q
def BinT (X : Cx) (op : Operator) (d1 d2 : D) (ds : List D) : Prop := ∃ r, OpR X (binaryOp op) r ∧ ROpT X.K r d1 d2 ds
theorem de_binT {op : Operator} (h : DV X a Δ d1 Δ1) (h' : DV X b Δ1 d2 Δ2) (o : BinT X op d1 d2 ds) : DV X (.BinOp a op b pos) Δ (.tup ds) Δ2 := DE.of fun B H F σ a' Q k => by
  obtain ⟨r, ho, hr⟩ := o
  refine ⟨_, pe_op ho (pe_w a) (pe_w b), h.run a' fun v1 B1 H1 F1 s1 r1 a1 => h'.run a1 fun v2 B2 H2 F2 s2 r2 a2 => hr B2 H2 v1 v2 Q a2.sub (r1.mono s2.sub) r2 fun q vs hq rv => ?_⟩
  obtain ⟨s3, a3⟩ := a2.laid (o := .tup vs) hq
  exact k _ _ _ _ ((s1.trans s2).trans s3) (.tup upd_same (rv.mono s3.sub)) a3
theorem bd_catT (hx : xs ≠ []) (hy : ys ≠ []) (hl : xs.length + ys.length ≤ 100000) : BinT X .Add (.tup xs) (.tup ys) (xs ++ ys) := ⟨_, op_catT, fun B H v1 v2 Q s h1 h2 q => by
  cases h1 with
  | @tup t1 us _ e1 r1 =>
    cases h2 with
    | @tup t2 ws _ e2 r2 =>
      have n1 : us ≠ [] := fun z => hx (List.eq_nil_of_length_eq_zero (by rw [← r1.length, z]; rfl))
      have n2 : ws ≠ [] := fun z => hy (List.eq_nil_of_length_eq_zero (by rw [← r2.length, z]; rfl))
      exact ⟨_, _, us, ws, rfl, rfl, SqT.of (s.tup e1), SqT.of (s.tup e2), n1, by rw [r1.length, r2.length]; exact Nat.le_trans hl (by decide), fun z => absurd z n2, fun _ p hp => q p _ hp (r1.append r2)⟩⟩
theorem de_slT {lo hi : Option Expr} {l u : Option Int} {p2 : Pos} {xs : List D} (h : DV X e Δ (.tup xs) Δ1) (hl : DO X lo Δ1 l Δ2) (hu : DO X hi Δ2 u Δ3) (hw : ¬ (HT.sIx xs.length 0 l = 0 ∧ HT.sIx xs.length xs.length u = xs.length)) :
    DV X (.Subscript e (.Slice lo hi none p2) pos) Δ (.tup (cutD xs l u)) Δ3 := DE.of fun B H F σ a Q q =>
  ⟨_, pe_slice sl_tup (pe_w e) (po_w lo) (po_w hi), h.run a fun v B1 H1 F1 s1 r1 a1 => hl B1 H1 F1 σ a1 _ fun B2 H2 F2 s2 a2 => hu B2 H2 F2 σ a2 _ fun B3 H3 F3 s3 a3 => by
    cases r1 with
    | @tup l vs _ e1 r1 =>
      have sm := s2.sub.trans s3.sub
      refine ⟨l, vs, rfl, SqT.of (a3.sub.tup (sm _ _ e1)), by rw [r1.length]; exact hw, fun p hp => ?_⟩
      obtain ⟨s4, a4⟩ := a3.laid (o := .tup (cutV vs _ _)) hp
      exact q _ _ _ _ (((s1.trans s2).trans s3).trans s4) (.tup upd_same (((r1.mono sm).mono s4.sub).cut _ _)) a4⟩
/-- a list taken apart -/
theorem dg_lst {js : List Nat} {kk n : Nat} (hc : X.calm = true) (h : DGs X es ds Δ Δ1 js) (hl : ds.length = n) (hn : (assignEach es X.env).length = n := by rfl) (hst : (assignEach es X.env).findIdx? (·.1) = none := by rfl) : DG X (.Tuple es kk pos) (.lst ds) Δ Δ1 js := fun B H F σ v a r Q q => by
  cases r with
  | @lst l xs _ e1 r1 =>
    have wgs : PGs X es (fun vs σ H Q => ∃ t, PGs X es t ∧ t vs σ H Q) := ⟨fun pins s σ H vs us Q I r ⟨_, h, q⟩ => h.run pins s σ H vs us Q I r q⟩
    exact ⟨_, pg_lst hc wgs hn hst, l, xs, rfl, SqL.of (a.sub.lst e1), by rw [r1.length, hl], h B H F σ xs a r1 Q q⟩
theorem cn_sorted {ns ms : List Int} (hm : ∀ zs : List Int, zs.Perm ns → zs.Pairwise (· ≤ ·) → zs = ms) : CalN X (.builtin "sorted") [.lst (ns.map .int)] (ms.map .int) := ⟨_, cr_sortedI, fun B H vs Q s h q => by
  obtain ⟨v, rfl, r⟩ := h.one'
  cases r with
  | lst e1 r1 => exact ⟨_, ns, rfl, by rw [← r1.ints]; exact SqL.of (s.lst e1), fun zs p h1 h2 hp => by rw [hm zs h1 h2]; exact q p _ hp (DnA.of_ints ms)⟩⟩
theorem sort2 {u v : Int} {zs : List Int} (h1 : zs.Perm [u, v]) (h2 : zs.Pairwise (· ≤ ·)) : zs = [min u v, max u v] := by
  have hl := h1.length_eq
  match zs, hl with
  | [a, b], _ =>
    have h3 := List.pairwise_cons.mp h2
    have h4 := h3.1 b (List.mem_cons_self ..)
    have ma : a ∈ [u, v] := h1.subset (List.mem_cons_self ..)
    have mb : b ∈ [u, v] := h1.subset (List.mem_cons_of_mem _ (List.mem_cons_self ..))
    have mu : u ∈ [a, b] := h1.symm.subset (List.mem_cons_self ..)
    have mv : v ∈ [a, b] := h1.symm.subset (List.mem_cons_of_mem _ (List.mem_cons_self ..))
    simp only [List.mem_cons, List.not_mem_nil, or_false] at ma mb mu mv
    have e1 : a = min u v := by omega
    have e2 : b = max u v := by omega
    rw [e1, e2]
theorem cn_sort2 {u v : Int} : CalN X (.builtin "sorted") [.lst [.int u, .int v]] [.int (min u v), .int (max u v)] := cn_sorted (ns := [u, v]) (ms := [min u v, max u v]) fun zs h1 h2 => sort2 h1 h2

/-! ### dicts compared -/
theorem Sub.dkr {B H : Hp} {q : Addr} {kvs : List (Key × V)} (s : Sub B H) (h : B q = some (.dK kvs)) : Rd H q (.dK kvs) := by
  rcases s _ _ h with z | ⟨_, ob, z⟩
  · exact .inl z
  · exact .inr ⟨ob, z⟩
def rDkE (g : Bool) : R2 := fun x y H Q => ∃ m n us ws, x = .ref m ∧ y = .ref n ∧ Rd H m (.dK us) ∧ Rd H n (.dK ws) ∧ us.length = ws.length ∧ (∀ q ∈ us, valV ws q.1 = some q.2 ∧ flatB q.2 = true) ∧ Q (.bl g) H
theorem op_dkEq (hu : X.A.units < cLine) : OpR X (compareOp .Eq) (rDkE true) := fun pins s σ H x y v u Q I rx ry ⟨m, n, us, ws, ex, ey, hm, hn, hl, hp, q⟩ => by
  subst ex ey
  have ev : v = Value.ref m := rx
  have eu : u = Value.ref n := ry
  subst ev eu
  obtain ⟨_, y1, v1, r1, g1⟩ := dk_rd I.hok hm
  obtain ⟨_, y2, v2, r2, g2⟩ := dk_rd I.hok hn
  have hz : v1.length = v2.length := (Paired.length r1).symm.trans (hl.trans (Paired.length r2))
  exact PySem.W.keq_eq (r := true) (knd := mixKind X.prog X.w) y1 y2 g1 g2 hu (fun _ => hits_all r2 r1 hp) (fin_bl I q (by rw [hz, beq_self_eq_true]; rfl))
theorem op_dkNe (hu : X.A.units < cLine) : OpR X (compareOp .NotEq) (rDkE false) := fun pins s σ H x y v u Q I rx ry ⟨m, n, us, ws, ex, ey, hm, hn, hl, hp, q⟩ => by
  subst ex ey
  have ev : v = Value.ref m := rx
  have eu : u = Value.ref n := ry
  subst ev eu
  obtain ⟨_, y1, v1, r1, g1⟩ := dk_rd I.hok hm
  obtain ⟨_, y2, v2, r2, g2⟩ := dk_rd I.hok hn
  have hz : v1.length = v2.length := (Paired.length r1).symm.trans (hl.trans (Paired.length r2))
  exact PySem.W.keq_ne (r := true) (knd := mixKind X.prog X.w) y1 y2 g1 g2 hu (fun _ => hits_all r2 r1 hp) (fin_bl I q (by rw [hz, beq_self_eq_true]; rfl))
theorem DnK.intv {B : Hp} : ∀ {kvs : List (Key × V)} {zs : List (Key × Int)}, DnK K B kvs (zs.map fun q => (q.1, D.int q.2)) → kvs = zs.map fun q => (q.1, V.int q.2)
  | [], [], _ => rfl
  | _, q :: zs, .cons (.int _) t => by rw [List.map_cons, ← DnK.intv t]
theorem valV_map {zs : List (Key × Int)} {k : Key} {n : Int} (h : (zs.find? fun q => decide (q.1 = k)).map (·.2) = some n) : valV (zs.map fun q => (q.1, V.int q.2)) k = some (.int n) := by
  unfold valV
  rw [List.find?_map]
  obtain ⟨q, e1, rfl⟩ := Option.map_eq_some_iff.mp h
  rw [show ((fun kv : Key × V => decide (kv.1 = k)) ∘ fun q : Key × Int => (q.1, V.int q.2)) = fun q => decide (q.1 = k) from rfl, e1]
  rfl
theorem rop_dk {g : Bool} {us ws : List (Key × Int)} (hl : us.length = ws.length) (h : ∀ q ∈ us, (ws.find? fun z => decide (z.1 = q.1)).map (·.2) = some q.2) : ROp K (rDkE g) (.dk (us.map fun q => (q.1, D.int q.2))) (.dk (ws.map fun q => (q.1, D.int q.2))) (.bl g) := fun B H v1 v2 Q s h1 h2 q => by
  cases h1 with
  | @dk m k1 _ e1 r1 =>
    cases h2 with
    | @dk n k2 _ e2 r2 =>
      have z1 := r1.intv
      have z2 := r2.intv
      subst z1 z2
      refine ⟨m, n, _, _, rfl, rfl, s.dkr e1, s.dkr e2, by rw [List.length_map, List.length_map, hl], fun y hy => ?_, q _ (.bl _)⟩
      obtain ⟨z, hz, rfl⟩ := List.mem_map.mp hy
      exact ⟨valV_map (h z hz), rfl⟩
def SameDk (us ws : List (Key × Int)) : Prop := us.length = ws.length ∧ ∀ q ∈ us, (ws.find? fun z => decide (z.1 = q.1)).map (·.2) = some q.2
theorem cd_eqDk {us ws : List (Key × Int)} (hu : X.A.units < cLine) (h : SameDk us ws) : CmpD X .Eq (.dk (us.map fun q => (q.1, D.int q.2))) (.dk (ws.map fun q => (q.1, D.int q.2))) true := ⟨_, op_dkEq hu, rop_dk h.1 h.2⟩
theorem cd_neDk {us ws : List (Key × Int)} (hu : X.A.units < cLine) (h : SameDk us ws) : CmpD X .NotEq (.dk (us.map fun q => (q.1, D.int q.2))) (.dk (ws.map fun q => (q.1, D.int q.2))) false := ⟨_, op_dkNe hu, rop_dk h.1 h.2⟩

/-! ### a row out of a new list of lists -/
theorem de_ixLL (h : DE X e Δ (.ow oa (rLL dss)) Δ1) (h' : DX X b Δ1 (.int i)) (e' : L2.atI dss i = some ds) (hs : PlainIx b := by exact fun _ _ => rfl) : DE X (.Subscript e b pos) Δ (.ow none (rLst ds)) Δ1 := fun B H F σ a Q q => by
  refine ⟨_, pe_ix ix_list (pe_w e) (pe_w b) hs, h B H F σ a _ fun v B1 H1 F1 s1 a1 => ?_⟩
  obtain ⟨G, F0, ef, ok, pp, ⟨l, as, ev, eg, e1, il⟩, sl0⟩ := a1.sl.heads
  subst ef ev eg
  have nd := List.nodup_append.mp a1.nd
  have a0 : At X.K B1 H1 F0 Δ1 σ := ⟨a1.sub, sl0, nd.2.1, fun z m => a1.out z (List.mem_append_right _ m)⟩
  obtain ⟨w, h4, h5⟩ := h' B1 H1 F0 σ a0
  cases h4
  unfold L2.atI at e'
  cases hx : ixN dss.length i with
  | none => rw [hx] at e'; cases e'
  | some m =>
    rw [hx] at e'
    have e' : dss[m]? = some ds := e'
    obtain ⟨p, vs, g1, g2, g3⟩ := il.get e'
    refine h5 H1 (.inl rfl) _ ⟨l, _, i, .ref p, rfl, rfl, SqL.of e1, ?_, ?_⟩
    · unfold L2.atI
      rw [List.length_map, il.length, hx]
      show (as.map V.ref)[m]? = _
      rw [List.getElem?_map, g1]
      rfl
    · have pm : p ∈ l :: as := List.mem_cons_of_mem _ (List.mem_of_getElem? g1)
      have mem : ∀ z ∈ [p] ++ F0, z ∈ (l :: as) ++ F0 := fun z m => by
        rcases List.mem_append.mp m with m | m
        · rw [List.mem_singleton.mp m]
          exact List.mem_append_left _ pm
        · exact List.mem_append_right _ m
      refine q (.ref p) B1 H1 ([p] ++ F0) (s1.less mem) ⟨a1.sub, .ow rLst_ok nofun ⟨p, vs, rfl, rfl, g2, g3⟩ sl0, ?_, fun z m => a1.out z (mem z m)⟩
      exact List.nodup_append.mpr ⟨List.nodup_cons.mpr ⟨List.not_mem_nil, List.nodup_nil⟩, nd.2.1, fun z m y n => by
        rw [List.mem_singleton.mp m]
        exact nd.2.2 p pm y n⟩
end
end DL
set_option Elab.async false
set_option linter.all false
set_option maxRecDepth 100000
set_option maxHeartbeats 4000000
/-! DL12: a tuple that holds a list of one's own -/
namespace DL
open PySem PySem.Spec PyProof.Rows L2
section
variable {K : PySem.W.Frag} {B B' H H' : Hp} {d : D} {ds : List D}
def rRaw (a : Addr) (o : HO) : ResT := fun K B H v F => v = .ref a ∧ F = [a] ∧ H a = some o
theorem rRaw_ok {a : Addr} {o : HO} : ROk (rRaw a o) where
  mono := fun _ h => h
  loc := fun k ⟨h1, h2, h3⟩ => ⟨h1, h2, k a (by rw [h2]; exact List.mem_cons_self ..) _ h3⟩
  there := fun ⟨h1, h2, h3⟩ b m => by
    rw [h2] at m
    rw [List.mem_singleton.mp m, h3]
    exact nofun
def rTL (d : D) (ds : List D) : ResT := fun K B H v F => ∃ a b u vs, v = .ref a ∧ F = [a, b] ∧ H a = some (.tup [u, .ref b]) ∧ Dn K B u d ∧ H b = some (.lst vs) ∧ DnA K B vs ds
theorem rTL_ok : ROk (rTL d ds) where
  mono := fun e ⟨a, b, u, vs, h1, h2, h3, h4, h5, h6⟩ => ⟨a, b, u, vs, h1, h2, h3, h4.mono e, h5, h6.mono e⟩
  loc := fun k ⟨a, b, u, vs, h1, h2, h3, h4, h5, h6⟩ => ⟨a, b, u, vs, h1, h2, k a (by rw [h2]; simp) _ h3, h4, k b (by rw [h2]; simp) _ h5, h6⟩
  there := fun ⟨a, b, u, vs, h1, h2, h3, h4, h5, h6⟩ z m => by
    rw [h2] at m
    rcases List.mem_cons.mp m with rfl | m
    · rw [h3]; exact nofun
    · rw [List.mem_singleton.mp m, h5]; exact nofun
theorem frz_tl : Frz (rTL d ds) (.tup [d, .lst ds]) := fun K B H v G ⟨a, b, u, vs, h1, h2, h3, h4, h5, h6⟩ out => by
  subst h1 h2
  have ne : a ≠ b := fun z => by rw [z, h5] at h3; cases h3
  obtain ⟨k1, k2, k3⟩ := frz1 (out b (by simp)) h5
  have na : upd B b (.lst vs) a = none := by rw [upd_ne ne]; exact out a (by simp)
  obtain ⟨g1, g2, g3⟩ := frz1 (o := .tup [u, .ref b]) na h3
  refine ⟨_, fun z o q => g1 z o (k1 z o q), fun z m => ?_, fun z o q => ?_, .tup upd_same (.cons ((h4.mono k1).mono g1) (.cons (.lst (g1 b _ upd_same) ((h6.mono k1).mono g1)) .nil))⟩
  · rcases g2 z m with y | y
    · exact (k2 z y).imp id fun w => by simp at w; simp [w]
    · exact .inr (by simp at y; simp [y])
  · rcases g3 z o q with y | y
    · exact k3 z o y
    · exact .inr y
theorem At.tl {F : List Addr} {Δ : List Sk} {σ : L2.St} {n : Nat} {oa : Option V} (h : At K B H F Δ σ) (hi : Δ[n]? = some (.ow oa (rTL d ds))) : ∃ a b u vs, σ[n]? = some (some (.ref a)) ∧ H a = some (.tup [u, .ref b]) ∧ Dn K B u d ∧ H b = some (.lst vs) ∧ DnA K B vs ds := by
  obtain ⟨v, G, F1, F2, e1, e2, ok, pp, ⟨a, b, u, vs, h1, h2, h3, h4, h5, h6⟩, sl⟩ := h.sl.get_ow hi
  subst h1
  exact ⟨a, b, u, vs, e1, h3, h4, h5, h6⟩
theorem At.writeTL {F : List Addr} {Δ : List Sk} {σ : L2.St} {n : Nat} {oa : Option V} {a b : Addr} {u : V} {us : List V} {ds' : List D} (h : At K B H F Δ σ) (hi : Δ[n]? = some (.ow oa (rTL d ds))) (hs : σ[n]? = some (some (.ref a))) (h3 : H a = some (.tup [u, .ref b])) (hb : H b ≠ none) (r : DnA K B us ds') :
    ∃ F', Stp B H F B (upd H b (.lst us)) F' ∧ At K B (upd H b (.lst us)) F' (Δ.set n (.ow oa (rTL d ds'))) σ := by
  refine h.writeG (R' := rTL d ds') hi hs rTL_ok (fun G _ ⟨a', b', u', vs', q1, q2, q3, q4, q5, q6⟩ => ?_) fun z y => ?_
  · cases q1
    rw [h3] at q3
    cases q3
    have ne : a ≠ b := fun z => by rw [z, q5] at h3; cases h3
    refine ⟨⟨a, b, u, us, rfl, q2, by rw [upd_ne ne]; exact h3, q4, upd_same, r⟩, fun z m => upd_ne fun e => m ?_⟩
    rw [q2, e]
    simp
  · by_cases e : z = b
    · rw [e, upd_same]; exact nofun
    · rw [upd_ne e]; exact y
end
section
variable {X : Cx} {K : PySem.W.Frag} {B B' H H' : Hp} {e e0 e1 : Expr} {es : List Expr} {Δ Δ1 Δ2 : List Sk} {d dd : D} {ds xs xs' : List D} {p p1 p2 pos apos cpos : Pos} {oa : Option V} {x : Str}
theorem de_tupL {x1} (h0 : DV X e0 Δ d Δ1) (h1 : DE X e1 Δ1 (.ow oa (rLst ds)) Δ2) (hs : starEach [e0, e1] X.env = (false, eval e0 X.env) :: starEach [e1] X.env := by rfl) (hs1 : starEach [e1] X.env = (false, eval e1 X.env) :: starEach [] X.env := by rfl) : DE X (.Tuple [e0, e1] x1 pos) Δ (.ow none (rTL d ds)) Δ2 := fun B H F σ a Q k => by
  refine ⟨_, pe_tup (x1 := x1) (pa_cons (pe_w e0) (pa_cons (pe_w e1) pa_nil hs1) hs), h0.run a fun v B1 H1 F1 s1 r1 a1 => h1 B1 H1 F1 σ a1 _ fun w B2 H2 F2 s2 a2 => ⟨by show 2 ≤ _; decide, fun q hq => ?_⟩⟩
  obtain ⟨s3, a3⟩ := a2.made (o := .tup [v, w]) (R := rRaw q (.tup [v, w])) hq rRaw_ok ⟨rfl, rfl, upd_same⟩
  obtain ⟨G1, F3, e1, ok1, _, ⟨q1, q2, q3⟩, sl1⟩ := a3.sl.heads
  obtain ⟨G2, F4, e2, ok2, _, ⟨b, vs, q4, q5, q6, q7⟩, sl2⟩ := sl1.heads
  subst q2 q5 e2 q4
  have nd := a3.nd
  have out := a3.out
  rw [e1] at nd out
  refine k (.ref q) B2 _ ([q, b] ++ F4) ((s1.trans s2).trans (s3.less fun z m => by rw [e1]; exact m)) ⟨a3.sub, .ow rTL_ok nofun ⟨q, b, v, vs, rfl, rfl, q3, r1.mono s2.sub, q6, q7⟩ sl2, nd, out⟩
theorem de_mtTL {name : Str} {id : String} {d0 : D} {j : Nat} (n : Nat) (pa : PlainAttrs "list") (slot : Slot "list" name id) (hty : typeOf (.builtin id) = pure (.type "method_descriptor")) (hN : X.N[n]? = some x) (hv : Vis X.env.scope x)
    (hi : Δ[n]? = some (.ow oa (rTL d0 xs))) (ha : DX X e Δ d) (m : MtL X id xs [d] dd xs')
    (hbase : attributeBase (.Subscript (.Name x p) (.Constant (.int 1) j p1) p2) name X.env (eval (.Subscript (.Name x p) (.Constant (.int 1) j p1) p2) X.env) = eval (.Subscript (.Name x p) (.Constant (.int 1) j p1) p2) X.env := by rfl)
    (hfew : ((backTo cpos (starEach [e] X.env)).all (fun x => !x.1) && (backToKw cpos (keywordEach [] X.env)).all (fun x => x.1.isSome) && decide ([e].length + ([] : List Keyword).length + (if ([] : List Keyword).isEmpty then 0 else 1) < 30)) = true := by rfl)
    (hline : (apos.endLine == cpos.line) = true := by rfl) (hs : starEach [e] X.env = (false, eval e X.env) :: starEach [] X.env := by rfl) (hplain : (backTo cpos (starEach [] X.env)).any (·.1) = false := by rfl)
    (hd : (x == ("__debug__" : Str)) = false := by decide) (hcd : (x == ("__classdict__" : Str)) = false := by decide) (hix : PlainIx (.Constant (.int 1) j p1) := by exact fun _ _ => rfl) :
    DV X (.Call (.Attribute (.Subscript (.Name x p) (.Constant (.int 1) j p1) p2) name apos) [e] [] cpos) Δ dd (Δ.set n (.ow oa (rTL d0 xs'))) := DE.of fun B H F σ a Q k => by
  obtain ⟨r, hm, hr⟩ := m
  obtain ⟨t, l, u, vs, g1, g2, g3, g4, g5⟩ := a.tl hi
  obtain ⟨w, w1, w2⟩ := ha B H F σ a
  refine ⟨_, pe_bm pa slot hty hm (pe_ix ix_tup (pe_var hN hv hd hcd) pe_int hix) (pa_cons (pe_w e) pa_nil hs) hbase hfew hline hs hplain, .ref t, g1, t, [u, .ref l], 1, .ref l, rfl, rfl, SqT.of g2, rfl, .inl ⟨rfl, _, SqL.of g4⟩, w2 H (.inl rfl) _ (hr B H l vs [w] Q a.sub g4 g5 (.cons w1 .nil) fun v us y1 y2 => ?_)⟩
  obtain ⟨F', s3, a3⟩ := a.writeTL hi g1 g2 (by rw [g4]; exact nofun) y1
  exact k v _ _ _ s3 (y2 H).1 a3
theorem de_mtTL0 {name : Str} {id : String} {d0 : D} {j : Nat} (n : Nat) (pa : PlainAttrs "list") (slot : Slot "list" name id) (hty : typeOf (.builtin id) = pure (.type "method_descriptor")) (hN : X.N[n]? = some x) (hv : Vis X.env.scope x)
    (hi : Δ[n]? = some (.ow oa (rTL d0 xs))) (m : MtL X id xs [] dd xs')
    (hbase : attributeBase (.Subscript (.Name x p) (.Constant (.int 1) j p1) p2) name X.env (eval (.Subscript (.Name x p) (.Constant (.int 1) j p1) p2) X.env) = eval (.Subscript (.Name x p) (.Constant (.int 1) j p1) p2) X.env := by rfl)
    (hline : (apos.endLine == cpos.line) = true := by rfl)
    (hd : (x == ("__debug__" : Str)) = false := by decide) (hcd : (x == ("__classdict__" : Str)) = false := by decide) (hix : PlainIx (.Constant (.int 1) j p1) := by exact fun _ _ => rfl) :
    DV X (.Call (.Attribute (.Subscript (.Name x p) (.Constant (.int 1) j p1) p2) name apos) [] [] cpos) Δ dd (Δ.set n (.ow oa (rTL d0 xs'))) := DE.of fun B H F σ a Q k => by
  obtain ⟨r, hm, hr⟩ := m
  obtain ⟨t, l, u, vs, g1, g2, g3, g4, g5⟩ := a.tl hi
  refine ⟨_, pe_bm0 pa slot hty hm (pe_ix ix_tup (pe_var hN hv hd hcd) pe_int hix) hbase hline, .ref t, g1, t, [u, .ref l], 1, .ref l, rfl, rfl, SqT.of g2, rfl, .inl ⟨rfl, _, SqL.of g4⟩, hr B H l vs [] Q a.sub g4 g5 .nil fun v us y1 y2 => ?_⟩
  obtain ⟨F', s3, a3⟩ := a.writeTL hi g1 g2 (by rw [g4]; exact nofun) y1
  exact k v _ _ _ s3 (y2 H).1 a3
end
end DL
set_option Elab.async false
set_option linter.all false
set_option maxRecDepth 100000
set_option maxHeartbeats 4000000
/-! DL13: list(d), list(d.values()) -/
namespace DL
open PySem PySem.Spec PyProof.Rows L2
section
variable {X : Cx} {K : PySem.W.Frag} {e : Expr} {es : List Expr} {Δ Δ1 Δ2 : List Sk} {d : D} {p pos apos cpos : Pos}
theorem kv_vals : ∀ {us : List (Key × V)} {ws : List (Key × Value)}, KV us ws → Vals (us.map (·.2)) (ws.map (·.2))
  | _, _, .nil => .nil
  | _, _, .cons r t => .cons r.2 (kv_vals t)
def tVls (te : TE) : TE := fun σ H Q => te σ H fun x H1 => ∃ (m : Addr) (us : List (Key × V)), x = .ref m ∧ Rd H1 m (.dK us) ∧ ∀ l, H1 l = none → Q (.ref l) (upd H1 l (.lst (us.map (·.2))))
theorem pe_vls {te : TE} (cm : X.calm = true) (ht : PE X e te) (hg : Gl X "list") (hm : X.mg "list" = none) (bb : attributeBase e "values" X.env (eval e X.env) = eval e X.env := by rfl) (hn : (apos.endLine == cpos.line) = true := by rfl)
    (st : starEach [.Call (.Attribute e "values" apos) [] [] cpos] X.env = (false, eval (.Call (.Attribute e "values" apos) [] [] cpos) X.env) :: starEach [] X.env := by rfl) : PE X (.Call (.Name "list" p) [.Call (.Attribute e "values" apos) [] [] cpos] [] pos) (tVls te) := ⟨fun pins s σ H Q I hq => by
  refine wpAny_Call_Name_kw (ld_blt I hg hm (show bootBuiltins "list" = some (.type "list") by first | rfl | decide +kernel) (PyProof.Rows.callWith_type1 ?_ st rfl))
  rw [st]
  refine (show wpAny _ _ (spliced ((false, eval (.Call (.Attribute e "values" apos) [] [] cpos) X.env) :: backTo pos (starEach [] X.env))) _ _ s from Calls.spliced_cons ?_)
  refine wpAny_Call_method (T := "dict") (id := "dict.values") bb rfl hn PySem.F.plainAttrs_dict PySem.F.slot_dict_values PySem.F.type_dict_values (thn (ht.run pins s σ H _ I hq) fun u s1 ⟨x, H1, J, rx, m, us, ex, rd, q⟩ => ?_)
  subst ex
  have eu : u = Value.ref m := rx
  subst eu
  obtain ⟨z0, z1, ws, kv, mp⟩ := dk_rd J.hok rd
  obtain ⟨ep, da⟩ := mp.dictAt
  have J2 : Inv X pins σ H1 { s1 with heap := s1.heap.push { cls := .type "dict_values", data := .fields #[.ref m] } } := J.kept (t' := s1.toks) fun b ob y => Heap.get?_push_of_some _ y
  refine ⟨mp.typeIs, mp.mapOf.noDict, (show wpAny _ _ (callWith cpos (.builtin "dict.values") [.ref m] [] []) _ X.xe s1 from ?_)⟩
  refine method_meetsIn PySem.F.slot_dict_values PySem.F.entry_dict_values rfl (PySem.evalArgs_none ⟨rfl, mp.typeIs, PySem.F.args_dict_values_1 _, _, meets_dict_values (mixKind X.prog X.w) m z1, ⟨ws, mp⟩, Calls.spliced_nil ?_⟩)
  refine PySem.W.kdl_call (PySem.W.kdl_values (knd := mixKind X.prog X.w) (kvs := ws) (ep := ep)) (J.ok.hd cm) ⟨⟨_, Heap.get?_push_size _ rfl, rfl, rfl⟩, da.push _⟩ (by rw [← Paired.length kv]; exact z0) fun h' tk acc c hk hS hacc => ?_
  have ea : acc.toList = ws.map (·.2) := PySem.W.kdl_vals_eq acc.toList (by rw [Array.length_toList]; exact hacc.1) fun j v y => hacc.2 j v (by rw [← Array.getElem?_toList]; exact y)
  refine ⟨.ref _, upd H1 _ (.lst (us.map (·.2))), J2.laid (t' := tk) hk (Nat.le_refl _) (show ObjOk X.prog X.w _ _ _ (.lst (us.map (·.2))) from ⟨by rw [List.length_map]; exact z0, acc.toList, c, by rw [ea]; exact kv_vals kv, by rw [Array.toArray_toList]; exact hS⟩), rfl, q _ (J2.hok.fresh (Nat.le_refl _))⟩⟩
theorem DnK.vals {B : Hp} : ∀ {us : List (Key × V)} {es : List (Key × D)}, DnK K B us es → DnA K B (us.map (·.2)) (es.map (·.2))
  | _, _, .nil => .nil
  | _, _, .cons r t => .cons r (DnK.vals t)
theorem DnA.of_keys {B : Hp} : ∀ ks : List Key, DnA K B (ks.map kV) (ks.map kD)
  | [] => .nil
  | .inl i :: r => .cons (.int i) (DnA.of_keys r)
  | .inr x :: r => .cons (.str x) (DnA.of_keys r)
theorem DnK.fst {B : Hp} : ∀ {us : List (Key × V)} {es : List (Key × D)}, DnK K B us es → us.map (·.1) = es.map (·.1)
  | _, _, .nil => rfl
  | _, _, .cons _ t => by rw [List.map_cons, List.map_cons, DnK.fst t]
/-- list(d.values()) -/
theorem de_vls {us : List (Key × D)} (cm : X.calm = true) (h : DV X e Δ (.dk us) Δ1) (hm : X.mg "list" = none) (hg : Gl X "list" := by rfl) (bb : attributeBase e "values" X.env (eval e X.env) = eval e X.env := by rfl) (hn : (apos.endLine == cpos.line) = true := by rfl)
    (st : starEach [.Call (.Attribute e "values" apos) [] [] cpos] X.env = (false, eval (.Call (.Attribute e "values" apos) [] [] cpos) X.env) :: starEach [] X.env := by rfl) :
    DE X (.Call (.Name "list" p) [.Call (.Attribute e "values" apos) [] [] cpos] [] pos) Δ (.ow none (rLst (us.map (·.2)))) Δ1 := fun B H F σ a Q k =>
  ⟨_, pe_vls cm (pe_w e) hg hm bb hn st, h.run a fun v B1 H1 F1 s1 r1 a1 => by
    cases r1 with
    | @dk m ws _ e1 r1 =>
      refine ⟨m, ws, rfl, a1.sub.dkr e1, fun l hl => ?_⟩
      obtain ⟨s2, a2⟩ := a1.made (o := .lst (ws.map (·.2))) (R := rLst (us.map (·.2))) hl rLst_ok ⟨l, _, rfl, rfl, upd_same, r1.vals⟩
      exact k _ _ _ _ (s1.trans s2) a2⟩
/-- list(d): the keys -/
theorem cn_listDk {us : List (Key × D)} (cm : X.calm = true) : CalN X (.type "list") [.dk us] ((us.map (·.1)).map kD) := ⟨_, call_listD cm, fun B H vs Q s h q => by
  obtain ⟨v, rfl, r⟩ := h.one'
  cases r with
  | @dk m ws _ e1 r1 =>
    refine ⟨m, ws, rfl, s.dkr e1, fun l hl => ?_⟩
    have e2 : (ws.map fun kv => kV kv.1) = ((us.map (·.1)).map kV) := by rw [← r1.fst, List.map_map]; rfl
    rw [e2]
    exact q l _ hl (DnA.of_keys _)⟩
/-! ### displays of keys and values that change nothing -/
def DPx (X : Cx) (pos : Pos) (ks : List (Option Expr)) (vs : List Expr) (Δ : List Sk) (es : List (Key × D)) : Prop := ∃ trs, PPs X pos ks vs trs ∧ ∀ B H F σ, At X.K B H F Δ σ → ∃ us : List (Key × V), DnK X.K B us es ∧ ∀ Q, Q (us.map fun kv => (kV kv.1, kv.2)) H → tPairs trs σ H Q
theorem dpx_nil : DPx X pos [] [] Δ [] := ⟨[], pps_nil, fun B H F σ a => ⟨[], .nil, fun Q q => q⟩⟩
theorem dpx_cons {a b : Expr} {ks : List (Option Expr)} {vs : List Expr} {k : Key} {es : List (Key × D)} (h : DX X a Δ (kD k)) (h' : DX X b Δ d) (r : DPx X pos ks vs Δ es) : DPx X pos (some a :: ks) (b :: vs) Δ ((k, d) :: es) := by
  obtain ⟨trs, t1, t2⟩ := r
  refine ⟨_, pps_cons (pe_w a) (pe_w b) t1, fun B H F σ at0 => ?_⟩
  obtain ⟨u, u1, u2⟩ := h B H F σ at0
  obtain ⟨w, w1, w2⟩ := h' B H F σ at0
  obtain ⟨us, r1, r2⟩ := t2 B H F σ at0
  refine ⟨(k, w) :: us, .cons w1 r1, fun Q q => u2 H (.inl rfl) _ (w2 H (.inl rfl) _ (r2 _ ?_))⟩
  rw [u1.key]
  exact q
theorem DnK.merge {B : Hp} : ∀ {us ws : List (Key × V)} {es fs : List (Key × D)}, DnK K B us es → DnK K B ws fs → DnK K B (mergeK us ws) (fs.foldl (fun m q => putD m q.1 q.2) es)
  | _, _, _, _, h, .nil => h
  | us, _, es, _, h, @DnK.cons _ _ k v vs d ds r t => by
    show DnK K B (mergeK (putK us k v) vs) (ds.foldl (fun m q => putD m q.1 q.2) (putD es k d))
    exact DnK.merge (h.put k r) t
theorem de_dispX {keys : List (Option Expr)} {values : List Expr} {es : List (Key × D)} (h : DPx X pos keys values Δ es) (hall : keys.all (·.isSome) = true) (hl : keys.length = values.length) (h0 : keys ≠ []) (h15 : keys.length ≤ 15) (h16 : es.length ≤ 15) :
    DE X (.Dict keys values pos) Δ (.ow none (rDk (es.foldl (fun m q => putD m q.1 q.2) []))) Δ := fun B H F σ a' Q q => by
  obtain ⟨trs, t1, t2⟩ := h
  refine ⟨_, pe_disp t1 hall hl h0 h15, fun p hp => ?_⟩
  obtain ⟨s0, a0⟩ := a'.made (o := .dK []) (R := rDk []) hp rDk_ok ⟨p, [], rfl, rfl, upd_same, .nil⟩
  obtain ⟨F0, at0, _⟩ := a0.drop
  obtain ⟨us, r1, r2⟩ := t2 B _ F0 σ at0
  refine r2 _ ⟨upd_same, us, rfl, by rw [r1.length]; exact h16, ?_⟩
  obtain ⟨s4, a4⟩ := a0.write (i := 0) (o := .dK (mergeK [] us)) (R' := rDk (es.foldl (fun m q => putD m q.1 q.2) [])) rfl rfl (fun G => rDk_foot) rDk_ok ⟨p, _, rfl, rfl, upd_same, DnK.merge .nil r1⟩
  exact q _ _ _ _ (s0.trans s4) a4
/-- d.get(k, 0), a dict of ints -/
theorem de_dget2I {a b f : Expr} {d1 d2 : D} {o : Option Int} {i0 : Int} {Δ3 : List Sk} (hu : X.A.units + 1 < cLine) (h : DV X a Δ d1 Δ1) (h' : DV X b Δ1 d2 Δ2) (h'' : DV X f Δ2 (.int i0) Δ3) (l : Look d1 d2 (o.map D.int)) (m : M2 X a "get" apos b f cpos := by exact ⟨rfl, rfl, rfl, rfl⟩) : DV X (.Call (.Attribute a "get" apos) [b, f] [] cpos) Δ (.int (o.getD i0)) Δ3 := by
  have := de_dget2 hu h h' h'' l m
  cases o <;> exact this
end
end DL
set_option Elab.async false
set_option linter.all false
set_option maxRecDepth 100000
set_option maxHeartbeats 4000000
/-! DL14: [a new list for tg in iter], xs.pop(), xs == [] -/
namespace DL
open PySem PySem.Spec PyProof.Rows L2
section
variable {X : Cx} {K : PySem.W.Frag} {B B' H H' : Hp} {e elt iter tg : Expr} {Δ Δ' Δ1 Δ2 : List Sk} {d : D} {ds ys : List D} {pos p : Pos} {x : Str}
theorem At.rLLa_head {F : List Addr} {l : Addr} {as : List Addr} {dss : List (List D)} {v : V} {σ : L2.St} (h : At K B H F (.ow none (rLLa l as dss) :: Δ) (some v :: σ)) : ∃ F0, F = (l :: as) ++ F0 ∧ v = .ref l ∧ H l = some (.lst (as.map V.ref)) ∧ InL K B H as dss ∧ Sl K B H Δ σ F0 := by
  obtain ⟨G, F0, e, ok, _, ⟨h1, h2, h3, h4⟩, sl⟩ := h.sl.heads
  subst h2
  exact ⟨F0, e, h1, h3, h4, sl⟩
/-- a new list goes to the end of a list of lists that stands on top -/
theorem At.grow {F : List Addr} {l : Addr} {as : List Addr} {dss : List (List D)} {w : V} {σ : L2.St} {oa : Option V} (h : At K B H F (.ow none (rLLa l as dss) :: .ow oa (rLst ds) :: Δ) (some (.ref l) :: some w :: σ)) :
    ∃ p, w = .ref p ∧ H l = some (.lst (as.map V.ref)) ∧ Stp B H F B (upd H l (.lst ((as ++ [p]).map V.ref))) F ∧ At K B (upd H l (.lst ((as ++ [p]).map V.ref))) F (.ow none (rLLa l (as ++ [p]) (dss ++ [ds])) :: Δ) (some (.ref l) :: σ) := by
  obtain ⟨F0, e, _, h3, h4, sl⟩ := h.rLLa_head
  obtain ⟨G, F1, e1, ok, _, ⟨p, vs, h5, h6, h7, h8⟩, sl1⟩ := sl.heads
  subst h6 e1 e h5
  have nd := h.nd
  rw [List.cons_append] at nd
  have nl := List.nodup_cons.mp nd
  have np : p ≠ l := fun z => nl.1 (by rw [← z]; simp)
  have loc : ∀ a, a ≠ l → upd H l (.lst ((as ++ [p]).map V.ref)) a = H a := fun a n => upd_ne n
  have s : Stp B H ((l :: as) ++ ([p] ++ F1)) B (upd H l (.lst ((as ++ [p]).map V.ref))) ((l :: as) ++ ([p] ++ F1)) := .chg (fun a m => loc a fun z => m (by rw [z]; simp)) (fun a q => by
    by_cases z : a = l
    · rw [z, upd_same]; exact nofun
    · rw [loc a z]; exact q) fun a m => m
  refine ⟨p, rfl, h3, s, ?_⟩
  have eF : (l :: as) ++ ([p] ++ F1) = (l :: (as ++ [p])) ++ F1 := by simp
  refine ⟨h.sub.chg (F := (l :: as) ++ ([p] ++ F1)) (fun a m => loc a fun z => m (by rw [z]; simp)) h.out, ?_, h.nd, h.out⟩
  rw [eF]
  refine .ow rLLa_ok nofun ⟨rfl, rfl, upd_same, InL.append (h4.loc fun a m o q => ?_) (.cons (by rw [loc p np]; exact h7) h8 .nil)⟩ (sl1.frame (Same.refl _) fun a m o q => ?_)
  · rw [loc a fun z => nl.1 (by rw [← z]; simp [m])]; exact q
  · rw [loc a fun z => nl.1 (by rw [← z]; simp [m])]; exact q
def DLcR (X : Cx) (e : Expr) (Δ : List Sk) (R : ResT) (Δ' : List Sk) : Prop := ∀ B H F σ, At X.K B H F Δ σ → ∀ Q : VK,
  (∀ v B' H' F', Stp B H F B' H' F' → At X.K B' H' F' (.ow none R :: Δ') (some v :: σ) → Q v H') → wL X e σ H Q
theorem DLcR.de {e : Expr} {R : ResT} (h : DLcR X e Δ R Δ1) : DE X e Δ (.ow none R) Δ1 := fun B H F σ a Q q => (h B H F σ a Q q).we
theorem ds_setLcR {P : Pst} {e : Expr} {R : ResT} {x : Str} (i : Nat) {pos pos' : Pos} (h : DLcR X e Δ R Δ1) (q : P.nx (Δ1.set i (.ow none R))) (hi : X.N[i]? = some x) (hx : X.env.scope.names.lookup x = some .local) (hs : swapsWith e (some (.Name x pos')) (Pos.line pos) X.env = pure true) : DS X (.Assign [.Name x pos'] e pos) Δ P := fun B H F σ a D m => by
  obtain ⟨t, p, r⟩ := h B H F σ a (fun v H' => D.nx (σ.set i (some v)) H') fun v B' H' F' s a' => by
    obtain ⟨F2, a2, mm⟩ := a'.store i
    exact m.nx _ _ B' H' F2 q (s.less mm) a2
  exact ⟨_, p.ps i x pos' pos hi hx hs, r⟩
theorem dl_lcL {scope : Scope} {own : List (Str × Nat)} (f : Nat → List D) (hi : DI X tg iter Δ ys Δ1) (hc : X.calm = true) (hN : X.N.Nodup) (ok : BlkOk X.N X.env.scope scope own) (hlen : ys.length ≤ 100000)
    (ht : ∀ i d, ys[i]? = some d → ∃ Δa js Δc, (∀ s H C cl fp, DG (X.blk s H scope (compEnvC scope cl C X.env) fp) tg d (hide Δ1 (own.map (·.2))) Δa js) ∧ (∀ j ∈ js, j ∈ own.map (·.2)) ∧
      (∀ s H C cl fp, DE (X.blk s H scope (compEnvC scope cl C X.env) fp) elt Δa (.ow none (rLst (f i))) Δc) ∧ hide Δc (own.map (·.2)) = hide Δ1 (own.map (·.2)))
    (hΔ : ∀ j ∈ own.map (·.2), (hide Δ1 (own.map (·.2)))[j]? = some .un ∨ (hide Δ1 (own.map (·.2)))[j]? = none)
    (hs : ∀ x, foldedSetIterable iter X.env x = pure x := by intro _; rfl) : DLcR X (.ListComp elt [⟨tg, iter, [], 0⟩] scope pos) Δ (rLL ((List.range ys.length).map f)) (hide Δ1 (own.map (·.2))) := fun B H F σ a Q q => by
  let vs := own.map (·.2)
  let g : TG := fun v σ H Q => ∀ s H0 C cl fp, wG (X.blk s H0 scope (compEnvC scope cl C X.env) fp) tg v σ H Q
  let tt : TT := fun σ H Q => ∀ s H0 C cl fp, ∃ t, PTs (X.blk s H0 scope (compEnvC scope cl C X.env) fp) [] t ∧ t σ H Q
  let te : TE := fun σ H Q => ∀ s H0 C cl fp, wE (X.blk s H0 scope (compEnvC scope cl C X.env) fp) elt σ H Q
  have hg : ∀ s H0 C cl fp, PG (X.blk s H0 scope (compEnvC scope cl C X.env) fp) tg g := fun s H0 C cl fp => ⟨fun pins s' σ H v u Q I r h => (pg_w tg).run pins s' σ H v u Q I r (h s H0 C cl fp)⟩
  have htt : ∀ s H0 C cl fp, PTs (X.blk s H0 scope (compEnvC scope cl C X.env) fp) [] tt := fun s H0 C cl fp => ⟨fun pins s' σ H Q I h => by
    obtain ⟨t, h1, h2⟩ := h s H0 C cl fp
    exact h1.run pins s' σ H Q I h2⟩
  have hte : ∀ s H0 C cl fp, PE (X.blk s H0 scope (compEnvC scope cl C X.env) fp) elt te := fun s H0 C cl fp => ⟨fun pins s' σ H Q I h => (pe_w elt).run pins s' σ H Q I (h s H0 C cl fp)⟩
  refine ⟨_, ⟨pe_lc hc hN (pi_w tg iter) ok hg htt hte hs, fun i y py spos h1 h2 h3 => ps_setLc hc hN h1 h2 h3 (pi_w tg iter) ok hg htt hte hs⟩, hi B H F σ a _ fun J L B1 H1 F1 s1 a1 it lk D hD => ?_⟩
  obtain ⟨Fh, ah, mh⟩ := a1.hide vs
  obtain ⟨s0, a0⟩ := ah.made (o := .lst []) (R := rLLa D [] []) hD rLLa_ok ⟨rfl, rfl, upd_same, .nil⟩
  have s0' : Stp B1 H1 F1 B1 (upd H1 D (.lst [])) ([D] ++ Fh) := ((Stp.refl (F := F1)).less mh).trans s0
  have lk0 : Lks B1 (upd H1 D (.lst [])) L := lk.keep s0' a1.out
  refine ⟨fun i m H' => m = ys.length - i ∧ i ≤ ys.length ∧ ∃ as B' F', Stp B1 (upd H1 D (.lst [])) ([D] ++ Fh) B' H' F' ∧ At X.K B' H' F' (.ow none (rLLa D as ((List.range i).map f)) :: hide Δ1 vs) (some (.ref D) :: wipe σ vs), ⟨_, rfl, Nat.zero_le _, [], B1, _, .refl, a0⟩, ?_⟩
  rintro i m H' ⟨rfl, hle, as, B', F', s2, a2⟩
  have it' := it B' s2.sub
  have lk' : Lks B' H' L := lk0.keep s2 a0.out
  by_cases hlt : i < ys.length
  · refine .inr ⟨it'.go i H' a2.sub lk' hlt, fun H'' => ∃ as B' F', Stp B1 (upd H1 D (.lst [])) ([D] ++ Fh) B' H'' F' ∧ At X.K B' H'' F' (.ow none (rLLa D as ((List.range (i + 1)).map f)) :: hide Δ1 vs) (some (.ref D) :: wipe σ vs), fun H'' w => ⟨ys.length - (i + 1), by omega, rfl, hlt, w⟩, fun x H'' y => ?_⟩
    obtain ⟨Δa, js, Δc, g1, g2, k1, g5⟩ := ht i ys[i] (List.getElem?_eq_getElem hlt)
    obtain ⟨B3, s3, a3, r3⟩ := a2.yl (it'.yld i H' x H'' _ a2.sub lk' y (List.getElem?_eq_getElem hlt))
    obtain ⟨G, F0, eF, sh, at0⟩ := a3.heads
    intro s H0 C cl fp
    refine g1 s H0 C cl fp B3 H'' F0 _ x at0 r3 _ fun B4 H4 F4 σ4 b4 s4 a4 => ?_
    have e4 : wipe σ4 vs = wipe σ vs := by
      refine wipe_ext (b4.1.trans (wipe_length σ vs)) fun j hj => ?_
      rw [b4.2 j fun m => hj (g2 j m)]
      exact wipe_get hj
    refine ⟨e4, fun s H0 C cl fp => (show DTs (X.blk s H0 scope (compEnvC scope cl C X.env) fp) [] Δa true Δa from dts_nil) B4 H4 F4 σ4 a4 _ fun B5 H5 F5 s5 a5 => ?_⟩
    refine iteT ?_
    intro s H0 C cl fp
    refine k1 s H0 C cl fp B5 H5 F5 σ4 a5 _ fun w B6 H6 F6 s6 a6 => ?_
    obtain ⟨a7, s7⟩ := At.under a3 eF sh ((s4.trans s5).trans s6) a6
    obtain ⟨p7, rfl, h7, s8, a8⟩ := At.grow a7
    have il := a7.rLLa_head.choose_spec.2.2.2.1
    refine ⟨as.map V.ref, h7, ?_, ?_⟩
    · rw [List.length_map, il.length, List.length_map, List.length_range]
      exact Nat.lt_of_lt_of_le (show i < 100000 by omega) (by decide)
    · obtain ⟨G9, F9, e9, sh9, at9⟩ := a8.heads
      obtain ⟨F10, a10, m10⟩ := at9.hide vs
      rw [e4, g5] at a10
      obtain ⟨a11, s11⟩ := At.under a8 e9 sh9 ((Stp.refl).less m10) a10
      have er : (List.range (i + 1)).map f = (List.range i).map f ++ [f i] := by rw [List.range_succ, List.map_append]; rfl
      rw [List.map_append] at a11 s11 s8
      exact ⟨as ++ [p7], B6, _, (((s2.trans s3).trans s7).trans s8).trans s11, by rw [er]; exact a11⟩
  · have e : i = ys.length := by omega
    subst e
    refine .inl ⟨it'.stop _ H' a2.sub lk' (Nat.le_refl _), ?_⟩
    have a3 := a2.swap (i := 0) (R' := rLL ((List.range ys.length).map f)) rLL_ok rfl fun v G _ r => ⟨D, as, r⟩
    refine q (.ref D) B' H' F' ((s1.trans s0').trans s2) ⟨a3.sub, a3.sl.un_all (by simp [wipe_length]) (fun j hj => ?_), a3.nd, a3.out⟩
    cases j with
    | zero => rfl
    | succ j =>
      have hj' : (hide Δ1 vs)[j]? ≠ some .un := by simpa using hj
      show σ[j]? = (wipe σ vs)[j]?
      by_cases hm : j ∈ vs
      · rcases hΔ j hm with z | z
        · exact absurd z hj'
        · have hl := a3.sl.length
          have h1 : (hide Δ1 vs).length ≤ j := List.getElem?_eq_none_iff.mp z
          have h2 : (wipe σ vs).length = (hide Δ1 vs).length := by simpa using hl
          rw [wipe_length] at h2
          rw [List.getElem?_eq_none (by omega), List.getElem?_eq_none (by rw [wipe_length]; omega)]
      · exact (wipe_get hm).symm
theorem mt_popL {xs : List D} (h : xs[xs.length - 1]? = some d) : MtL X "list.pop" xs [] d xs.dropLast := ⟨_, L2.mt_pop, fun B H p vs ws Q s h1 h2 h3 q => by
  cases h3
  obtain ⟨v, e1, r⟩ := h2.get h
  have e2 : vs.dropLast = vs.take (vs.length - 1) := List.dropLast_eq_take
  have e3 : xs.dropLast = xs.take (vs.length - 1) := by rw [h2.length]; exact List.dropLast_eq_take
  exact ⟨p, vs, v, rfl, rfl, h1, by rw [h2.length]; exact e1, q v _ (by rw [e2, e3]; exact h2.take _) fun _ => ⟨r, trivial⟩⟩⟩
theorem dss_frz {P : Pst} {sts : List Stmt} {oa : Option V} {R : ResT} (i : Nat) (hi : Δ[i]? = some (.ow oa R)) (f : Frz R d) (h : DSs X sts (Δ.set i (.im d)) P) : DSs X sts Δ P := fun B H F σ a D m => by
  obtain ⟨v, B', F', e, s, r, a'⟩ := a.freeze hi f
  exact h B' H F' σ a' D (m.step s)
/-- d.clear() -/
theorem de_clrD {us : List (Key × D)} {oa : Option V} {apos cpos : Pos} (i : Nat) (hN : X.N[i]? = some x) (hv : Vis X.env.scope x) (hi : Δ[i]? = some (.ow oa (rDk us)))
    (hbase : attributeBase (.Name x p) "clear" X.env (eval (.Name x p) X.env) = eval (.Name x p) X.env := by rfl) (hline : (apos.endLine == cpos.line) = true := by rfl)
    (hd : (x == ("__debug__" : Str)) = false := by decide) (hcd : (x == ("__classdict__" : Str)) = false := by decide) :
    DV X (.Call (.Attribute (.Name x p) "clear" apos) [] [] cpos) Δ .non (Δ.set i (.ow oa (rDk []))) := DE.of fun B H F σ a Q q => by
  obtain ⟨l, vs, e0, e1, e4⟩ := a.dk hi
  obtain ⟨s2, a2⟩ := a.write (o := .dK []) (R' := rDk []) hi e0 (fun G => rDk_foot) rDk_ok ⟨l, [], rfl, rfl, upd_same, .nil⟩
  exact ⟨_, pe_bm0 PySem.F.plainAttrs_dict PySem.F.slot_dict_clear PySem.F.type_dict_clear mtd_clear (pe_var hN hv hd hcd) hbase hline, .ref l, e0, .inr (.inr (.inl ⟨rfl, .inl ⟨vs, e1⟩⟩)), l, vs, rfl, rfl, e1, q .non _ _ _ s2 .non a2⟩
end
end DL
set_option Elab.async false
set_option linter.all false
set_option maxRecDepth 100000
set_option maxHeartbeats 4000000
/-! DL15: pairs in order sorted -/
namespace DL
open PySem PySem.Spec PyProof.Rows L2
theorem srt_same {α : Type} {lt : α → α → Bool} (asy : ∀ a b, lt a b = true → lt b a = false) : ∀ {xs ys : List α}, ys.Perm xs → ys.Pairwise (fun a b => lt b a = false) → xs.Pairwise (fun a b => lt a b = true) → ys = xs
  | [], ys, p, _, _ => List.Perm.eq_nil p
  | x :: xs, [], p, _, _ => by cases p.length_eq
  | x :: xs, y :: ys, p, h1, h2 => by
    obtain ⟨g1, g2⟩ := List.pairwise_cons.mp h1
    obtain ⟨k1, k2⟩ := List.pairwise_cons.mp h2
    have e : y = x := Classical.byContradiction fun ne => by
      have my : y ∈ xs := (List.mem_cons.mp (p.subset (List.mem_cons_self ..))).resolve_left ne
      have mx : x ∈ ys := (List.mem_cons.mp (p.symm.subset (List.mem_cons_self ..))).resolve_left fun z => ne z.symm
      have := g1 x mx
      rw [k1 y my] at this
      cases this
    subst e
    rw [srt_same asy (List.perm_cons _ |>.mp p) g2 k2]
/-- where a pair of ints stands -/
def kOf (H : Hp) : V → Int × Int
  | .ref t => match H t with
    | some (.tup [.int i, .int j]) => (i, j)
    | _ => (0, 0)
  | _ => (0, 0)
def pr2 (q : Int × Int) : D := .tup [.int q.1, .int q.2]
theorem pr2_at {K : PySem.W.Frag} {B H : Hp} (s : Sub B H) {v : V} {q : Int × Int} (h : Dn K B v (pr2 q)) : ∃ t, v = .ref t ∧ H t = some (.tup [.int q.1, .int q.2]) := by
  cases h with
  | @tup t xs _ e r =>
    cases r with
    | cons r1 r2 =>
      cases r1
      cases r2 with
      | cons r3 r4 =>
        cases r3
        cases r4
        exact ⟨t, rfl, s.tup e⟩
theorem pr2_k {K : PySem.W.Frag} {B H : Hp} (s : Sub B H) {v : V} {q : Int × Int} (h : Dn K B v (pr2 q)) : kOf H v = q := by
  obtain ⟨t, rfl, e⟩ := pr2_at s h
  show (match H t with
    | some (.tup [.int i, .int j]) => (i, j)
    | _ => (0, 0)) = q
  rw [e]
theorem DnA.ks {K : PySem.W.Frag} {B H : Hp} (s : Sub B H) : ∀ {vs : List V} {l : List (Int × Int)}, DnA K B vs (l.map pr2) → vs.map (kOf H) = l ∧ ∀ v ∈ vs, ∃ t, v = .ref t ∧ H t = some (.tup [.int (kOf H v).1, .int (kOf H v).2])
  | [], [], _ => ⟨rfl, fun _ m => by cases m⟩
  | v :: vs, q :: l, .cons r t => by
    obtain ⟨h1, h2⟩ := DnA.ks s t
    have e := pr2_k s r
    refine ⟨by rw [List.map_cons, e, h1], fun w m => ?_⟩
    rcases List.mem_cons.mp m with rfl | m
    · rw [e]; exact pr2_at s r
    · exact h2 w m
theorem cn_sortP {X : Cx} {l : List (Int × Int)} (h : l.Pairwise fun a b => SrtO.lexB a b = true) : CalN X (.builtin "sorted") [.lst (l.map pr2)] (l.map pr2) := ⟨_, cr_sortedPO, fun B H vs Q s hv q => by
  obtain ⟨v, rfl, r⟩ := hv.one'
  cases r with
  | @lst a xs _ e1 r1 =>
    obtain ⟨k1, k2⟩ := DnA.ks s r1
    refine ⟨a, xs, kOf H, rfl, SqL.of (s.lst e1), k2, fun ys p h1 h2 hp => ?_⟩
    have e : ys = xs := srt_same (lt := ltP (kOf H)) (ltP_swo (kOf H)).asym h2.perm h1 (by
      rw [← k1, List.pairwise_map] at h
      exact h)
    rw [e]
    exact q p xs hp r1⟩
end DL
set_option Elab.async false
set_option linter.all false
set_option maxRecDepth 100000
set_option maxHeartbeats 4000000
/-! DL16: sorted lists of tuples of any shape -/
namespace DL
open PySem PySem.Spec PyProof.Rows L2
def rSrtD (K : PySem.W.Frag) : List V → Hp → VK → Prop := fun vs H Q => ∃ (β : Type) (a : Addr) (bs : List β) (f : β → V) (enc : β → PyData), vs = [.ref a] ∧ SqL K H a (bs.map f) ∧ (∀ b ∈ bs, Dp K H (f b) (enc b)) ∧ PySem.W.AllAlike (bs.map enc) ∧ PySem.W.Sortable (bs.map enc) ∧ (∀ b ∈ bs, (enc b).depth ≤ 60) ∧
  ∀ p, H p = none → Q (.ref p) (upd H p (.lst ((bs.mergeSort (PySem.W.dataLe false enc)).map f)))
theorem each_of {β : Type} {f : β → V} : ∀ {bs : List β} {us : List Value}, Vals (bs.map f) us → PySem.W.EachIs (fun u b => RelV (f b) u) us bs
  | [], _, .nil => .nil
  | _ :: _, _, .cons r t => .cons r (each_of t)
theorem each_to {β : Type} {f : β → V} : ∀ {bs : List β} {us : List Value}, PySem.W.EachIs (fun u b => RelV (f b) u) us bs → Vals (bs.map f) us
  | [], _, .nil => .nil
  | _ :: _, _, .cons r t => .cons r (each_to t)
theorem each_imp {β : Type} {R S : Value → β → Prop} : ∀ {bs : List β} {us : List Value}, PySem.W.EachIs R us bs → (∀ u, ∀ b ∈ bs, R u b → S u b) → PySem.W.EachIs S us bs
  | [], _, .nil, _ => .nil
  | _ :: _, _, .cons r t, h => .cons (h _ _ (List.mem_cons_self ..) r) (each_imp t fun u b m => h u b (List.mem_cons_of_mem _ m))
theorem cr_srtD {X : Cx} (hu : X.A.units + 64 < cLine) : CallR X (.builtin "sorted") (rSrtD X.K) := fun pins s σ H vs us Q I r ⟨β, a, bs, f, enc, ev, hs, hd, hal, hso, hde, q⟩ => by
  subst ev
  obtain ⟨its, rv, hl, hz⟩ := I.list hs
  rw [Vals.ref1 r]
  have e := each_of rv
  refine PySem.W.sorted_data (enc := enc) (bs := bs) (R := fun u b => RelV (f b) u) hl.isList e (each_imp e fun u b m ru => Dp.reads I (enc b) (f b) u (hd b m) ru) hal hso (by rw [List.length_map] at hz; exact hz) (fun b m => by have := hde b m; omega) fun out ho hO => ?_
  obtain ⟨ep, he'⟩ := PyProof.Rows.sortedAll_at s.heap its (List.toArray out)
  have hv := each_to hO
  refine ⟨.ref _, upd H (s.heap.objs.size + 1) (.lst ((bs.mergeSort (PySem.W.dataLe false enc)).map f)), I.laid (t' := s.toks) (fun _ _ => PyProof.Rows.sortedAll_old) (Nat.le_succ _) ⟨?_, out, ep, hv, he'⟩, rfl, q _ (I.hok.fresh (Nat.le_succ _))⟩
  rw [List.length_map, List.length_mergeSort]
  rw [List.length_map] at hz
  exact hz
def sortD (xs : List D) : List D := xs.mergeSort (PySem.W.dataLe false D.py)
theorem DnA.zip {K : PySem.W.Frag} {B : Hp} : ∀ {vs : List V} {ds : List D}, DnA K B vs ds → ∃ bs : List (V × D), bs.map (·.1) = vs ∧ bs.map (·.2) = ds ∧ ∀ b ∈ bs, Dn K B b.1 b.2
  | _, _, .nil => ⟨[], rfl, rfl, fun _ m => by cases m⟩
  | _, _, .cons (v := v) (d := d) r t => by
    obtain ⟨bs, h1, h2, h3⟩ := DnA.zip t
    refine ⟨(v, d) :: bs, by rw [List.map_cons, h1], by rw [List.map_cons, h2], fun b m => ?_⟩
    rcases List.mem_cons.mp m with rfl | m
    · exact r
    · exact h3 b m
theorem DnA.unzip {K : PySem.W.Frag} {B : Hp} : ∀ {bs : List (V × D)}, (∀ b ∈ bs, Dn K B b.1 b.2) → DnA K B (bs.map (·.1)) (bs.map (·.2))
  | [], _ => .nil
  | b :: bs, h => .cons (h b (List.mem_cons_self ..)) (DnA.unzip fun c m => h c (List.mem_cons_of_mem _ m))
/-- what can be sorted: tuples that are alike -/
structure SOk (xs : List D) : Prop where
  plain : ∀ d ∈ xs, d.plain = true
  alike : PySem.W.AllAlike (xs.map D.py)
  sort : PySem.W.Sortable (xs.map D.py)
  deep : ∀ d ∈ xs, d.py.depth ≤ 60
theorem cn_sortD {X : Cx} {xs : List D} (hu : X.A.units + 64 < cLine) (h : SOk xs) : CalN X (.builtin "sorted") [.lst xs] (sortD xs) := ⟨_, cr_srtD hu, fun B H vs Q s hv q => by
  obtain ⟨v, rfl, r⟩ := hv.one'
  cases r with
  | @lst a ws _ e1 r1 =>
    obtain ⟨bs, h1, h2, h3⟩ := r1.zip
    have em : bs.map (fun b => b.2.py) = xs.map D.py := by rw [← h2, List.map_map]; rfl
    refine ⟨V × D, a, bs, (·.1), fun b => b.2.py, rfl, by rw [h1]; exact SqL.of (s.lst e1), fun b m => (h3 b m).dp s (h.plain _ (h2 ▸ List.mem_map_of_mem m)), by rw [em]; exact h.alike, by rw [em]; exact h.sort, fun b m => h.deep _ (h2 ▸ List.mem_map_of_mem m), fun p hp => ?_⟩
    refine q p _ hp ?_
    have e2 : sortD xs = (bs.mergeSort (PySem.W.dataLe false fun b => b.2.py)).map (·.2) := by
      unfold sortD
      rw [← h2]
      exact (List.map_mergeSort (f := fun b : V × D => b.2) (r := PySem.W.dataLe false fun b : V × D => b.2.py) (s := PySem.W.dataLe false D.py) fun a _ b _ => rfl).symm
    rw [e2]
    exact DnA.unzip fun b m => h3 b ((List.mergeSort_perm _ _).mem_iff.mp m)⟩
theorem sortD_perm (xs : List D) : (sortD xs).Perm xs := List.mergeSort_perm _ _
end DL
set_option Elab.async false
set_option linter.all false
set_option maxRecDepth 100000
set_option maxHeartbeats 4000000
/-! DL17: xs.index(x) of data, list(range(n)) -/
namespace DL
open PySem PySem.Spec PyProof.Rows L2
section
variable {X : Cx} {a : Expr} {Δ Δ1 : List Sk} {d : D} {xs : List D} {p pos rpos : Pos}
theorem pyA_get : ∀ {xs : List D} {j : Nat} {z : D}, xs[j]? = some z → (D.pyA xs)[j]? = some z.py
  | x :: xs, 0, z, h => by
    have e : x = z := Option.some.inj h
    subst e
    rfl
  | x :: xs, j + 1, z, h => pyA_get (xs := xs) (j := j) h
theorem pyA_get' : ∀ {xs : List D} {j : Nat} {z : PyData}, (D.pyA xs)[j]? = some z → ∃ y, xs[j]? = some y ∧ z = y.py
  | x :: xs, 0, z, h => ⟨x, rfl, (Option.some.inj h).symm⟩
  | x :: xs, j + 1, z, h => pyA_get' (xs := xs) (j := j) h
theorem mt_idxD {k : Nat} (hu : X.A.units + 65 < cLine) (g1 : (D.lst xs).good = true) (g2 : d.good = true) (h : xs[k]? = some d) (hno : ∀ (m : Nat) y, m < k → xs[m]? = some y → y.eqv d = false) (he : d.eqv d = true) : MtV X "list" "list.index" (.lst xs) [d] (.int (k : Nat)) := ⟨_, mt_indexD hu, fun B H v ws Q s hv hw q => by
  obtain ⟨w, rfl, rw_⟩ := hw.one'
  have e1 := Bool.and_eq_true_iff.mp g1
  have e2 := Bool.and_eq_true_iff.mp g2
  have dv := hv.dp s e1.1
  cases hv with
  | @lst l vs _ q1 q2 =>
    refine ⟨l, w, d.py, D.pyA xs, k, d.py, rfl, rfl, dv, rw_.dp s e2.1, e1.2, e2.2, pyA_get h, he, fun m z hm hz => ?_, q _ (.int _)⟩
    obtain ⟨y, hy, rfl⟩ := pyA_get' hz
    exact hno m y hm hy⟩
theorem de_lstRg {n : Int} (cm : X.calm = true) (h : DV X a Δ (.int n) Δ1) (h0 : 0 ≤ n) (h1 : n ≤ 100000) (hm : X.mg "list" = none) (hr : X.mg "range" = none) (hg : Gl X "list" := by rfl) (hgr : Gl X "range" := by rfl)
    (na : starEach [a] X.env = (false, eval a X.env) :: starEach [] X.env := by rfl) (nb : starEach [.Call (.Name "range" rpos) [a] [] p] X.env = (false, eval (.Call (.Name "range" rpos) [a] [] p) X.env) :: starEach [] X.env := by rfl) {lpos : Pos} :
    DE X (.Call (.Name "list" lpos) [.Call (.Name "range" rpos) [a] [] p] [] pos) Δ (.ow none (rLst ((List.range n.toNat).map fun k => .int (k : Nat)))) Δ1 := fun B H F σ a' Q q =>
  ⟨_, pe_listRg cm hg hm (prg_1 hgr hr (pe_w a) na) nb, h.run a' fun v B1 H1 F1 s1 r1 a1 => by
    cases r1
    refine ⟨n, rfl, .of_le (Int.le_refl 0) (by omega) (by decide) h0, fun l hl => ?_⟩
    have e : rgV 0 n = ((List.range n.toNat).map fun k => ((k : Nat) : Int)).map V.int := by
      unfold rgV
      rw [List.map_map, Int.sub_zero]
      refine List.map_congr_left fun k _ => ?_
      show V.int (0 + (k : Nat)) = V.int (k : Nat)
      rw [Int.zero_add]
    have e2 : ((List.range n.toNat).map fun k => D.int ((k : Nat) : Int)) = ((List.range n.toNat).map fun k => ((k : Nat) : Int)).map D.int := by rw [List.map_map]; rfl
    rw [e]
    obtain ⟨s2, a2⟩ := a1.made (o := .lst (((List.range n.toNat).map fun k => ((k : Nat) : Int)).map V.int)) (R := rLst ((List.range n.toNat).map fun k => .int (k : Nat))) hl rLst_ok ⟨l, _, rfl, rfl, upd_same, by rw [e2]; exact DnA.of_ints _⟩
    exact q _ _ _ _ (s1.trans s2) a2⟩
end
end DL
set_option Elab.async false
set_option linter.all false
set_option maxRecDepth 100000
set_option maxHeartbeats 4000000
/-! DL18: a o1 b o2 c o3 d as a test -/
namespace DL
open PySem PySem.Spec PyProof.Rows L2
section
variable {X : Cx} {a b c d : Expr} {o1 o2 o3 : CmpOp} {pos : Pos} {ta tb tc td : TE} {r1 r2 r3 : R2}
def tCh3 (r1 r2 r3 : R2) (ta tb tc td : TE) : TT := fun σ H Q => ta σ H fun x H1 => tb σ H1 fun y H2 => r1 x y H2 fun z1 H3 => ∃ k1, z1 = .bl k1 ∧
  if k1 = true then tc σ H3 fun u H4 => r2 y u H4 fun z2 H5 => ∃ k2, z2 = .bl k2 ∧ if k2 = true then td σ H5 fun w H6 => r3 u w H6 fun z3 H7 => ∃ k3, z3 = .bl k3 ∧ Q k3 H7 else Q false H5 else Q false H3
theorem pt_ch3 (g1 : OpR X (compareOp o1) r1) (g2 : OpR X (compareOp o2) r2) (g3 : OpR X (compareOp o3) r3) (ha : PE X a ta) (hb : PE X b tb) (hc : PE X c tc) (hd : PE X d td) (hm : lastMarks [o1, o2, o3] [b, c, d] = false) :
    PT X (.Compare a [o1, o2, o3] [b, c, d] pos) (tCh3 r1 r2 r3 ta tb tc td) := ⟨fun pins s σ H Q I h => by
  refine isTrue_chain (thn (ha.run pins s σ H _ I h) fun av t1 ⟨x, H1, J1, q1, h1⟩ => test_link (thn (hb.run pins t1 σ H1 _ J1 h1) fun bv t2 ⟨y, H2, J2, q2, h2⟩ => thn (g1 pins t2 σ H2 x y av bv _ J2 q1 q2 h2) fun e1 t3 ⟨z1, H3, J3, q3, k1, ez, h3⟩ => ?_)) hm
  subst ez
  cases q3
  refine wpAny_truthy_bool ?_
  by_cases hk1 : k1 = true
  · rw [if_pos hk1] at h3
    subst hk1
    refine ite_tt (test_link (thn (hc.run pins t3 σ H3 _ J3 h3) fun cv t4 ⟨u, H4, J4, q4, h4⟩ => thn (g2 pins t4 σ H4 y u bv cv _ J4 q2 q4 h4) fun e2 t5 ⟨z2, H5, J5, q5, k2, ez, h5⟩ => ?_))
    subst ez
    cases q5
    refine wpAny_truthy_bool ?_
    by_cases hk2 : k2 = true
    · rw [if_pos hk2] at h5
      subst hk2
      refine ite_tt (test_last (thn (hd.run pins t5 σ H5 _ J5 h5) fun dv t6 ⟨w, H6, J6, q6, h6⟩ => thn (g3 pins t6 σ H6 u w cv dv _ J6 q4 q6 h6) fun e3 t7 ⟨z3, H7, J7, q7, k3, ez, h7⟩ => ?_))
      subst ez
      cases q7
      exact wpAny_truthy_bool ⟨H7, J7, h7⟩
    · rw [if_neg hk2] at h5
      have : k2 = false := Bool.eq_false_iff.mpr hk2
      subst this
      exact ite_ff ⟨H5, J5, h5⟩
  · rw [if_neg hk1] at h3
    have : k1 = false := Bool.eq_false_iff.mpr hk1
    subst this
    exact ite_ff ⟨H3, J3, h3⟩⟩
theorem dt_chain3 {Δ Δ1 Δ2 : List Sk} {d1 d2 d3 d4 : D} {k1 k2 k3 : Bool} (h1 : DV X a Δ d1 Δ1) (h2 : DV X b Δ1 d2 Δ2) (h3 : DV X c Δ2 d3 Δ2) (h4 : DV X d Δ2 d4 Δ2) (c1 : CmpD X o1 d1 d2 k1) (c2 : CmpD X o2 d2 d3 k2) (c3 : CmpD X o3 d3 d4 k3)
    (hm : lastMarks [o1, o2, o3] [b, c, d] = false := by with_unfolding_all rfl) : DT X (.Compare a [o1, o2, o3] [b, c, d] pos) Δ (k1 && (k2 && k3)) Δ2 := fun B H F σ a' Q q => by
  obtain ⟨r1, g1, p1⟩ := c1
  obtain ⟨r2, g2, p2⟩ := c2
  obtain ⟨r3, g3, p3⟩ := c3
  refine ⟨_, pt_ch3 g1 g2 g3 (pe_w a) (pe_w b) (pe_w c) (pe_w d) hm, h1.run a' fun v1 B1 H1 F1 s1 e1 a1 => h2.run a1 fun v2 B2 H2 F2 s2 e2 a2 => p1 B2 H2 v1 v2 _ a2.sub (e1.mono s2.sub) e2 fun w1 z1 => ?_⟩
  cases z1
  refine ⟨k1, rfl, ?_⟩
  cases k1 with
  | false => exact q B2 H2 F2 (s1.trans s2) a2
  | true =>
    refine iteT (h3.run a2 fun v3 B3 H3 F3 s3 e3 a3 => p2 B3 H3 v2 v3 _ a3.sub (e2.mono s3.sub) e3 fun w2 z2 => ?_)
    cases z2
    refine ⟨k2, rfl, ?_⟩
    cases k2 with
    | false => exact q B3 H3 F3 ((s1.trans s2).trans s3) a3
    | true =>
      refine iteT (h4.run a3 fun v4 B4 H4 F4 s4 e4 a4 => p3 B4 H4 v3 v4 _ a4.sub (e3.mono s4.sub) e4 fun w3 z3 => ?_)
      cases z3
      exact ⟨k3, rfl, q B4 H4 F4 (((s1.trans s2).trans s3).trans s4) a4⟩
end
end DL
set_option Elab.async false
set_option linter.all false
set_option maxRecDepth 100000
set_option maxHeartbeats 4000000
/-! DL19: the law's own def where it is known that no repr is under way: repr of data -/
namespace DL
open PySem PySem.Spec PyProof.Rows L2
/-- what a def promises where no repr is under way -/
structure FnG (P : Program) (w : World) (K : PySem.W.Frag) (mg : Str → Option Value) (base : Heap) (k : Nat) (f : Addr) (fd : FuncData) (ps : List Str) (sp : Sp) : Prop where
  run : ∀ (A : Around) (outer : List Env) (s : Shared) (H : Hp) (args : Args) (us : List Value) (vs : List V) (Q : VK) (E : XK), A.guards = some [] → Room k A → Env0 P w K mg base A outer s H → BindsTo s fd args (ps.zip us) → Vals vs us → sp vs H Q E →
    codeAny (model P w) A (.call (.ref f) args) (CR CX0 outer P w H s Q E) s
section
variable {P : Program} {w : World} {K : PySem.W.Frag} {mg : Str → Option Value} {base : Heap} {x qual : Str} {st : Stmt} {f : Addr} {fd : FuncData} {N ps : List Str} {lv : Nat} {sp : Sp}
theorem fnG (F : Fun K x qual st f fd) (S : FnScope N ps (defScope st)) (len : ∀ vs H Q E, sp vs H Q E → vs.length = ps.length)
    (hb : ∀ (cdv : Value) (A : Around) (outer : List Env) (s : Shared) (H : Hp) (vs : List V) (Q : VK) (E : XK), A.guards = some [] → Room lv (A.deeper (envOfC qual (defScope st) s.heap.objs.size f cdv)) → sp vs H Q E →
      ∃ t, PSs (FX P w K mg base N qual (defScope st) f cdv A outer s H E) (defBody st) t ∧ t { nx := fun _ H' => Q .non H', rt := Q } (start N vs) H) : FnG P w K mg base (lv + 1) f fd ps sp := by
  obtain ⟨oc, od, kV, doc, pm, an, cdv, ct, osl, rfl, lk, hcd⟩ := F.ex
  refine ⟨fun A outer s H args us vs Q E gd room env bnd rel want => ?_⟩
  have kin : K.In s.heap := env.mod.kin.keeps fun b o m => (env.bs b o m).1
  have kinds : ∀ y ∈ ps.zip us, (defScope st).names.lookup y.1 = some .local ∨ ((defScope st).names.lookup y.1 = some .cell ∧ ((cellsFrom (s.heap.objs.size + 1) (defScope st).names []).lookup y.1).isSome = true) := fun ⟨n, v⟩ m =>
    (S.par n (List.of_mem_zip m).1).imp id fun c => ⟨c, PySem.W.cellsFrom_some _ _ _ (.inl c)⟩
  refine codeAny_call_function room.depth (kin _ _ lk) rfl S.co S.gen rfl (PySem.W.codeRec_of kin hcd) (bnd _ _ _ _ (wpAny_newFunctionEnv_cells S.kind kinds fun env1 he t1 inc => ?_))
  subst he
  obtain ⟨t, pt, qt⟩ := hb cdv A outer s H vs Q E gd (room.deeper _) want
  refine ⟨(env.mod.nolimit.keeps fun b o m => (env.bs b o m).1).keeps inc.toInCall.keep, codeAny_func (wpAny_mono (pt.nox.run [] t1 (start N vs) H _ (inv_start S room.hd env (len _ _ _ _ want) rel inc) qt) (fun fl t2 post => ?_) fun _ _ z => z)⟩
  match fl, post with
  | .ret u, ⟨v, _, H', J, rv, q⟩ => exact ⟨v, H', J.os, J.bare, J.base, J.hok, rv, q⟩
  | .next, ⟨_, H', J, q⟩ => exact ⟨V.non, H', J.os, J.bare, J.base, J.hok, rfl, q⟩
  | .brk, ⟨_, _, _, q⟩ => exact q.elim
  | .cont, ⟨_, _, _, q⟩ => exact q.elim
/-- as fn0, with what is known of the guards -/
theorem fn0G {pre : List D → Sk → Prop} (F : Fun K x qual st f fd) (S : FnScope N ps (defScope st))
    (hb : ∀ cdv A outer s H E, A.guards = some [] → Room lv (A.deeper (envOfC qual (defScope st) s.heap.objs.size f cdv)) → ∀ ds r, pre ds r → ds.length = ps.length →
      DSs (FX P w K mg base N qual (defScope st) f cdv A outer s H E) (defBody st) (ds.map Sk.im ++ uns (N.length - ps.length)) { nx := fun _ => r = .im .non, rt := fun r' _ => r' = r }) : FnG P w K mg base (lv + 1) f fd ps (Sp0 K ps.length pre) := by
  refine fnG F S (fun vs H Q E h => h.1) (fun cdv A outer s H vs Q E gd hr h => ?_)
  obtain ⟨hl, B, ds, r, hp, sub, rv, q⟩ := h
  refine ⟨_, pss_w _, ?_⟩
  have hd : ds.length = ps.length := by rw [← rv.length, hl]
  refine hb cdv A outer s H E gd hr ds r hp hd B H [] _ ⟨sub, ?_, List.nodup_nil, fun _ m => by cases m⟩ _ ⟨?_, ?_, fun _ _ _ _ _ q => q.elim, fun _ _ _ _ _ q => q.elim⟩
  · show Sl K B H _ (vs.map some ++ List.replicate (N.length - vs.length) none) []
    rw [hl]
    exact sl_args rv _
  · rintro Δ' σ' B' H' F' rfl s' a'
    exact q .non B' H' [] (s'.less fun _ m => by cases m) ⟨a'.sub, .im .non .nil, List.nodup_nil, fun _ m => by cases m⟩
  · rintro r' Δ' v σ' B' H' F' rfl s' a'
    obtain ⟨G, F0, e, s1, s2⟩ := a'.sl.head_any
    subst e
    exact q v B' H' G (s'.less fun a m => List.mem_append_left _ m) ⟨a'.sub, s1, (List.nodup_append.mp a'.nd).1, fun a m => a'.out a (List.mem_append_left _ m)⟩
end
/-! ### the law's own call, from FnG -/
section
variable {P : Program} {w : World} {K : PySem.W.Frag} {mg mb : Str → Option Value} {k : Nat} {fa a : Addr} {fd : FuncData} {x : Str} {sp : Sp} {t : Shared} {us : List Value} {ns : List Int}
/-- what the law's call has to show -/
abbrev LawPost (t : Shared) (r : Result) (t' : Shared) : Prop := r = .ok (.ret (.bool true)) ∧ OldK t.heap t'.heap ∧ t'.os = t.os ∧ AllBare t'.gens
theorem callG_core (kin : K.In t.heap) (n1 : t.heap.Ns mainGlobals mg) (n2 : t.heap.Ns builtinsNs mb) (n3 : ∀ y : Str, y ≠ "__name__" → mb y = bootBuiltins y) (n4 : t.heap.NoLimit) (n5 : t.gens = #[]) (ob : t.heap.get? a = some { cls := .type "list", data := .seq us.toArray })
    (hr : Room k callerA) (F : ∀ base : Heap, K.In base → base.Ns mainGlobals mg → FnG P w K mg base k fa fd [x] sp) (bd : ∀ (s : Shared) (u : Value), BindsTo s fd ⟨[u], []⟩ [(x, u)]) (want : ∀ H : Hp, Only H → SqL K H a (ns.map V.int) → sp [.ref a] H (fun v _ => v = .bl true) fun _ _ _ => False)
    (H : Hp) (on : Only H) (sq : SqL K H a (ns.map V.int)) (ok : HOk P w H t.heap) (ha : ∀ b, H b ≠ none → b = a) (hk : H a ≠ none → K.lookup a = none) : codeAny (model P w) callerA (.call (.ref fa) ⟨[.ref a], []⟩) (LawPost t) t := by
  have clear : ∀ {b : Addr}, b ≠ a → H b = none := fun {b} n => Classical.byContradiction fun z => n (ha b z)
  have keepB : ∀ {b : Addr} {o : Obj}, t.heap.get? b = some o → H b = none → (hidT t.heap H).get? b = some o := hidT_get
  have dict0 : ∀ {b : Addr} {o : Obj} {es : Array DictEntry} {ep : Nat}, t.heap.get? b = some o → o.data = .dict es ep → H b = none := fun {b o es ep} g dd => clear fun z => by
    rw [z, ob] at g
    cases g
    cases (show Data.seq us.toArray _ = Data.dict es ep from dd)
  have nsB : ∀ {b : Addr} {m : Str → Option Value}, t.heap.Ns b m → (hidT t.heap H).Ns b m := fun {b m} ⟨o, es, ep, g, dd, rr⟩ => ⟨o, es, ep, keepB g (dict0 g dd), dd, rr⟩
  have inB : K.In (hidT t.heap H) := fun b o g => keepB (kin b o g) (Classical.byContradiction fun z => by
    have eb := ha b z
    rw [eb] at z g
    rw [hk z] at g
    cases g)
  have md : Mod K mg (hidT t.heap H) := ⟨inB, nsB n1, ⟨mb, nsB n2, n3⟩, n4.elim fun mc z => ⟨mc, nsB z.1, z.2⟩⟩
  have en : Env0 P w K mg (hidT t.heap H) callerA [] t H := ⟨rfl, md, fun b o g => of_hidT g, Nat.le_of_eq (hidT_size _ _), trivial, fun b m => absurd (show b ∈ ([] : List Addr) from m) List.not_mem_nil, ok, .of_eq n5⟩
  refine codeAny_mono ((F _ inB (nsB n1)).run callerA [] t H ⟨[.ref a], []⟩ [.ref a] [.ref a] _ _ rfl hr en (bd t (.ref a)) (.cons rfl .nil) (want H on sq)) fun r t' post => ?_
  match r, post with
  | .ok (.ret u), ⟨v, H', hos, hb, un, ok', rv, hv⟩ =>
    have hv : v = .bl true := hv
    subst hv
    have hu : u = Value.bool true := rv
    subst hu
    refine ⟨rfl, OldK.of_keep fun b o g => ?_, hos, hb⟩
    rcases on b with z | ⟨o1, xs, z⟩
    · exact un.keep b o g z (fun m => absurd (show b ∈ ([] : List Addr) from m) List.not_mem_nil) List.not_mem_nil
    · have g1 := (ok b _ z).1
      rw [g] at g1
      cases g1
      exact (ok' b _ (un.frzs b _ _ z)).1
theorem law_callG (kin : K.In t.heap) (n1 : t.heap.Ns mainGlobals mg) (n2 : t.heap.Ns builtinsNs mb) (n3 : ∀ y : Str, y ≠ "__name__" → mb y = bootBuiltins y) (n4 : t.heap.NoLimit) (n5 : t.gens = #[]) (ob : t.heap.get? a = some { cls := .type "list", data := .seq us.toArray })
    (hi : IntsAre us ns) (hl : ns.length ≤ sizeLine) (hr : Room k callerA) (F : ∀ base : Heap, K.In base → base.Ns mainGlobals mg → FnG P w K mg base k fa fd [x] sp) (bd : ∀ (s : Shared) (u : Value), BindsTo s fd ⟨[u], []⟩ [(x, u)]) (want : ∀ H : Hp, Only H → SqL K H a (ns.map V.int) → sp [.ref a] H (fun v _ => v = .bl true) fun _ _ _ => False) :
    codeAny (model P w) callerA (.call (.ref fa) ⟨[.ref a], []⟩) (LawPost t) t := by
  have rv := vals_ints hi
  cases lk : K.lookup a with
  | some o =>
    have g := kin a o lk
    rw [ob] at g
    cases g
    exact callG_core kin n1 n2 n3 n4 n5 ob hr F bd want (fun _ => none) (fun _ => .inl rfl) (.inr ⟨_, us.toArray, _, lk, rfl, rfl, rfl, by rw [List.size_toArray, hi.length]; exact hl, by simpa using rv⟩) (fun b u z => by cases (show (none : Option HO) = some u from z)) (fun b z => absurd rfl z) fun z => absurd rfl z
  | none =>
    have one : ∀ b, (if b = a then some (HO.frz { cls := .type "list", data := .seq us.toArray } (.lst (ns.map V.int))) else none) ≠ none → b = a := fun b z => Classical.byContradiction fun n => z (if_neg n)
    refine callG_core kin n1 n2 n3 n4 n5 ob hr F bd want (fun b => if b = a then some (.frz { cls := .type "list", data := .seq us.toArray } (.lst (ns.map V.int))) else none) (fun b => ?_) (.inl (.inr ⟨{ cls := .type "list", data := .seq us.toArray }, if_pos rfl⟩)) (fun b u z => ?_) one fun _ => lk
    · by_cases e : b = a
      · exact .inr ⟨_, _, if_pos e⟩
      · exact .inl (if_neg e)
    · have e : b = a := one b fun y => by cases z.symm.trans y
      subst e
      cases (if_pos rfl).symm.trans z
      exact ⟨ob, by rw [List.length_map]; exact hl, us, _, rv, ob⟩
end
theorem walk_ofG {l : PySem.W.OpenLaw} {n k : Nat} {q : Program} {loose : List Str} {XP : (Str → Option Value) → Heap → Prop} {YP : World → Heap → Prop} {d : DefRec} {x : Str} (hn : l.most = some n) (hn2 : n ≤ sizeLine) (hdf : d.params.defaults = []) (hr : Room k callerA)
    (F : ∀ (w : World) (mg : Str → Option Value) (fa : Addr) (h : Heap), YP w h → h.Ns mainGlobals mg → mg d.name = some (.ref fa) → ∃ (K : PySem.W.Frag) (fd : FuncData) (sp : Sp), K.In h ∧ (∀ (s : Shared) (u : Value), BindsTo s fd ⟨[u], []⟩ [(x, u)]) ∧
      (∀ (H : Hp) (a : Addr) (ns : List Int), ns.length ≤ n → Only H → SqL K H a (ns.map V.int) → sp [.ref a] H (fun v _ => v = .bl true) fun _ _ _ => False) ∧ ∀ base : Heap, K.In base → base.Ns mainGlobals mg → FnG l.prog w K mg base k fa fd [x] sp) :
    PySem.W.WalkO q loose XP YP l.row.toRowW d [] (fun f vs => PySem.call f vs) := Att.attach_call hn hdf fun w s₀ t mg mb fa o pm cd doc a us ns G Y ho hd hcd hmg hobj hints hlen hg => by
  obtain ⟨K, fd, sp, kin, bd, want, hF⟩ := F w mg fa _ Y G.T.g hmg
  exact law_callG kin G.T.g G.T.b G.T.builtins G.T.nolimit hg hobj hints (Nat.le_trans hlen hn2) hr hF bd fun H on sq => want H a ns hlen on sq
end DL
set_option Elab.async false
set_option linter.all false
set_option maxRecDepth 100000
set_option maxHeartbeats 4000000
/-! DL20: repr of lists and tuples -/
namespace DL
open PySem PySem.Spec PyProof.Rows L2
def rRepr (K : PySem.W.Frag) : List V → Hp → VK → Prop := fun xs H Q => ∃ (a : Addr) (d : PyData), xs = [.ref a] ∧ Dp K H (.ref a) d ∧ d.showable = true ∧ d.hasDict = false ∧ d.depth ≤ 60 ∧ d.shown.length ≤ sizeLine ∧ Q (.str d.shown) H
theorem cr_repr {X : Cx} (hg : X.A.guards = some []) (hu : X.A.units + 64 < cLine) : CallR X (.builtin "repr") (rRepr X.K) := fun pins s σ H vs us Q I r ⟨a, d, ev, hd, h1, h2, h3, h4, q⟩ => by
  subst ev
  have e := Vals.ref1 r
  subst e
  obtain ⟨as, rd⟩ := Dp.reads I d (.ref a) (.ref a) hd rfl
  exact repr_of_reads' rd h1 (PyData.noDict_hsm h2) hg (by omega) (fun _ _ z => z) (fun h' u tk hk => ⟨.str d.shown, H, I.kept (t' := tk) hk, ⟨u, rfl⟩, q⟩) h4
/-- data of which repr is short -/
structure Rp (n w : Nat) (d : D) : Prop where
  plain : d.plain = true
  nod : d.py.hasDict = false
  show_ : d.py.showable = true
  leaf : d.py.leavesShort 70 = true
  dep : d.py.depth ≤ n
  blk : d.py.bulk ≤ w
theorem Rp.mono {n w m v : Nat} {d : D} (h : Rp n w d) (e1 : n ≤ m) (e2 : w ≤ v) : Rp m v d := ⟨h.plain, h.nod, h.show_, h.leaf, Nat.le_trans h.dep e1, Nat.le_trans h.blk e2⟩
theorem Rp.int {i : Int} (h : i.natAbs < 2 ^ 64) : Rp 0 0 (.int i) := by
  have hl : i.natAbs.log2 < 64 := by
    by_cases z : i.natAbs = 0
    · rw [z]; decide
    · exact (Nat.log2_lt z).mpr h
  refine ⟨rfl, rfl, ?_, ?_, Nat.le_refl _, Nat.le_refl _⟩
  · show decide _ = true
    exact decide_eq_true (Nat.lt_trans hl (by decide))
  · show decide _ = true
    have := int_text_length_le (k := 64) (by decide) hl
    refine decide_eq_true ?_
    show (Str.ofString (toString i)).length ≤ 70
    rw [PySem.ofString_length]
    omega
theorem rp_all {n w : Nat} : ∀ {ds : List D}, (∀ d ∈ ds, Rp n w d) → D.plainA ds = true ∧ PyData.hasDictAll (D.pyA ds) = false ∧ PyData.showableAll (D.pyA ds) = true ∧ PyData.leavesShortAll 70 (D.pyA ds) = true ∧ PyData.depthAll (D.pyA ds) ≤ n ∧ PyData.bulkAll (D.pyA ds) ≤ ds.length * (w + 1)
  | [], _ => ⟨rfl, rfl, rfl, rfl, Nat.zero_le _, Nat.zero_le _⟩
  | d :: ds, h => by
    have hd := h d (List.mem_cons_self ..)
    obtain ⟨a, b, c, e, f, g⟩ := rp_all (n := n) (w := w) fun x m => h x (List.mem_cons_of_mem _ m)
    refine ⟨?_, ?_, ?_, ?_, ?_, ?_⟩
    · show (d.plain && D.plainA ds) = true
      rw [hd.plain, a]; rfl
    · show (d.py.hasDict || PyData.hasDictAll (D.pyA ds)) = false
      rw [hd.nod, b]; rfl
    · show (d.py.showable && PyData.showableAll (D.pyA ds)) = true
      rw [hd.show_, c]; rfl
    · show (d.py.leavesShort 70 && PyData.leavesShortAll 70 (D.pyA ds)) = true
      rw [hd.leaf, e]; rfl
    · show max _ _ ≤ n
      exact Nat.max_le.mpr ⟨hd.dep, f⟩
    · show d.py.bulk + 1 + PyData.bulkAll (D.pyA ds) ≤ (ds.length + 1) * (w + 1)
      have := hd.blk
      rw [Nat.succ_mul]
      omega
theorem Rp.lst {n w : Nat} {ds : List D} (h : ∀ d ∈ ds, Rp n w d) : Rp (n + 1) (ds.length * (w + 1)) (.lst ds) := by
  obtain ⟨a, b, c, e, f, g⟩ := rp_all h
  exact ⟨a, b, c, e, Nat.add_comm 1 _ ▸ Nat.add_le_add_right f 1, g⟩
theorem Rp.tup {n w : Nat} {ds : List D} (h : ∀ d ∈ ds, Rp n w d) : Rp (n + 1) (ds.length * (w + 1)) (.tup ds) := by
  obtain ⟨a, b, c, e, f, g⟩ := rp_all h
  exact ⟨a, b, c, e, Nat.add_comm 1 _ ▸ Nat.add_le_add_right f 1, g⟩
theorem ca_repr {X : Cx} {d : D} {n w : Nat} (hg : X.A.guards = some []) (hu : X.A.units + 64 < cLine) (h : Rp n w d) (hn : n ≤ 60) (hw : w ≤ 100000) (hc : (∃ xs, d = .lst xs) ∨ ∃ xs, d = .tup xs) : CalD X (.builtin "repr") [d] (.str d.py.shown) := ⟨_, cr_repr hg hu, fun B H vs Q s hv q => by
  obtain ⟨v, rfl, r⟩ := hv.one'
  have hl := PyData.shown_le_bulk 70 (by decide) d.py h.leaf
  have hb := h.blk
  have hz : d.py.shown.length ≤ sizeLine := by
    refine Nat.le_trans hl ?_
    have : (70 + 2) * d.py.bulk ≤ 72 * 100000 := Nat.mul_le_mul (Nat.le_refl _) (by omega)
    exact Nat.le_trans (Nat.add_le_add_right this 70) (by decide)
  have ref : ∃ a, v = .ref a := by
    rcases hc with ⟨xs, e⟩ | ⟨xs, e⟩
    · subst e
      cases r with
      | lst _ _ => exact ⟨_, rfl⟩
    · subst e
      cases r with
      | tup _ _ => exact ⟨_, rfl⟩
  obtain ⟨a, rfl⟩ := ref
  exact ⟨a, d.py, rfl, r.dp s h.plain, h.show_, h.nod, Nat.le_trans h.dep hn, hz, q _ (.str _)⟩⟩
theorem cd_neStr {X : Cx} {z w : Str} : CmpD X .NotEq (.str z) (.str w) (!decide (z = w)) := ⟨_, op_ne, fun B H v1 v2 Q s h1 h2 q => by
  cases h1
  cases h2
  refine ⟨rfl, ?_⟩
  have e : decide (V.str z = V.str w) = decide (z = w) := by
    by_cases h : z = w
    · rw [h]; simp
    · rw [decide_eq_false h, decide_eq_false fun y => h (V.str.inj y)]
  rw [e]
  exact q _ (.bl _)⟩
end DL
set_option Elab.async false
set_option linter.all false
set_option maxRecDepth 100000
set_option maxHeartbeats 4000000
/-! DL21: xs[i][j] = e over a list of lists of one's own; repr of an int or None; != of truths -/
namespace DL
open PySem PySem.Spec PyProof.Rows L2
section
variable {X : Cx} {K : PySem.W.Frag} {b1 b2 e : Expr} {Δ Δ1 : List Sk} {d : D} {xs : List D} {dss : List (List D)} {p p1 p2 pos apos : Pos} {oa : Option V} {x : Str} {i j : Int} {m k : Nat}
theorem ds_setLL {P : Pst} (n : Nat) (h : DV X e Δ d Δ1) (hi : Δ1[n]? = some (.ow oa (rLL dss))) (h1 : DX X b1 Δ1 (.int i)) (h2 : DX X b2 Δ1 (.int j)) (hm : ixN dss.length i = some m) (hx : dss[m]? = some xs) (hk : ixN xs.length j = some k) (q : P.nx (Δ1.set n (.ow oa (rLL (dss.set m (xs.set k d)))))) (hN : X.N[n]? = some x) (hv : Vis X.env.scope x)
    (hs : swapsWithSole [.Subscript (.Subscript (.Name x p) b1 p1) b2 apos] e pos.line X.env = pure false := by rfl) (hw : swappedStores [.Subscript (.Subscript (.Name x p) b1 p1) b2 apos] e X.env = pure none := by rfl)
    (ha : (assignEach [.Subscript (.Subscript (.Name x p) b1 p1) b2 apos] X.env).map (·.2) = [assign (.Subscript (.Subscript (.Name x p) b1 p1) b2 apos) X.env] := by rfl)
    (hsub : ∀ v, assign (.Subscript (.Subscript (.Name x p) b1 p1) b2 apos) X.env v = (do
      let ov ← holding [v] (eval (.Subscript (.Name x p) b1 p1) X.env)
      let iv ← holding [v, ov] (eval b2 X.env)
      standAt apos
      holding [v, ov, iv] (setItem ov iv v)
      release [v, ov, iv] []) := by intro _; rfl)
    (hix : PlainIx b1 := by exact fun _ _ => rfl) (hd : (x == ("__debug__" : Str)) = false := by decide) (hcd : (x == ("__classdict__" : Str)) = false := by decide) : DS X (.Assign [.Subscript (.Subscript (.Name x p) b1 p1) b2 apos] e pos) Δ P := fun B H F σ a D mm => by
  refine ⟨_, ps_asg (pe_w e) (pg_sub (pe_ix ix_list (pe_var hN hv hd hcd) (pe_w b1) hix) (pe_w b2) set_list hsub) hs hw ha, h.run a fun v B1 H1 F1 s1 r1 a1 => ?_⟩
  obtain ⟨l, as, a2⟩ := a1.opened hi
  have lt : n < Δ1.length := (List.getElem?_eq_some_iff.mp hi).1
  have hi2 : (Δ1.set n (.ow oa (rLLa l as dss)))[n]? = some (.ow oa (rLLa l as dss)) := List.getElem?_set_self lt
  obtain ⟨g1, g2, g3, g4⟩ := a2.ll hi2
  obtain ⟨w1, e1, f1⟩ := h1 B1 H1 F1 σ a1
  obtain ⟨w2, e2, f2⟩ := h2 B1 H1 F1 σ a1
  cases e1
  cases e2
  obtain ⟨z, vs, k1, k2, k3⟩ := g3.get hx
  refine ⟨.ref l, g1, f1 H1 (.inl rfl) _ ⟨l, _, i, .ref z, rfl, rfl, SqL.of g2, ?_, f2 H1 (.inl rfl) _ ?_⟩⟩
  · unfold L2.atI
    rw [List.length_map, g3.length, hm]
    show (as.map V.ref)[m]? = _
    rw [List.getElem?_map, k1]
    rfl
  · have nd := List.nodup_cons.mp g4
    have hlz : l ≠ z := fun y => nd.1 (y ▸ List.mem_of_getElem? k1)
    obtain ⟨F', s3, a3⟩ := a2.writeG (H' := upd H1 z (.lst (vs.set k v))) (R' := rLLa l as (dss.set m (xs.set k d))) hi2 g1 rLLa_ok (fun G _ ⟨q1, q2, q3, q4⟩ => by
        refine ⟨⟨rfl, q2, ?_, q4.set nd.2 k1 upd_same (k3.set r1 k) fun b hb => upd_ne hb⟩, fun b hb => upd_ne fun y => hb ?_⟩
        · rw [upd_ne hlz]; exact q3
        · rw [y, q2]; exact List.mem_cons_of_mem _ (List.mem_of_getElem? k1)) (fun b hb => by
        by_cases y : b = z
        · rw [y, upd_same]; exact nofun
        · rw [upd_ne y]; exact hb)
    rw [List.set_set] at a3
    have a4 := a3.swap (i := n) (R' := rLL (dss.set m (xs.set k d))) rLL_ok (List.getElem?_set_self lt) fun v G _ r => ⟨l, as, r⟩
    rw [List.set_set] at a4
    exact ⟨z, vs, j, k, rfl, rfl, k2, by rw [k3.length]; exact hk, mm.nx _ _ _ _ _ q (s1.trans s3) a4⟩
theorem cd_neB {a b : Bool} : CmpD X .NotEq (.bl a) (.bl b) (!decide (a = b)) := ⟨_, op_ne, fun B H v1 v2 Q s h1 h2 q => by
  cases h1
  cases h2
  refine ⟨rfl, ?_⟩
  have e : decide (V.bl a = V.bl b) = decide (a = b) := by
    by_cases h : a = b
    · rw [h]; simp
    · rw [decide_eq_false h, decide_eq_false fun y => h (V.bl.inj y)]
  rw [e]
  exact q _ (.bl _)⟩
theorem cr_reprN : CallR X (.builtin "repr") (fun xs H Q => xs = [.non] ∧ Q (.str (PyData.shown .none)) H) := fun pins s σ H vs us Q I r ⟨ev, q⟩ => by
  subst ev
  obtain ⟨u, eu, rx⟩ := vals1 r
  subst eu
  cases rx
  exact PySem.P.repr_of_none ⟨.str (PyData.shown .none), H, I.kept (t' := s.toks + 1) fun _ _ z => z, ⟨_, rfl⟩, q⟩
def oN : Option Nat → D
  | none => .non
  | some k => .int (k : Nat)
theorem ca_reprO {o : Option Nat} (h : ∀ k, o = some k → k < 2 ^ 64) : CalD X (.builtin "repr") [oN o] (.str (oN o).py.shown) := by
  cases o with
  | none => exact ⟨_, cr_reprN, fun B H vs Q s hv q => by
      obtain ⟨v, rfl, r⟩ := hv.one'
      cases r
      exact ⟨rfl, q _ (.str _)⟩⟩
  | some k =>
    have hk := h k rfl
    exact ⟨_, SkE.call_repr_int, fun B H vs Q s hv q => by
      obtain ⟨v, rfl, r⟩ := hv.one'
      cases r
      refine ⟨(k : Nat), rfl, ?_, q _ (.str _)⟩
      have : ((k : Nat) : Int).natAbs = k := by omega
      rw [this]
      by_cases z : k = 0
      · rw [z]; decide
      · exact Nat.lt_trans ((Nat.log2_lt z).mpr hk) (by decide)⟩
end
end DL
set_option Elab.async false
set_option linter.all false
set_option maxRecDepth 100000
set_option maxHeartbeats 4000000
/-! DL22: and / or whose second part changes what is known, the first being known -/
namespace DL
open PySem PySem.Spec PyProof.Rows L2
section
variable {X : Cx} {a b : Expr} {es : List Expr} {Δ Δ1 Δ2 : List Sk} {k k1 k2 : Bool} {pos : Pos}
theorem dw_andT (h : DT X a Δ true Δ1) (h' : DW X (.BoolOp .And (b :: es) pos) Δ1 k2 Δ2) : DW X (.BoolOp .And (a :: b :: es) pos) Δ k2 Δ2 := fun B H F σ a' Q q =>
  ⟨_, pw_and (pt_w a) (pw_w _), h B H F σ a' _ fun B1 H1 F1 s1 a1 => iteT (h' B1 H1 F1 σ a1 Q fun B2 H2 F2 s2 a2 => q B2 H2 F2 (s1.trans s2) a2)⟩
theorem dw_andF (h : DT X a Δ false Δ1) : DW X (.BoolOp .And (a :: b :: es) pos) Δ false Δ1 := fun B H F σ a' Q q =>
  ⟨_, pw_and (pt_w a) (pw_w _), h B H F σ a' _ fun B1 H1 F1 s1 a1 => iteF (q B1 H1 F1 s1 a1)⟩
theorem dw_orF (h : DT X a Δ false Δ1) (h' : DW X (.BoolOp .Or (b :: es) pos) Δ1 k2 Δ2) : DW X (.BoolOp .Or (a :: b :: es) pos) Δ k2 Δ2 := fun B H F σ a' Q q =>
  ⟨_, pw_or (pt_w a) (pw_w _), h B H F σ a' _ fun B1 H1 F1 s1 a1 => iteF (h' B1 H1 F1 σ a1 Q fun B2 H2 F2 s2 a2 => q B2 H2 F2 (s1.trans s2) a2)⟩
theorem dw_orT (h : DT X a Δ true Δ1) : DW X (.BoolOp .Or (a :: b :: es) pos) Δ true Δ1 := fun B H F σ a' Q q =>
  ⟨_, pw_or (pt_w a) (pw_w _), h B H F σ a' _ fun B1 H1 F1 s1 a1 => iteT (q B1 H1 F1 s1 a1)⟩
end
end DL
set_option Elab.async false
set_option linter.all false
set_option maxRecDepth 100000
set_option maxHeartbeats 4000000
/-! DL23: sorted(set(xs)), xs a list of ints -/
namespace DL
open PySem PySem.Spec PyProof.Rows L2
section
variable {P : Program} {w : World} {A : Around} {E : Value → Shared → Prop} {s : Shared}
/-- the heap with a new, empty set -/
abbrev setPush (w : World) (h : Heap) : Heap := h.push { cls := .type "set", dict := none, data := .set #[] 0 (.fresh 0 0 (!w.params.followText "set-order")) }
/-- the new set holds just these ints, all that stood stands -/
def SetIs (w : World) (ns : List Int) (s : Shared) (r : Shared) : Prop := ∃ h' tk c, r = { s with heap := h', toks := tk } ∧ SetR w h' s.heap.objs.size (fun j => decide (j ∈ ns)) c ∧ c ≤ ns.length ∧ ∀ b o, s.heap.get? b = some o → h'.get? b = some o
theorem setPush_old {h : Heap} {b : Addr} {o : Obj} (e : h.get? b = some o) : (setPush w h).get? b = some o := Heap.get?_push_of_some _ e
theorem setPush_new {h : Heap} : (setPush w h).get? h.objs.size = some { cls := .type "set", dict := none, data := .set #[] 0 (.fresh 0 0 (!w.params.followText "set-order")) } := Heap.get?_push_size _ rfl
theorem ints_val {its : Array Value} {ns : List Int} (hz : its.size = ns.length) (hi : PyProof.Rows.IntsAre its.toList ns) (i : Nat) (v : Value) (hv : its[i]? = some v) : ∃ k t, ns[i]? = some k ∧ v = .int k t := by
  have lt : i < ns.length := by rw [← hz]; exact (Array.getElem?_eq_some_iff.mp hv).1
  obtain ⟨t, e⟩ := PyProof.Rows.IntsAre.int_at hi i v (by rw [Array.getElem?_toList]; exact hv)
  refine ⟨ns[i], t, List.getElem?_eq_getElem lt, ?_⟩
  rw [e, List.getD_eq_getElem?_getD, List.getElem?_eq_getElem lt]
  rfl
set_option maxHeartbeats 6400000 in
/-- the filling of a new set out of a list of ints -/
theorem set_filled {l : Addr} {its : Array Value} (ns : List Int) (hh : A.handled = none) (hl : s.heap.IsList l its) (hi : PyProof.Rows.IntsAre its.toList ns) (hb : ns.length + 1 < scanBound) :
    wpAny (model P w) A.in1 (Builtin.«set.__init__» ⟨[.ref s.heap.objs.size, .ref l], []⟩)
      (fun fin s' => match fin with
        | .done f => wants (fun r s2 => r = .none ∧ SetIs w ns s s2) E (.ok f) s'
        | .again c' => c'.quiet = true ∧ codeAny (model P w) A c' (wants (fun r s2 => r = .none ∧ SetIs w ns s s2) E) s')
      (fun e s' => wants (fun r s2 => r = .none ∧ SetIs w ns s s2) E (.error e) s') { s with heap := setPush w s.heap } := by
  have hz : its.size = ns.length := by
    have q := PyProof.Rows.IntsAre.length hi
    rwa [Array.length_toList] at q
  obtain ⟨⟨ocls, odict, odata, oslots⟩, hol, hcl, nl, hdl⟩ := hl
  simp only at hcl hdl
  subst hcl
  subst hdl
  have hS := setPush_new (w := w) (h := s.heap)
  have hol' := setPush_old (w := w) hol
  have hl1 : (setPush w s.heap).IsList l its := ⟨_, hol', rfl, nl, rfl⟩
  have hsls := F.sub_list_set
  have hslf := F.sub_list_frozenset
  have hne : (Value.type "list" == Value.type "dict") = false := by decide
  unfold Builtin.«set.__init__» noKeywords Builtin.Frozenset.updateFrom
  generalize hPI : pyIter = PI
  wp_walk
  subst hPI
  refine wpAny_pyIter_list hl1 ?_
  refine wpAny_bind (wpAny_runValue ?_)
  have hlS : l < s.heap.objs.size := Heap.lt_size hol
  have hh3 : A.in1.in1.handled = none := by simp [hh]
  have hsz : (setPush w s.heap).objs.size = s.heap.objs.size + 1 := Heap.size_push ..
  have ne1 : l ≠ (setPush w s.heap).objs.size := by
    rw [hsz]
    exact Nat.ne_of_lt (Nat.lt_succ_of_lt hlS)
  have nin : s.heap.objs.size ∉ [(setPush w s.heap).objs.size, l] := by
    intro m
    rcases List.mem_cons.mp m with e | m
    · rw [hsz] at e
      exact absurd e (Nat.ne_of_lt (Nat.lt_succ_self _))
    · exact absurd (List.mem_singleton.mp m) (Nat.ne_of_gt hlS)
  have hget : ((setPush w s.heap).push { cls := .type "list_iterator", data := .fields #[.ref l, .int 0 0] }).get? s.heap.objs.size = some { cls := .type "set", dict := none, data := .set #[] 0 (.fresh 0 0 (!w.params.followText "set-order")) } := Heap.get?_push_of_some _ hS
  refine set_update_ints ((Walks.list hh3 _ l ne1 its).toS) s.heap.objs.size nin ns hz hb (ints_val hz hi) (its.size - 0) 0 _ (by omega) (Nat.zero_le _) ?hst ?hS0 ?hR
  case hst => exact ⟨⟨_, Heap.get?_push_size _ rfl, rfl, rfl⟩, hl1.push _⟩
  case hS0 => exact ⟨0, Nat.le_refl 0, setR_new_at hget⟩
  intro s' c hm hc hR
  obtain ⟨h', g', d', tk', os'⟩ := s'
  have eg : g' = s.gens := hm.gens
  have ed : d' = s.drawn := hm.drawn
  have eo : os' = s.os := hm.os
  subst eg; subst ed; subst eo
  rw [hz] at hc
  show wpAny _ _ _ _ _ _
  refine wpAny_pure ?_
  show wpAny _ _ (ret Value.none) _ _ _
  refine wpAny_pure ⟨rfl, h', tk', c, rfl, hR, hc, fun b o e => ?_⟩
  have lt := Heap.lt_size e
  refine hm.heap b o (fun m => ?_) (Heap.get?_push_of_some _ (setPush_old e))
  rcases List.mem_cons.mp m with q | m
  · exact absurd q (Nat.ne_of_lt lt)
  · have q : b = (setPush w s.heap).objs.size := List.mem_singleton.mp m
    rw [hsz] at q
    exact absurd q (Nat.ne_of_lt (Nat.lt_succ_of_lt lt))
set_option maxHeartbeats 6400000 in
/-- set(l), l a list of ints: the order in which it will be walked is told -/
theorem setOfL {l : Addr} {its : Array Value} (ns : List Int) {Q : Value → Shared → Prop} (hh : A.handled = none) (hl : s.heap.IsList l its) (hi : PyProof.Rows.IntsAre its.toList ns) (hb : ns.length + 1 < scanBound)
    (h : ∀ s2, SetIs w ns s s2 → Q (.ref s.heap.objs.size) s2) : wpAny (model P w) A (call (.type "set") [.ref l]) Q E s := by
  obtain ⟨c, tl, hmro⟩ := F.called_set.mro
  have hmade := F.called_set.made
  have hsub := F.called_set.sub
  refine wpAny_call (codeAny_of_tree ?_)
  show wpAny _ _ (callAny (.type "set") _) _ _ _
  refine wpAny_pure ⟨Code.quiet_builtin _ (by decide +kernel), codeAny_builtin F.entry_type_call ?_⟩
  rw [Around.under_plain (weight_type_call_type "set" [.ref l] []) rfl]
  have h1 := F.called_set.notType
  have h2 := F.called_set.canCreate
  have hct := F.typeCall_set_1 (.ref l)
  repeat (any_goals (first | assumption | wp_step))
  refine codeAny_mono (code_set_led1 (.ref l) (E := E) (Q₁ := fun obj s₁ => obj = .ref s.heap.objs.size ∧ s₁ = { s with heap := setPush w s.heap }) ⟨rfl, rfl⟩) fun r s₁ hr => ?_
  cases r with
  | error e => exact hr
  | ok fl =>
    cases fl with
    | ret obj =>
      obtain ⟨rfl, rfl⟩ := hr
      have hT : Shared.TypeIs { s with heap := setPush w s.heap } (.ref s.heap.objs.size) "set" := ⟨_, setPush_new, rfl⟩
      have hli := F.called_set.init.lookup
      have hbi := F.called_set.init.bind (.ref s.heap.objs.size)
      repeat (any_goals (first | assumption | wp_step))
      refine codeAny_mono (codeAny_call_builtin (R := wants (fun r s2 => r = .none ∧ SetIs w ns s s2) E) F.called_set.init.plain F.entry_set_init (check_set_init_1 hT ?_)) fun r2 s2 hr2 => ?_
      · exact set_filled ns (by simp [hh]) hl hi hb
      · cases r2 with
        | error e => exact hr2
        | ok fl2 =>
          cases fl2 with
          | ret r =>
            obtain ⟨rfl, hs2⟩ := hr2
            have goal := h _ hs2
            repeat (any_goals (first | assumption | wp_step))
          | _ => exact hr2.elim
    | _ => exact hr.elim
end
section
variable {X : Cx} {K : PySem.W.Frag} {B B' H H' : Hp}
/-- the ints of a list, each once, rising -/
def insI (x : Int) : List Int → List Int
  | [] => [x]
  | y :: l => if x < y then x :: y :: l else if x = y then y :: l else y :: insI x l
def setI (l : List Int) : List Int := l.foldr insI []
theorem insI_mem {x z : Int} : ∀ {l : List Int}, z ∈ insI x l ↔ z = x ∨ z ∈ l
  | [] => by simp [insI]
  | y :: l => by
    unfold insI
    by_cases h1 : x < y
    · rw [if_pos h1]; simp
    · rw [if_neg h1]
      by_cases h2 : x = y
      · rw [if_pos h2, h2]; simp
      · rw [if_neg h2, List.mem_cons, insI_mem (l := l), List.mem_cons]
        constructor
        · rintro (a | a | a)
          · exact .inr (.inl a)
          · exact .inl a
          · exact .inr (.inr a)
        · rintro (a | a | a)
          · exact .inr (.inl a)
          · exact .inl a
          · exact .inr (.inr a)
theorem insI_pw {x : Int} : ∀ {l : List Int}, l.Pairwise (· < ·) → (insI x l).Pairwise (· < ·)
  | [], _ => by unfold insI; exact List.pairwise_singleton _ _
  | y :: l, h => by
    have q := List.pairwise_cons.mp h
    unfold insI
    by_cases h1 : x < y
    · rw [if_pos h1]
      refine List.pairwise_cons.mpr ⟨fun z hz => ?_, h⟩
      rcases List.mem_cons.mp hz with e | hz
      · rw [e]; exact h1
      · exact Int.lt_trans h1 (q.1 z hz)
    · rw [if_neg h1]
      by_cases h2 : x = y
      · rw [if_pos h2]; exact h
      · rw [if_neg h2]
        refine List.pairwise_cons.mpr ⟨fun z hz => ?_, insI_pw q.2⟩
        rcases insI_mem.mp hz with e | hz
        · omega
        · exact q.1 z hz
theorem setI_mem {z : Int} : ∀ {l : List Int}, z ∈ setI l ↔ z ∈ l
  | [] => Iff.rfl
  | x :: l => by
    show z ∈ insI x (setI l) ↔ _
    rw [insI_mem, setI_mem (l := l), List.mem_cons]
theorem setI_pw : ∀ {l : List Int}, (setI l).Pairwise (· < ·)
  | [] => .nil
  | x :: l => insI_pw (setI_pw (l := l))
theorem rise_uniq : ∀ {l1 l2 : List Int}, l1.Pairwise (· < ·) → l2.Pairwise (· < ·) → (∀ z, z ∈ l1 ↔ z ∈ l2) → l1 = l2
  | [], [], _, _, _ => rfl
  | [], b :: l2, _, _, h => by have := (h b).mpr (List.mem_cons_self ..); cases this
  | a :: l1, [], _, _, h => by have := (h a).mp (List.mem_cons_self ..); cases this
  | a :: l1, b :: l2, h1, h2, h => by
    have q1 := List.pairwise_cons.mp h1
    have q2 := List.pairwise_cons.mp h2
    have m1 := (h a).mp (List.mem_cons_self ..)
    have m2 := (h b).mpr (List.mem_cons_self ..)
    have e : a = b := by
      rcases List.mem_cons.mp m1 with e | m1
      · exact e
      rcases List.mem_cons.mp m2 with e | m2
      · exact e.symm
      have := q1.1 b m2
      have := q2.1 a m1
      omega
    subst e
    rw [rise_uniq q1.2 q2.2 fun z => ?_]
    constructor
    · intro hz
      rcases List.mem_cons.mp ((h z).mp (List.mem_cons_of_mem _ hz)) with e | m
      · have := q1.1 z hz; omega
      · exact m
    · intro hz
      rcases List.mem_cons.mp ((h z).mpr (List.mem_cons_of_mem _ hz)) with e | m
      · have := q2.1 z hz; omega
      · exact m
theorem insI_len {x : Int} : ∀ {l : List Int}, (insI x l).length ≤ l.length + 1
  | [] => Nat.le_refl _
  | y :: l => by
    unfold insI
    by_cases h1 : x < y
    · rw [if_pos h1]; exact Nat.le_refl _
    · rw [if_neg h1]
      by_cases h2 : x = y
      · rw [if_pos h2]; exact Nat.le_succ _
      · rw [if_neg h2]
        exact Nat.succ_le_succ (insI_len (l := l))
theorem setI_len : ∀ {l : List Int}, (setI l).length ≤ l.length
  | [] => Nat.le_refl _
  | x :: l => Nat.le_trans insI_len (Nat.succ_le_succ (setI_len (l := l)))
theorem setI_ne {l : List Int} (h : l ≠ []) : 0 < (setI l).length := by
  cases l with
  | nil => exact absurd rfl h
  | cons x l => exact List.length_pos_of_mem (setI_mem.mpr (List.mem_cons_self ..))
/-- set(xs), xs a list of ints -/
def rSetL (K : PySem.W.Frag) (w : World) : List V → Hp → VK → Prop := fun xs H Q => ∃ (l : Addr) (ns : List Int), xs = [V.ref l] ∧ SqL K H l (ns.map V.int) ∧ ns.length + 1 < scanBound ∧ ∀ a c, H a = none → c ≤ ns.length → Q (.ref a) (upd H a (SetO w a (fun j => decide (j ∈ ns)) c))
theorem cr_setL (hc : X.calm = true) : CallR X (.type "set") (rSetL X.K X.w) := by
  intro pins s σ H xs us Q I r h
  obtain ⟨l, ns, rfl, hl, hb, q⟩ := h
  rw [Vals.ref1 r]
  obtain ⟨its, rv, pl, hz⟩ := I.list hl
  have hn : H s.heap.objs.size = none := I.hok.fresh (Nat.le_refl _)
  refine setOfL ns (I.ok.hd hc) pl.isList (by simpa using rv.ints) hb fun s2 ⟨h', tk, c, e, hR, hcl, keep⟩ => ?_
  subst e
  exact ⟨.ref s.heap.objs.size, upd H s.heap.objs.size (SetO X.w s.heap.objs.size (fun j => decide (j ∈ ns)) c), I.laid (t' := tk) keep (Nat.le_refl _) (setO_new hR), rfl, q _ c hn hcl⟩
variable {a : Expr} {Δ Δ1 : List Sk} {ns : List Int} {p p2 pos rpos : Pos}
theorem de_sset (h : DV X a Δ (.lst (ns.map D.int)) Δ1) (hn : ns.length < 64) (cm : X.calm = true) (hm : X.mg "sorted" = none) (hm2 : X.mg "set" = none) (hg : Gl X "sorted" := by rfl) (hg2 : Gl X "set" := by rfl)
    (h1 : starEach [a] X.env = (false, eval a X.env) :: starEach [] X.env := by rfl) (h2 : starEach [.Call (.Name "set" p2) [a] [] rpos] X.env = (false, eval (.Call (.Name "set" p2) [a] [] rpos) X.env) :: starEach [] X.env := by rfl) :
    DE X (.Call (.Name "sorted" p) [.Call (.Name "set" p2) [a] [] rpos] [] pos) Δ (.ow none (rLst ((setI ns).map D.int))) Δ1 := fun B H F σ a' Q Q_ =>
  ⟨_, pe_callB (cr_sortedSet cm) hg hm (by decide +kernel) (pa_cons (pe_callTy (cr_setL cm) hg2 hm2 (by decide +kernel) (pa_cons (pe_w a) pa_nil h1) (by decide) (by decide) h1 (by rfl)) pa_nil h2) (by decide) (by decide) h2 (by rfl), h.run a' fun v B1 H1 F1 s1 r1 a1 => by
    cases r1 with
    | @lst l vs _ e1 r1 =>
      have ev := r1.ints
      subst ev
      refine ⟨l, ns, rfl, SqL.of (a1.sub.lst e1), by unfold scanBound; omega, fun q c hq hc => ?_⟩
      refine ⟨q, _, c, rfl, upd_same, by omega, fun ms r pw hm hl hr => ?_⟩
      have e : ms = setI ns := rise_uniq pw setI_pw fun z => by rw [hm, setI_mem, decide_eq_true_eq]
      subst e
      obtain ⟨s2, a2⟩ := a1.laid (o := SetO X.w q (fun j => decide (j ∈ ns)) c) hq
      obtain ⟨s3, a3⟩ := a2.made (o := .lst ((setI ns).map V.int)) (R := rLst ((setI ns).map D.int)) hr rLst_ok ⟨r, _, rfl, rfl, upd_same, DnA.of_ints _⟩
      exact Q_ _ _ _ _ ((s1.trans s2).trans s3) a3⟩
variable {xs : List D} {d : D}
theorem any_eqv : ∀ xs : List D, (D.pyA xs).any (fun z => PyData.eqv z d.py) = xs.any fun z => z.eqv d
  | [] => rfl
  | x :: xs => by
    show (PyData.eqv x.py d.py || (D.pyA xs).any _) = (x.eqv d || xs.any _)
    rw [any_eqv xs]
    rfl
theorem cd_ninD (hu : X.A.units + 65 < cLine) (g1 : (D.lst xs).good = true) (g2 : d.good = true) : CmpD X .NotIn d (.lst xs) (!xs.any fun z => z.eqv d) := ⟨_, op_notInD hu, fun B H v1 v2 Q s h1 h2 q => by
  have e1 := Bool.and_eq_true_iff.mp g1
  have e2 := Bool.and_eq_true_iff.mp g2
  have dv := h2.dp s e1.1
  refine ⟨d.py, D.pyA xs, h1.dp s e2.1, dv, e2.2, e1.2, ?_⟩
  rw [any_eqv]
  exact q _ (.bl _)⟩
theorem cd_inD (hu : X.A.units + 65 < cLine) (g1 : (D.lst xs).good = true) (g2 : d.good = true) : CmpD X .In d (.lst xs) (xs.any fun z => z.eqv d) := ⟨_, op_inD hu, fun B H v1 v2 Q s h1 h2 q => by
  have e1 := Bool.and_eq_true_iff.mp g1
  have e2 := Bool.and_eq_true_iff.mp g2
  have dv := h2.dp s e1.1
  refine ⟨d.py, D.pyA xs, h1.dp s e2.1, dv, e2.2, e1.2, ?_⟩
  rw [any_eqv]
  exact q _ (.bl _)⟩
end
end DL
set_option Elab.async false
set_option linter.all false
set_option maxRecDepth 100000
set_option maxHeartbeats 4000000
/-! DL24: exceptions: raise, calls that raise, try .. except X -/
namespace DL
open PySem PySem.Spec PyProof.Rows L2
/-- what stands of an exception class of the program -/
structure Exn (K : PySem.W.Frag) (mg : Str → Option Value) (x : Str) (C : Addr) : Prop where
  g : mg x = some (.ref C)
  ex : PySem.W.excIn K C He.veBase "ValueError.__new__" = true
  kp : PySem.W.keepIn K (.ref C) = true
  sb : PySem.W.subIn K (.ref C) (.type "BaseException") = some true
  ty : PySem.W.typeIn K (.ref C) = some (.type "type")
/-- the context of a def that raises -/
abbrev GX (P : Program) (w : World) (K : PySem.W.Frag) (mg : Str → Option Value) (base : Heap) (N : List Str) (qual : Str) (sc : Scope) (f : Addr) (cdv : Value) (A : Around) (outer : List Env) (s : Shared) (H : Hp) (E : XK) : Cx := cxOf (L2.CX P w) P w K mg base N qual sc f cdv A outer s H E
section
variable {X : Cx} {W : WX} {C : Value} {st : Stmt} {sts sts' : List Stmt} {Δ Δ' Δ1 Δ2 : List Sk} {e c : Expr} {es : List Expr} {ds : List D} {pos p p2 pos2 : Pos} {x : Str} {k : Bool} {R : List Sk → Prop}
/-- the statement ends with an exception of class C; of the state then R holds -/
def DX1 (X : Cx) (W : WX) (C : Value) (st : Stmt) (Δ : List Sk) (R : List Sk → Prop) : Prop := ∀ B H F σ, At X.K B H F Δ σ → ∀ D : Ends, (∀ Δ' σ' B' H' F', R Δ' → Stp B H F B' H' F' → At X.K B' H' F' Δ' σ' → W C none σ' H') → wS X st D σ H
def DSx (X : Cx) (W : WX) (C : Value) (sts : List Stmt) (Δ : List Sk) (R : List Sk → Prop) : Prop := ∀ B H F σ, At X.K B H F Δ σ → ∀ D : Ends, (∀ Δ' σ' B' H' F', R Δ' → Stp B H F B' H' F' → At X.K B' H' F' Δ' σ' → W C none σ' H') → wSs X sts D σ H
def DEx (X : Cx) (W : WX) (C : Value) (e : Expr) (Δ : List Sk) (R : List Sk → Prop) : Prop := ∀ B H F σ, At X.K B H F Δ σ → ∀ Q : VK, (∀ Δ' B' H' F', R Δ' → Stp B H F B' H' F' → At X.K B' H' F' Δ' σ → W C none σ H') → wE X e σ H Q
theorem dsx_here (h : DX1 X W C st Δ R) : DSx X W C (st :: sts) Δ R := fun B H F σ a D m => ⟨_, pss_cons (ps_w st) (pss_w sts), h B H F σ a { D with nx := wSs X sts D } m⟩
theorem dsx_cons (h : DS X st Δ { nx := fun Δ1 => DSx X W C sts Δ1 R, rt := fun _ _ => False }) : DSx X W C (st :: sts) Δ R := fun B H F σ a D m =>
  ⟨_, pss_cons (ps_w st) (pss_w sts), h B H F σ a { D with nx := wSs X sts D } ⟨fun Δ1 σ1 B1 H1 F1 q s1 a1 => q B1 H1 F1 σ1 a1 D fun Δ' σ' B' H' F' r' s' a' => m Δ' σ' B' H' F' r' (s1.trans s') a', fun _ _ _ _ _ _ _ q => q.elim, fun _ _ _ _ _ q => q.elim, fun _ _ _ _ _ q => q.elim⟩⟩
theorem dx1_ifT (h : DT X c Δ true Δ1) (h1 : DSx X W C sts Δ1 R) : DX1 X W C (.If c sts sts' pos) Δ R := fun B H F σ a D m =>
  ⟨_, ps_if (pt_w c) (pss_w sts) (pss_w sts'), h B H F σ a _ fun B' H' F' s a' => iteT (h1 B' H' F' σ a' D fun Δ2 σ2 B2 H2 F2 r2 s2 a2 => m Δ2 σ2 B2 H2 F2 r2 (s.trans s2) a2)⟩
theorem dx1_ifF (h : DT X c Δ false Δ1) (h1 : DSx X W C sts' Δ1 R) : DX1 X W C (.If c sts sts' pos) Δ R := fun B H F σ a D m =>
  ⟨_, ps_if (pt_w c) (pss_w sts) (pss_w sts'), h B H F σ a _ fun B' H' F' s a' => iteF (h1 B' H' F' σ a' D fun Δ2 σ2 B2 H2 F2 r2 s2 a2 => m Δ2 σ2 B2 H2 F2 r2 (s.trans s2) a2)⟩
theorem dx1_raise {m : Str} {j : Nat} {Ca : Addr} (hc : X.calm = true) (tk : Takes X W) (F : Exn X.K X.mg x Ca) (rr : R Δ) (hg : Gl X x := by rfl) (hdb : (x == ("__debug__" : Str)) = false := by decide) :
    DX1 X W (.ref Ca) (.Raise (some (.Call (.Name x p) [.Constant (.str m) j p2] [] pos)) none pos2) Δ R := fun B H F1 σ a D q =>
  ⟨_, ps_raise hc tk (pmk_own PySem.F.excBase_ValueError F.ex F.g F.kp (raises_own F.sb F.ty) hg hdb), q Δ σ B H F1 rr .refl a⟩
theorem dx1_ret (h : DEx X W C e Δ R) : DX1 X W C (.Return (some e) pos) Δ R := fun B H F σ a D m => ⟨_, ps_ret (pe_w e), h B H F σ a _ fun Δ' B' H' F' r s a' => m Δ' σ B' H' F' r s a'⟩
theorem dx1_expr (h : DEx X W C e Δ R) (hs : swapsWith e none pos.line X.env = pure false := by rfl) : DX1 X W C (.Expr e pos) Δ R := fun B H F σ a D m => ⟨_, ps_expr (pe_w e) hs, h B H F σ a _ fun Δ' B' H' F' r s a' => m Δ' σ B' H' F' r s a'⟩
/-- a def that raises: pre says of which arguments -/
def SpX (K : PySem.W.Frag) (n : Nat) (pre : List D → Prop) (C : Value) : Sp := fun vs H _ E => vs.length = n ∧ ∃ B ds, pre ds ∧ Sub B H ∧ DnA K B vs ds ∧ ∀ B' H', Stp B H [] B' H' [] → Sub B' H' → E C none H'
theorem dex_call {lv lk n : Nat} {ps : List Str} {pre : List D → Prop} (G : Cal X.prog X.w X.K X.mg X.base (L2.CX X.prog X.w) lk x ps (SpX X.K n pre C)) (hr : Room lv X.A) (tk : Takes X W) (ha : DA X (e :: es) Δ ds Δ1) (hp : pre ds) (rr : R Δ1)
    (hn : ds.length = n) (hl : lk ≤ lv := by decide) (hg : Gl X x := by rfl) (hdb : (x == ("__debug__" : Str)) = false := by decide) (he : starEach (e :: es) X.env = (false, eval e X.env) :: starEach es X.env := by rfl) (hpl : (backTo pos (starEach es X.env)).any (·.1) = false := by rfl) :
    DEx X W C (.Call (.Name x p) (e :: es) [] pos) Δ R := fun B H F σ a Q q => by
  obtain ⟨f, fd, G, hm, hk, hb⟩ := G.ex
  refine ⟨_, pe_callS G (hr.mono hl) hg hm hk hb (passAt tk) (pa_w _) hdb he hpl, ha B H F σ a _ fun vs B1 H1 F1 s1 r1 a1 => ⟨by rw [r1.length, hn], B1, ds, hp, a1.sub, r1, fun B2 H2 s2 sub2 => ?_⟩⟩
  have a2 : At X.K B2 H2 [] [] [] := ⟨sub2, .nil, List.nodup_nil, fun _ m => by cases m⟩
  obtain ⟨j1, j2, j3, j4⟩ := At.join a1.sl a1.nd a1.out (fun _ _ m => by cases m) s2 a2
  exact q Δ1 B2 H2 F1 rr (s1.trans (s2.wide (F0 := F1))) ⟨sub2, j1, by simpa using j4, j3⟩
/-- x = f(..), f raises -/
theorem dx1_set (n : Nat) (h : DEx X W C e Δ R) (hN : X.N.Nodup) (hi : X.N[n]? = some x) (hx : Loc X.env.scope x) (hs : swapsWith e (some (.Name x p)) pos.line X.env = pure false := by rfl)
    (hf : X.fn x = true ∨ X.env.scope.names.lookup x = some .local := by first | exact .inl rfl | exact .inr rfl | assumption) : DX1 X W C (.Assign [.Name x p] e pos) Δ R := fun B H F σ a D m =>
  ⟨_, ps_set hN hi hx (pe_w e) hs hf, h B H F σ a _ fun Δ' B' H' F' r s a' => m Δ' σ B' H' F' r s a'⟩
end
/-! ### try .. except X: .. -/
section
variable {X : Cx} {W : WX} {C : Value} {body suite : List Stmt} {b₀ : Stmt} {Δ Δ' : List Sk} {x : Str} {c : Value} {np pos pos' : Pos} {R : List Sk → Prop}
def wTry (X : Cx) (body : List Stmt) (W : WX) : TS := fun D σ H => ∀ (pn : List (Addr × Obj)) (xe : Value → Shared → Prop), Takes (X.tr pn xe) W → PassesOwn (model X.prog X.w) X.A X.env xe → wSs (X.tr pn xe) body D σ H
def wSuite (X : Cx) (sts : List Stmt) (a : Addr) (cls : Value) (d : Option Addr) : TS := fun D σ H => ∀ (oe : Obj) (pn : List (Addr × Obj)), Zc cls d oe → (∃ vs, oe.data = .fields vs) → wSs (X.suite a ((a, oe) :: pn)) sts D σ H
theorem pss_try {pn : List (Addr × Obj)} {xe : Value → Shared → Prop} (tk : Takes (X.tr pn xe) W) (po : PassesOwn (model X.prog X.w) X.A X.env xe) : PSs (X.tr pn xe) body (wTry X body W) :=
  ⟨fun pins s σ H D I h => (pss_w body).run pins s σ H D I (h pn xe tk po)⟩
theorem pss_suite {a : Addr} {oe : Obj} {cls : Value} {d : Option Addr} {pn : List (Addr × Obj)} {sts : List Stmt} (hz : Zc cls d oe) (hf : ∃ vs, oe.data = .fields vs) : PSs (X.suite a ((a, oe) :: pn)) sts (wSuite X sts a cls d) :=
  ⟨fun pins s σ H D I h => (pss_w sts).run pins s σ H D I (h oe pn hz hf)⟩
/-- no exception comes -/
theorem ds_tryN {P : Pst} (hs : X.stack = X.env :: X.outer) (hf : X.env.frame = some X.env.locals) (hc : Names X x c) (tk : Takes X fun _ _ _ _ => False)
    (hb : ∀ pn xe W, Takes (X.tr pn xe) W → PassesOwn (model X.prog X.w) X.A X.env xe → DSs (X.tr pn xe) body Δ P) :
    DS X (.Try body [.ExceptHandler (some (.Name x np)) none (b₀ :: suite) pos'] [] [] pos) Δ P := fun B H F σ a D m =>
  ⟨_, ps_try_only hs hf hc tk (fun W pn xe t po => pss_try t po) (fun a oe cls d pn hz hf => pss_suite hz hf), fun pn xe t po => hb pn xe _ t po B H F σ a D m⟩
/-- an exception comes, of a class that is meant -/
theorem ds_tryX {P : Pst} (hs : X.stack = X.env :: X.outer) (hf : X.env.frame = some X.env.locals) (hc : Names X x c) (tk : Takes X fun _ _ _ _ => False) (hm : PySem.W.exmOne X.K C c = some true)
    (hb : ∀ pn xe W, Takes (X.tr pn xe) W → PassesOwn (model X.prog X.w) X.A X.env xe → DSx (X.tr pn xe) W C body Δ R) (hu : ∀ a oe pn Δ', R Δ' → DSs (X.suite a ((a, oe) :: pn)) (b₀ :: suite) Δ' P) :
    DS X (.Try body [.ExceptHandler (some (.Name x np)) none (b₀ :: suite) pos'] [] [] pos) Δ P := fun B H F σ a D m =>
  ⟨_, ps_try_only hs hf hc tk (fun W pn xe t po => pss_try t po) (fun a oe cls d pn hz hf => pss_suite hz hf), fun pn xe t po => hb pn xe _ t po B H F σ a D fun Δ' σ' B' H' F' r' s' a' =>
    ⟨true, hm, fun _ ad _ oe pn2 _ _ => hu ad oe pn2 Δ' r' B' H' F' σ' a' D (m.step s'), fun z => by cases z⟩⟩
end
/-! ### defs that raise -/
section
variable {P : Program} {w : World} {K : PySem.W.Frag} {mg : Str → Option Value} {base : Heap} {x qual : Str} {st : Stmt} {f : Addr} {fd : FuncData} {N ps : List Str} {lv : Nat}
theorem fnX {pre : List D → Prop} {C : Value} (F : Fun K x qual st f fd) (S : FnScope N ps (defScope st))
    (hb : ∀ cdv A outer s H E W, Room lv (A.deeper (envOfC qual (defScope st) s.heap.objs.size f cdv)) → Takes (GX P w K mg base N qual (defScope st) f cdv A outer s H E) W → ∀ ds, pre ds → ds.length = ps.length →
      DSx (GX P w K mg base N qual (defScope st) f cdv A outer s H E) W C (defBody st) (ds.map Sk.im ++ uns (N.length - ps.length)) fun _ => True) : FnOk P w K mg base (L2.CX P w) (lv + 1) f fd ps (SpX K ps.length pre C) := by
  refine F.okX S (fun vs H Q E h => h.1) (fun cdv A outer s H vs Q E hr h => ?_)
  obtain ⟨hl, B, ds, hp, sub, rv, q⟩ := h
  refine ⟨_, pss_w _, ?_⟩
  have hd : ds.length = ps.length := by rw [← rv.length, hl]
  have hx := hb cdv A outer s H E (fun cls d _ H' => E cls d H') hr (takes_of rfl rfl rfl rfl) ds hp hd
  refine hx B H [] _ ⟨sub, ?_, List.nodup_nil, fun _ m => by cases m⟩ _ fun Δ' σ' B' H' F' _ s' a' => q B' H' (s'.less fun _ m => by cases m) a'.sub
  show Sl K B H _ (vs.map some ++ List.replicate (N.length - vs.length) none) []
  rw [hl]
  exact sl_args rv _
/-- one def, two promises -/
theorem fn_or {k1 k2 n : Nat} {p1 p2 pre : List D → Sk → Prop} (h1 : FnOk P w K mg base CX0 k1 f fd ps (Sp0 K n p1)) (h2 : FnOk P w K mg base CX0 k2 f fd ps (Sp0 K n p2)) (im : ∀ ds r, pre ds r → p1 ds r ∨ p2 ds r) : FnOk P w K mg base CX0 (max k1 k2) f fd ps (Sp0 K n pre) := by
  refine ⟨?_, ?_⟩
  · rintro vs H Q E ⟨hl, B, ds, rr, hp, q⟩
    rcases im ds rr hp with h | h
    · exact h1.len vs H Q E ⟨hl, B, ds, rr, h, q⟩
    · exact h2.len vs H Q E ⟨hl, B, ds, rr, h, q⟩
  · rintro A outer s H args us vs Q E hr e0 b r ⟨hl, B, ds, rr, hp, q⟩
    rcases im ds rr hp with h | h
    · exact h1.run A outer s H args us vs Q E (hr.mono (Nat.le_max_left ..)) e0 b r ⟨hl, B, ds, rr, h, q⟩
    · exact h2.run A outer s H args us vs Q E (hr.mono (Nat.le_max_right ..)) e0 b r ⟨hl, B, ds, rr, h, q⟩
end
end DL
namespace DL
open PySem PySem.Spec PyProof.Rows L2
/-! M0: small rules more -/
def rngN (n : Nat) : List D := (List.range n).map fun i => D.int (i : Nat)
theorem rngN_length (n : Nat) : (rngN n).length = n := by simp [rngN]
theorem rngN_get {n i : Nat} {d : D} (h : (rngN n)[i]? = some d) : i < n ∧ d = .int (i : Nat) := by
  have lt : i < n := by
    have := (List.getElem?_eq_some_iff.mp h).1
    rwa [rngN_length] at this
  refine ⟨lt, ?_⟩
  unfold rngN at h
  rw [List.getElem?_map, List.getElem?_range lt] at h
  exact (Option.some.inj h).symm
theorem rngD_zero (n : Nat) : rngD 0 n = rngN n := by
  unfold rngD rngN
  congr 1
  funext i
  rw [Int.zero_add]
section
variable {X : Cx} {a : Expr} {tg : Expr} {Δ Δ1 : List Sk} {p pos : Pos}
theorem di_rngT {j : Int} (hm : X.mg "range" = none) (h : DA X [a] Δ [.int j] Δ1) (h1 : -(2 ^ 62) ≤ j) (h2 : j < 2 ^ 62) (hg : Gl X "range" := by rfl) (hs : starEach [a] X.env = [(false, eval a X.env)] := by rfl) : DI X tg (.Call (.Name "range" p) [a] [] pos) Δ (rngN j.toNat) Δ1 := by
  rw [← rngD_zero]
  exact di_rng1 hm h h1 h2 hg hs
theorem di_rngN {n : Nat} (hm : X.mg "range" = none) (h : DA X [a] Δ [.int (n : Nat)] Δ1) (h1 : n ≤ 1000000) (hg : Gl X "range" := by rfl) (hs : starEach [a] X.env = [(false, eval a X.env)] := by rfl) : DI X tg (.Call (.Name "range" p) [a] [] pos) Δ (rngN n) Δ1 := by
  have := di_rngT (tg := tg) (p := p) (pos := pos) hm h (by omega) (by omega) hg hs
  rwa [Int.toNat_natCast] at this
end
/-- an item of a list of ints at an open place -/
theorem at_ints (ns : List Int) {i : Int} (h1 : 0 ≤ i) (h2 : i < ns.length) : L2.atI (ns.map D.int) i = some (.int (ns.getD i.toNat 0)) := by
  have e : i = (i.toNat : Nat) := by omega
  have l : i.toNat < ns.length := by omega
  rw [e]
  refine atI_nat ?_
  rw [Int.toNat_natCast, List.getElem?_map, List.getElem?_eq_getElem l, List.getD_eq_getElem?_getD, List.getElem?_eq_getElem l]
  rfl
/-- .. of any list -/
theorem at_any {ds : List D} {i : Int} (h1 : 0 ≤ i) (h2 : i < ds.length) : L2.atI ds i = some (ds.getD i.toNat .non) := by
  have e : i = (i.toNat : Nat) := by omega
  have l : i.toNat < ds.length := by omega
  rw [e]
  refine atI_nat ?_
  rw [Int.toNat_natCast, List.getElem?_eq_getElem l, List.getD_eq_getElem?_getD, List.getElem?_eq_getElem l]
  rfl
theorem hide_ok {Δ : List Sk} {vs : List Nat} (h : hide Δ vs = Δ) : ∀ j ∈ vs, Δ[j]? = some .un ∨ Δ[j]? = none := fun j m => by
  have := hide_un (Δ := Δ) m
  rwa [h] at this
end DL
namespace DL
open PySem PySem.Spec PyProof.Rows L2
/-! M1: the trees, the draws -/
abbrev Pool := Int × Int × Int
def take (p : Pool) (many : Int) : Int × Pool :=
  if p.2.1 = 1 then (p.1 % many, (p.1 / many, p.2.1, p.2.2)) else
  let step := p.2.2 + 1
  let mark := (p.1 % 9999999157 + 1061) * (73 * step + 107)
  let mark := mark + 3637 * step * step
  let mark := mark * mark % 99999999499
  (mark * (mark + 89) % 99999999799 / 149 % many, (p.1, p.2.1, step))
def poolD (p : Pool) : List D := [.int p.1, .int p.2.1, .int p.2.2]
/-- how often it was drawn, at most -/
def PB (n : Int) (p : Pool) : Prop := 0 ≤ p.2.2 ∧ p.2.2 ≤ n
def preTake : ResT → List D → Sk → ResT → Prop := fun R ds r R' => ∃ p many, R = rLst (poolD p) ∧ ds = [.int many] ∧ (1 ≤ many ∧ many ≤ 10 ^ 15) ∧ PB 500000 p ∧ r = .im (.int (take p many).1) ∧ R' = rLst (poolD (take p many).2)
theorem take_mod (p : Pool) {many : Int} (h : 1 ≤ many) : 0 ≤ (take p many).1 ∧ (take p many).1 < many := by
  unfold take
  split
  · exact ⟨Int.emod_nonneg _ (by omega), Int.emod_lt_of_pos _ (by omega)⟩
  · exact ⟨Int.emod_nonneg _ (by omega), Int.emod_lt_of_pos _ (by omega)⟩
theorem take_pb {n : Int} {p : Pool} (many : Int) (h : PB n p) : PB (n + 1) (take p many).2 := by
  obtain ⟨h1, h2⟩ := h
  unfold take
  split
  · exact ⟨h1, by show p.2.2 ≤ n + 1; omega⟩
  · exact ⟨by show 0 ≤ p.2.2 + 1; omega, by show p.2.2 + 1 ≤ n + 1; omega⟩
theorem PB.le {n m : Int} {p : Pool} (h : PB n p) (e : n ≤ m) : PB m p := ⟨h.1, Int.le_trans h.2 e⟩

theorem take_one {a b c many : Int} {R : ResT} {oa : Option V} (h : decide ((a, b, c).2.1 = 1) = true) (hR : R = rLst [.int (a / many), .int b, .int c] := by rfl) : Sk.im (.int (a % many)) = .im (.int (take (a, b, c) many).1) ∧ some (Sk.ow oa R) = some (.ow oa (rLst (poolD (take (a, b, c) many).2))) := by
  have e : b = 1 := of_decide_eq_true h
  subst hR
  unfold take
  rw [if_pos e]
  exact ⟨rfl, rfl⟩
theorem take_two {a b c many : Int} {R : ResT} {oa : Option V} {x : Int} (h : decide ((a, b, c).2.1 = 1) = false) (hx : x = (let step := c + 1
    let mark := (a % 9999999157 + 1061) * (73 * step + 107)
    let mark := mark + 3637 * step * step
    let mark := mark * mark % 99999999499
    mark * (mark + 89) % 99999999799 / 149 % many) := by rfl) (hR : R = rLst [.int a, .int b, .int (c + 1)] := by rfl) : Sk.im (.int x) = .im (.int (take (a, b, c) many).1) ∧ some (Sk.ow oa R) = some (.ow oa (rLst (poolD (take (a, b, c) many).2))) := by
  have e : ¬ b = 1 := of_decide_eq_false h
  subst hR hx
  unfold take
  rw [if_neg e]
  exact ⟨rfl, rfl⟩
theorem take_bd {a c : Int} (h1 : 0 ≤ c) (h2 : c ≤ 500000) : (-(2 ^ 64) < (a % 9999999157 + 1061) * (73 * (c + 1) + 107) + 3637 * (c + 1) * (c + 1) ∧ (a % 9999999157 + 1061) * (73 * (c + 1) + 107) + 3637 * (c + 1) * (c + 1) < 2 ^ 64) ∨
    (-(2 ^ 64) < (a % 9999999157 + 1061) * (73 * (c + 1) + 107) + 3637 * (c + 1) * (c + 1) ∧ (a % 9999999157 + 1061) * (73 * (c + 1) + 107) + 3637 * (c + 1) * (c + 1) < 2 ^ 64) := by
  have m0 := Int.emod_nonneg a (show (9999999157 : Int) ≠ 0 by decide)
  have m1 := Int.emod_lt_of_pos a (show (0 : Int) < 9999999157 by decide)
  have a1 : 0 ≤ (a % 9999999157 + 1061) * (73 * (c + 1) + 107) := Int.mul_nonneg (by omega) (by omega)
  have a2 : (a % 9999999157 + 1061) * (73 * (c + 1) + 107) ≤ 10000001000 * 40000000 := Int.mul_le_mul (by omega) (by omega) (by omega) (by decide)
  have a3 : 0 ≤ 3637 * (c + 1) * (c + 1) := Int.mul_nonneg (by omega) (by omega)
  have a4 : 3637 * (c + 1) * (c + 1) ≤ 2000000000 * 500001 := Int.mul_le_mul (by omega) (by omega) (by omega) (by decide)
  exact .inl ⟨by omega, by omega⟩

/-- a whole number and no truth -/
def D.whole : D → Bool
  | .int _ => true
  | _ => false
def D.isI : D → Bool
  | .int _ => true
  | .bl _ => true
  | _ => false
def D.isB : D → Bool
  | .bl _ => true
  | _ => false
def D.isT : D → Bool
  | .tup _ => true
  | .rot _ => true
  | _ => false
def D.isL : D → Bool
  | .lst _ => true
  | .rol _ => true
  | _ => false
def tyNames : List String := ["NoneType", "bool", "int", "str", "tuple", "list", "dict"]
theorem kit_tab : ∀ T ∈ tyNames, ∀ U ∈ ["int", "bool", "tuple", "list", "str", "dict"], kitB T U = some (T == U || (T == "bool" && U == "int")) := by decide +kernel
theorem D.ty_mem (d : D) (h : d.known = true) : d.ty ∈ tyNames := by cases d <;> first | (cases h; done) | exact List.mem_cons_self | (simp only [D.ty, tyNames]; decide)
theorem D.kI (d : D) (h : d.known = true) : kitB d.ty "int" = some d.isI := by
  rw [kit_tab d.ty (d.ty_mem h) "int" (by decide)]
  cases d <;> rfl
theorem D.kB (d : D) (h : d.known = true) : kitB d.ty "bool" = some d.isB := by
  rw [kit_tab d.ty (d.ty_mem h) "bool" (by decide)]
  cases d <;> rfl
theorem D.kT (d : D) (h : d.known = true) : kitB d.ty "tuple" = some d.isT := by
  rw [kit_tab d.ty (d.ty_mem h) "tuple" (by decide)]
  cases d <;> rfl
theorem D.kL (d : D) (h : d.known = true) : kitB d.ty "list" = some d.isL := by
  rw [kit_tab d.ty (d.ty_mem h) "list" (by decide)]
  cases d <;> first | rfl | (cases h; done)
theorem D.whole_eq (d : D) : (d.isI && !d.isB) = d.whole := by cases d <;> rfl
def preWhole : List D → Sk → Prop := fun ds r => ∃ d, ds = [d] ∧ d.known = true ∧ r = .im (.bl d.whole)
end DL
namespace DL
open PySem PySem.Spec PyProof.Rows L2
/-! M2: trees, ways and distances -/
/-- the tuples: up, length -/
abbrev T := List (Nat × Int)
def tupD (q : Nat × Int) : D := .tup [.int q.1, .int q.2]
def treeD (t : T) : D := .lst (t.map tupD)
structure TOk (t : T) : Prop where
  few : t.length ≤ 59
  ups : ∀ (i : Nat) (q : Nat × Int), t[i]? = some q → q.1 ≤ i
  lns : ∀ (i : Nat) (q : Nat × Int), t[i]? = some q → 0 ≤ q.2
/-- the place that a place from one on hangs on, and the length of its road -/
def up (t : T) (p : Nat) : Nat := (t.getD (p - 1) (0, 0)).1
def ln (t : T) (p : Nat) : Int := (t.getD (p - 1) (0, 0)).2
section
variable {t : T}
theorem TOk.at (h : TOk t) {p : Nat} (h1 : 0 < p) (h2 : p ≤ t.length) : t[p - 1]? = some (up t p, ln t p) := by
  have e : t[p - 1]? = some t[p - 1] := List.getElem?_eq_getElem (by omega)
  unfold up ln
  rw [List.getD_eq_getElem?_getD, e]
  rfl
theorem TOk.up_lt (h : TOk t) {p : Nat} (h1 : 0 < p) (h2 : p ≤ t.length) : up t p < p := by
  have := h.ups _ _ (h.at h1 h2)
  simp only at this
  omega
theorem TOk.ln_nn (h : TOk t) {p : Nat} (h1 : 0 < p) (h2 : p ≤ t.length) : 0 ≤ ln t p := h.lns _ _ (h.at h1 h2)
/-- the two ways up, with enough turns -/
def ways (t : T) : Nat → Nat → Nat → List Nat × List Nat
  | 0, a, _ => ([a], [])
  | n + 1, a, b => if a = b then ([a], []) else if b < a then (a :: (ways t n (up t a) b).1, (ways t n (up t a) b).2) else ((ways t n a (up t b)).1, b :: (ways t n a (up t b)).2)
theorem ways_fuel (h : TOk t) : ∀ (n m a b : Nat), a + b ≤ n → a + b ≤ m → a ≤ t.length → b ≤ t.length → ways t n a b = ways t m a b
  | 0, 0, _, _, _, _, _, _ => rfl
  | 0, m + 1, a, b, h1, h2, h3, h4 => by
    have ea : a = 0 := by omega
    have eb : b = 0 := by omega
    subst ea eb
    simp [ways]
  | n + 1, 0, a, b, h1, h2, h3, h4 => by
    have ea : a = 0 := by omega
    have eb : b = 0 := by omega
    subst ea eb
    simp [ways]
  | n + 1, m + 1, a, b, h1, h2, h3, h4 => by
    unfold ways
    by_cases e : a = b
    · rw [if_pos e, if_pos e]
    · rw [if_neg e, if_neg e]
      by_cases g : b < a
      · have u := h.up_lt (p := a) (by omega) h3
        rw [if_pos g, if_pos g, ways_fuel h n m (up t a) b (by omega) (by omega) (by omega) h4]
      · have u := h.up_lt (p := b) (by omega) h4
        rw [if_neg g, if_neg g, ways_fuel h n m a (up t b) (by omega) (by omega) h3 (by omega)]
def way2 (t : T) (a b : Nat) : List Nat × List Nat := ways t (a + b) a b
theorem way2_eq (a : Nat) : way2 t a a = ([a], []) := by
  unfold way2
  cases h : a + a with
  | zero => rfl
  | succ n => simp [ways]
theorem way2_gt (h : TOk t) {a b : Nat} (ha : a ≤ t.length) (hg : b < a) : way2 t a b = (a :: (way2 t (up t a) b).1, (way2 t (up t a) b).2) := by
  unfold way2
  have u := h.up_lt (p := a) (by omega) ha
  obtain ⟨n, hn⟩ : ∃ n, a + b = n + 1 := ⟨a + b - 1, by omega⟩
  rw [hn]
  show (if a = b then _ else _) = _
  rw [if_neg (by omega), if_pos hg, ways_fuel h n (up t a + b) (up t a) b (by omega) (by omega) (by omega) (by omega)]
theorem way2_lt (h : TOk t) {a b : Nat} (hb : b ≤ t.length) (hg : a < b) : way2 t a b = ((way2 t a (up t b)).1, b :: (way2 t a (up t b)).2) := by
  unfold way2
  have u := h.up_lt (p := b) (by omega) hb
  obtain ⟨n, hn⟩ : ∃ n, a + b = n + 1 := ⟨a + b - 1, by omega⟩
  rw [hn]
  show (if a = b then _ else _) = _
  rw [if_neg (by omega), if_neg (by omega), ways_fuel h n (a + up t b) a (up t b) (by omega) (by omega) (by omega) (by omega)]
/-- how far: by its equations -/
def farN (t : T) : Nat → Nat → Nat → Int
  | 0, _, _ => 0
  | n + 1, a, b => if a = b then 0 else if b < a then ln t a + farN t n (up t a) b else ln t b + farN t n a (up t b)
def far (t : T) (a b : Nat) : Int := farN t (a + b) a b
theorem farN_fuel (h : TOk t) : ∀ (n m a b : Nat), a + b ≤ n → a + b ≤ m → a ≤ t.length → b ≤ t.length → farN t n a b = farN t m a b
  | 0, 0, _, _, _, _, _, _ => rfl
  | 0, m + 1, a, b, h1, h2, h3, h4 => by
    have ea : a = 0 := by omega
    have eb : b = 0 := by omega
    subst ea eb
    simp [farN]
  | n + 1, 0, a, b, h1, h2, h3, h4 => by
    have ea : a = 0 := by omega
    have eb : b = 0 := by omega
    subst ea eb
    simp [farN]
  | n + 1, m + 1, a, b, h1, h2, h3, h4 => by
    unfold farN
    by_cases e : a = b
    · rw [if_pos e, if_pos e]
    · rw [if_neg e, if_neg e]
      by_cases g : b < a
      · have u := h.up_lt (p := a) (by omega) h3
        rw [if_pos g, if_pos g, farN_fuel h n m (up t a) b (by omega) (by omega) (by omega) h4]
      · have u := h.up_lt (p := b) (by omega) h4
        rw [if_neg g, if_neg g, farN_fuel h n m a (up t b) (by omega) (by omega) h3 (by omega)]
theorem far_self (a : Nat) : far t a a = 0 := by
  unfold far
  cases h : a + a with
  | zero => rfl
  | succ n => simp [farN]
theorem far_gt (h : TOk t) {a b : Nat} (ha : a ≤ t.length) (hg : b < a) : far t a b = ln t a + far t (up t a) b := by
  unfold far
  have u := h.up_lt (p := a) (by omega) ha
  obtain ⟨n, hn⟩ : ∃ n, a + b = n + 1 := ⟨a + b - 1, by omega⟩
  rw [hn]
  show (if a = b then _ else _) = _
  rw [if_neg (by omega), if_pos hg, farN_fuel h n (up t a + b) (up t a) b (by omega) (by omega) (by omega) (by omega)]
theorem far_lt (h : TOk t) {a b : Nat} (hb : b ≤ t.length) (hg : a < b) : far t a b = ln t b + far t a (up t b) := by
  unfold far
  have u := h.up_lt (p := b) (by omega) hb
  obtain ⟨n, hn⟩ : ∃ n, a + b = n + 1 := ⟨a + b - 1, by omega⟩
  rw [hn]
  show (if a = b then _ else _) = _
  rw [if_neg (by omega), if_neg (by omega), farN_fuel h n (a + up t b) a (up t b) (by omega) (by omega) (by omega) (by omega)]
theorem far_symm (h : TOk t) : ∀ (n a b : Nat), a + b ≤ n → a ≤ t.length → b ≤ t.length → far t a b = far t b a
  | 0, a, b, hn, ha, hb => by
    have ea : a = 0 := by omega
    have eb : b = 0 := by omega
    subst ea eb
    rfl
  | n + 1, a, b, hn, ha, hb => by
    by_cases e : a = b
    · subst e; rfl
    · by_cases g : b < a
      · have u := h.up_lt (p := a) (by omega) ha
        rw [far_gt h ha g, far_lt h ha g, far_symm h n (up t a) b (by omega) (by omega) hb]
      · have u := h.up_lt (p := b) (by omega) hb
        rw [far_lt h hb (by omega), far_gt h hb (by omega), far_symm h n a (up t b) (by omega) ha (by omega)]
theorem far_comm (h : TOk t) {a b : Nat} (ha : a ≤ t.length) (hb : b ≤ t.length) : far t a b = far t b a := far_symm h (a + b) a b (Nat.le_refl _) ha hb
/-- the sum of the lengths on the two ways -/
def lens (t : T) (l : List Nat) : Int := (l.map (ln t)).sum
theorem lens_cons (a : Nat) (l : List Nat) : lens t (a :: l) = ln t a + lens t l := by simp [lens]
theorem lens_append (l m : List Nat) : lens t (l ++ m) = lens t l + lens t m := by simp [lens]
theorem way2_ne (a b : Nat) : (way2 t a b).1 ≠ [] := by
  have key : ∀ n a b, (ways t n a b).1 ≠ [] := by
    intro n
    induction n with
    | zero => intro a b; simp [ways]
    | succ n ih =>
      intro a b
      unfold ways
      split
      · simp
      · split
        · simp
        · exact ih a (up t b)
  exact key _ a b
theorem far_way (h : TOk t) : ∀ (n a b : Nat), a + b ≤ n → a ≤ t.length → b ≤ t.length → far t a b = lens t ((way2 t a b).1.dropLast ++ (way2 t a b).2)
  | 0, a, b, hn, ha, hb => by
    have ea : a = 0 := by omega
    have eb : b = 0 := by omega
    subst ea eb
    rw [far_self, way2_eq]
    rfl
  | n + 1, a, b, hn, ha, hb => by
    by_cases e : a = b
    · subst e
      rw [far_self, way2_eq]
      rfl
    · by_cases g : b < a
      · have u := h.up_lt (p := a) (by omega) ha
        rw [far_gt h ha g, way2_gt h ha g, far_way h n (up t a) b (by omega) (by omega) hb]
        simp only
        rw [List.dropLast_cons_of_ne_nil (way2_ne _ _), List.cons_append, lens_cons]
      · have u := h.up_lt (p := b) (by omega) hb
        rw [far_lt h hb (by omega), way2_lt h hb (by omega), far_way h n a (up t b) (by omega) ha (by omega)]
        simp only
        rw [lens_append, lens_append, lens_cons]
        omega
theorem way2_mem (h : TOk t) : ∀ (n a b : Nat), a + b ≤ n → a ≤ t.length → b ≤ t.length → ∀ p, p ∈ (way2 t a b).1.dropLast ++ (way2 t a b).2 → 0 < p ∧ p ≤ t.length
  | 0, a, b, hn, ha, hb => by
    have ea : a = 0 := by omega
    have eb : b = 0 := by omega
    subst ea eb
    rw [way2_eq]
    intro p hp
    simp at hp
  | n + 1, a, b, hn, ha, hb => by
    by_cases e : a = b
    · subst e
      rw [way2_eq]
      intro p hp
      simp at hp
    · by_cases g : b < a
      · have u := h.up_lt (p := a) (by omega) ha
        rw [way2_gt h ha g]
        intro p hp
        simp only at hp
        rw [List.dropLast_cons_of_ne_nil (way2_ne _ _), List.cons_append, List.mem_cons] at hp
        rcases hp with rfl | hp
        · exact ⟨by omega, ha⟩
        · exact way2_mem h n (up t a) b (by omega) (by omega) hb p hp
      · have u := h.up_lt (p := b) (by omega) hb
        rw [way2_lt h hb (by omega)]
        intro p hp
        simp only at hp
        rw [List.mem_append, List.mem_cons] at hp
        rcases hp with hp | rfl | hp
        · exact way2_mem h n a (up t b) (by omega) ha (by omega) p (List.mem_append_left _ hp)
        · exact ⟨by omega, hb⟩
        · exact way2_mem h n a (up t b) (by omega) ha (by omega) p (List.mem_append_right _ hp)
theorem way2_len (h : TOk t) : ∀ (n a b : Nat), a + b ≤ n → a ≤ t.length → b ≤ t.length → (way2 t a b).1.length ≤ a + 1 ∧ (way2 t a b).2.length ≤ b
  | 0, a, b, hn, ha, hb => by
    have ea : a = 0 := by omega
    have eb : b = 0 := by omega
    subst ea eb
    rw [way2_eq]
    exact ⟨by simp, by simp⟩
  | n + 1, a, b, hn, ha, hb => by
    by_cases e : a = b
    · subst e
      rw [way2_eq]
      exact ⟨by simp, by simp⟩
    · by_cases g : b < a
      · have u := h.up_lt (p := a) (by omega) ha
        have ih := way2_len h n (up t a) b (by omega) (by omega) hb
        rw [way2_gt h ha g]
        exact ⟨by simp only [List.length_cons]; omega, ih.2⟩
      · have u := h.up_lt (p := b) (by omega) hb
        have ih := way2_len h n a (up t b) (by omega) ha (by omega)
        rw [way2_lt h hb (by omega)]
        exact ⟨ih.1, by simp only [List.length_cons]; omega⟩
end

/-! ### what is read -/
theorem at_nat {ds : List D} {j : Nat} {d : D} {i : Int} (e : i = (j : Nat)) (h : ds[j]? = some d) : L2.atI ds i = some d := by
  subst e
  exact atI_nat h
theorem at_tree {t : T} (h : TOk t) {p : Nat} (h1 : 0 < p) (h2 : p ≤ t.length) {i : Int} (e : i = (p : Nat) - 1) : L2.atI (t.map tupD) i = some (.tup [.int (up t p), .int (ln t p)]) := by
  refine at_nat (j := p - 1) (by omega) ?_
  rw [List.getElem?_map, h.at h1 h2]
  rfl
def natsD (l : List Nat) : List D := l.map fun n => .int (n : Nat)
theorem natsD_length (l : List Nat) : (natsD l).length = l.length := by simp [natsD]
theorem natsD_append (l m : List Nat) : natsD (l ++ m) = natsD l ++ natsD m := by simp [natsD]
theorem at_last {l : List Nat} {a : Nat} : L2.atI (natsD (l ++ [a])) (-1) = some (.int (a : Nat)) := by
  rw [natsD_append]
  exact atI_last _ _
theorem cut_last (ds : List D) : cutD ds none (some (-1)) = ds.dropLast := by
  unfold cutD
  show (ds.drop 0).take (HT.sIx ds.length ds.length (some (-1)) - 0) = _
  rw [List.drop_zero, List.dropLast_eq_take]
  show ds.take ((-1 + (ds.length : Int)).toNat - 0) = _
  congr 1
  omega
theorem natsD_dropLast (l : List Nat) : (natsD l).dropLast = natsD l.dropLast := by
  unfold natsD
  rw [List.map_dropLast]

/-! ### the promises -/
def preRoad : List D → Sk → Prop := fun ds r => ∃ u l place : Int, ds = [.tup [.int u, .int l], .int place] ∧ r = .im (.bl ((decide (0 ≤ u) && decide (u < place)) && decide (0 ≤ l)))
def preTree : List D → Sk → Prop := fun ds r => ∃ t, TOk t ∧ ds = [treeD t] ∧ r = .im (.bl true)
def preNeedTree : List D → Sk → Prop := fun ds r => ∃ t, TOk t ∧ ds = [treeD t] ∧ r = .im .non
def preIsPlace : List D → Sk → Prop := fun ds r => ∃ (t : T) (i : Int), ds = [treeD t, .int i] ∧ r = .im (.bl (decide (0 ≤ i) && decide (i ≤ t.length)))
def preNeedPlace : List D → Sk → Prop := fun ds r => ∃ (t : T) (i : Nat), i ≤ t.length ∧ ds = [treeD t, .int i] ∧ r = .im .non
def preWays : List D → Sk → Prop := fun ds r => ∃ (t : T) (i j : Nat), TOk t ∧ i ≤ t.length ∧ j ≤ t.length ∧ ds = [treeD t, .int i, .int j] ∧ r = .im (.tup [.lst (natsD (way2 t i j).1), .lst (natsD (way2 t i j).2)])
def preFar : List D → Sk → Prop := fun ds r => ∃ (t : T) (i j : Nat), TOk t ∧ i ≤ t.length ∧ j ≤ t.length ∧ ds = [treeD t, .int i, .int j] ∧ r = .im (.int (far t i j))

theorem few_kn {t : T} (h : TOk t) : (!(D.lst (t.map tupD)).isL || decide ((59 : Int) < ((t.map tupD).length : Nat))) = false := by
  have := h.few
  rw [List.length_map]
  simp only [D.isL, Bool.not_true, Bool.false_or, decide_eq_false_iff_not]
  omega
theorem enum_tree (t : T) : ((t.map tupD).mapIdx fun i d => D.tup [.int (i : Nat), d]) = t.zipIdx.map (fun q => .tup [.int (q.2 : Nat), tupD q.1]) := by
  apply List.ext_getElem?
  intro i
  simp only [List.getElem?_mapIdx, List.getElem?_map, List.getElem?_zipIdx, Option.map_map, Nat.zero_add]
  cases t[i]? <;> rfl
theorem road_kn {t : T} (h : TOk t) {q : (Nat × Int) × Nat} (hq : q ∈ t.zipIdx) : (!((decide ((0 : Int) ≤ (q.1.1 : Nat)) && decide ((q.1.1 : Int) < (q.2 : Nat) + 1)) && decide ((0 : Int) ≤ q.1.2))) = false := by
  obtain ⟨⟨u, l⟩, i⟩ := q
  have e : t[i]? = some (u, l) := List.mem_zipIdx_iff_getElem?.mp hq
  have h1 := h.ups _ _ e
  have h2 := h.lns _ _ e
  simp only at h1 h2
  simp only [Bool.not_eq_false', Bool.and_eq_true, decide_eq_true_eq]
  omega

theorem at_tree' {t : T} (h : TOk t) {p : Nat} (h1 : 0 < p) (h2 : p ≤ t.length) : L2.atI (t.map tupD) ((p : Nat) - 1 : Int) = some (.tup [.int (up t p), .int (ln t p)]) := at_tree h h1 h2 rfl
theorem natsD_snoc (l : List Nat) (a : Nat) : natsD (l ++ [a]) = natsD l ++ [.int (a : Nat)] := natsD_append l [a]
theorem far_sum {X : Cx} {t : T} (h : TOk t) (hc : X.calm = true) {i j : Nat} (hi : i ≤ t.length) (hj : j ≤ t.length) : CalD X (.builtin "sum") [.lst (((((way2 t i j).1.dropLast ++ (way2 t i j).2)).filter (fun _ => true)).map fun p => D.int (ln t p))] (.int (far t i j)) := by
  have e : ((((way2 t i j).1.dropLast ++ (way2 t i j).2)).filter (fun _ => true)).map (fun p => D.int (ln t p)) = ((((way2 t i j).1.dropLast ++ (way2 t i j).2)).map (ln t)).map D.int := by
    rw [List.filter_eq_self.mpr (fun _ _ => rfl), List.map_map]
    rfl
  rw [e, far_way h _ i j (Nat.le_refl _) hi hj]
  exact ca_sum hc
theorem far_cast {t : T} {i j : Nat} : cutD (natsD (way2 t i j).1) none (some (-1)) ++ natsD (way2 t i j).2 = ((way2 t i j).1.dropLast ++ (way2 t i j).2).map (fun n => D.int (n : Nat)) := by
  rw [cut_last, natsD_dropLast, ← natsD_append]
  rfl

theorem far_lens {t : T} (h : TOk t) {i j : Nat} (hi : i ≤ t.length) (hj : j ≤ t.length) : ((way2 t i j).1.dropLast ++ (way2 t i j).2).length ≤ 100000 := by
  have := way2_len h _ i j (Nat.le_refl _) hi hj
  have := h.few
  rw [List.length_append, List.length_dropLast]
  omega
theorem far_catl {t : T} (h : TOk t) {i j : Nat} (hi : i ≤ t.length) (hj : j ≤ t.length) : (cutD (natsD (way2 t i j).1) none (some (-1))).length + (natsD (way2 t i j).2).length ≤ 100000 := by
  have := far_lens h hi hj
  rw [cut_last, natsD_dropLast, natsD_length, natsD_length]
  rw [List.length_append] at this
  exact this
end DL
namespace DL
open PySem PySem.Spec PyProof.Rows L2
/-! M3: the law's own draws: pools, lengths, trees -/
def pool0 (ns : List Int) (k : Nat) : Pool :=
  let cell := ns.getD k 0
  if 10 ^ 18 ≤ cell then (cell - 10 ^ 18, 1, 0) else (cell, 0, 83 * k)
def prePool : List D → Sk → Prop := fun ds r => ∃ (ns : List Int) (k : Nat), k ≤ 1000 ∧ ds = [.rol (ns.map D.int), .int k] ∧ r = .ow none (rLst (poolD (pool0 ns k)))
theorem pool0_pb (ns : List Int) {k : Nat} (h : k ≤ 1000) : PB 83000 (pool0 ns k) := by
  unfold pool0
  simp only
  split
  · exact ⟨Int.le_refl 0, by show (0 : Int) ≤ 83000; decide⟩
  · exact ⟨by show (0 : Int) ≤ 83 * k; omega, by show (83 : Int) * k ≤ 83000; omega⟩
def wayF (p : Pool) (kind : Int) : Int := [kind, (take p 4).1].getD (if decide (kind = 4) = true then 1 else 0 : Int).toNat 0
def lengthF (p : Pool) (kind : Int) : Int × Pool :=
  if wayF p kind = 3 then ((take (take p 4).2 (10 ^ 8)).1 * 10 ^ 7 + (take (take (take p 4).2 (10 ^ 8)).2 (10 ^ 7)).1, (take (take (take p 4).2 (10 ^ 8)).2 (10 ^ 7)).2)
  else ([0, 1, (take (take p 4).2 6).1].getD (wayF p kind).toNat 0, (take (take p 4).2 6).2)
def preLength : ResT → List D → Sk → ResT → Prop := fun R ds r R' => ∃ p kind, R = rLst (poolD p) ∧ ds = [.int kind] ∧ (0 ≤ kind ∧ kind ≤ 4) ∧ PB 400000 p ∧ r = .im (.int (lengthF p kind).1) ∧ R' = rLst (poolD (lengthF p kind).2)
theorem way_bd (p : Pool) {kind : Int} (h1 : 0 ≤ kind) (h2 : kind ≤ 4) : 0 ≤ wayF p kind ∧ wayF p kind ≤ 3 := by
  have t := take_mod p (many := 4) (by decide)
  unfold wayF
  by_cases e : kind = 4
  · rw [if_pos (decide_eq_true e)]
    show 0 ≤ (take p 4).1 ∧ (take p 4).1 ≤ 3
    omega
  · rw [if_neg (by simp [e])]
    show 0 ≤ kind ∧ kind ≤ 3
    omega
theorem length_nn (p : Pool) {kind : Int} (h1 : 0 ≤ kind) (h2 : kind ≤ 4) : 0 ≤ (lengthF p kind).1 := by
  have w := way_bd p h1 h2
  unfold lengthF
  by_cases e3 : wayF p kind = 3
  · rw [if_pos e3]
    have a := take_mod (take p 4).2 (many := 10 ^ 8) (by decide)
    have b := take_mod (take (take p 4).2 (10 ^ 8)).2 (many := 10 ^ 7) (by decide)
    simp only
    omega
  · rw [if_neg e3]
    have c := take_mod (take p 4).2 (many := 6) (by decide)
    have : wayF p kind = 0 ∨ wayF p kind = 1 ∨ wayF p kind = 2 := by omega
    rcases this with e | e | e <;> rw [e]
    · exact Int.le_refl 0
    · exact (by decide : (0 : Int) ≤ 1)
    · exact c.1
theorem length_pb {n : Int} {p : Pool} {kind : Int} (h : PB n p) : PB (n + 3) (lengthF p kind).2 := by
  unfold lengthF
  by_cases e3 : wayF p kind = 3
  · rw [if_pos e3]
    exact (take_pb _ (take_pb _ (take_pb 4 h))).le (by omega)
  · rw [if_neg e3]
    exact (take_pb _ (take_pb 4 h)).le (by omega)
def someF (i x y bare : Int) : List Int := [i, 0, x, max 0 (i - y), min i bare, i / 2 * 2, (i + 1) / 2]
def treeN (shape kind bare : Int) : Nat → Pool → T × Pool
  | 0, p => ([], p)
  | i + 1, p =>
    let tp := treeN shape kind bare i p
    let x := take tp.2 ((i : Nat) + 1)
    let y := take x.2 3
    let u := min (i : Int) ((someF i x.1 y.1 bare).getD shape.toNat 0)
    let l := lengthF y.2 kind
    (tp.1 ++ [(u.toNat, l.1)], l.2)
def h0 (p : Pool) : Int × Pool := take p 60
def h1 (p : Pool) : Int × Pool := take (h0 p).2 (min 4 60)
def h2 (p : Pool) : Int × Pool := take (h1 p).2 3
def manyF (p : Pool) : Int := [(h0 p).1, 60 - 1, (h1 p).1].getD (h2 p).1.toNat 0
def h3 (p : Pool) : Int × Pool := take (h2 p).2 7
def h4 (p : Pool) : Int × Pool := take (h3 p).2 5
def h5 (p : Pool) : Int × Pool := take (h4 p).2 (manyF p + 1)
def treeF (p : Pool) : T × Pool := treeN (h3 p).1 (h4 p).1 (h5 p).1 (manyF p).toNat (h5 p).2
def preLawTree : ResT → List D → Sk → ResT → Prop := fun R ds r R' => ∃ p, R = rLst (poolD p) ∧ ds = [.int 60] ∧ PB 300000 p ∧ r = .ow none (rLst ((treeF p).1.map tupD)) ∧ R' = rLst (poolD (treeF p).2)
theorem many_bd (p : Pool) : 0 ≤ manyF p ∧ manyF p ≤ 59 := by
  have a := take_mod p (many := 60) (by decide)
  have b := take_mod (h0 p).2 (many := min 4 60) (by decide)
  have c := take_mod (h1 p).2 (many := 3) (by decide)
  unfold manyF
  have : (h2 p).1 = 0 ∨ (h2 p).1 = 1 ∨ (h2 p).1 = 2 := by unfold h2; omega
  have e4 : min (4 : Int) 60 = 4 := rfl
  rw [e4] at b
  rcases this with e | e | e
  · rw [e]; show 0 ≤ (h0 p).1 ∧ (h0 p).1 ≤ 59; unfold h0; omega
  · rw [e]; show (0 : Int) ≤ 59 ∧ (59 : Int) ≤ 59; decide
  · rw [e]; show 0 ≤ (h1 p).1 ∧ (h1 p).1 ≤ 59; unfold h1; rw [e4]; omega
theorem some_nn {i x y bare shape : Int} (hi : 0 ≤ i) (hx : 0 ≤ x) (hb : 0 ≤ bare) (h1 : 0 ≤ shape) (h2 : shape ≤ 6) : 0 ≤ (someF i x y bare).getD shape.toNat 0 := by
  have : shape = 0 ∨ shape = 1 ∨ shape = 2 ∨ shape = 3 ∨ shape = 4 ∨ shape = 5 ∨ shape = 6 := by omega
  rcases this with e | e | e | e | e | e | e <;> rw [e]
  · exact hi
  · exact Int.le_refl 0
  · exact hx
  · show 0 ≤ max 0 (i - y); omega
  · show 0 ≤ min i bare; omega
  · show 0 ≤ i / 2 * 2; omega
  · show 0 ≤ (i + 1) / 2; omega
theorem treeN_length (shape kind bare : Int) (p : Pool) : ∀ n, (treeN shape kind bare n p).1.length = n
  | 0 => rfl
  | n + 1 => by
    unfold treeN
    simp only
    rw [List.length_append, treeN_length shape kind bare p n]
    rfl
theorem treeN_ok {shape kind bare : Int} {p : Pool} (hs : 0 ≤ shape ∧ shape ≤ 6) (hk : 0 ≤ kind ∧ kind ≤ 4) (hb : 0 ≤ bare) : ∀ n (i : Nat) (q : Nat × Int), (treeN shape kind bare n p).1[i]? = some q → q.1 ≤ i ∧ 0 ≤ q.2
  | 0, i, q, h => by
    unfold treeN at h
    simp at h
  | n + 1, i, q, h => by
    unfold treeN at h
    simp only at h
    have ln := treeN_length shape kind bare p n
    by_cases lt : i < n
    · rw [List.getElem?_append_left (by omega)] at h
      exact treeN_ok hs hk hb n i q h
    · rw [List.getElem?_append_right (by omega), ln] at h
      have e : i = n := by
        have := (List.getElem?_eq_some_iff.mp h).1
        simp at this
        omega
      subst e
      rw [Nat.sub_self] at h
      simp at h
      subst h
      have x := take_mod (treeN shape kind bare i p).2 (many := (i : Nat) + 1) (by omega)
      have s := some_nn (i := (i : Nat)) (x := (take (treeN shape kind bare i p).2 ((i : Nat) + 1)).1) (y := (take (take (treeN shape kind bare i p).2 ((i : Nat) + 1)).2 3).1) (bare := bare) (shape := shape) (by omega) x.1 hb hs.1 hs.2
      exact ⟨by simp only; omega, length_nn _ hk.1 hk.2⟩
theorem treeN_pb {m : Int} {shape kind bare : Int} {p : Pool} (h : PB m p) : ∀ n : Nat, PB (m + 5 * n) (treeN shape kind bare n p).2
  | 0 => h.le (by omega)
  | n + 1 => by
    unfold treeN
    exact (length_pb (take_pb _ (take_pb _ (treeN_pb h n)))).le (by omega)
theorem h5_pb {n : Int} {p : Pool} (h : PB n p) : PB (n + 6) (h5 p).2 := (take_pb _ (take_pb _ (take_pb _ (take_pb _ (take_pb _ (take_pb 60 h)))))).le (by omega)
theorem treeF_pb {n : Int} {p : Pool} (h : PB n p) : PB (n + 400) (treeF p).2 := by
  have := many_bd p
  exact (treeN_pb (h5_pb h) (manyF p).toNat).le (by omega)
theorem shape_bd (p : Pool) : 0 ≤ (h3 p).1 ∧ (h3 p).1 ≤ 6 := by
  have := take_mod (h2 p).2 (many := 7) (by decide)
  unfold h3; omega
theorem kind_bd (p : Pool) : 0 ≤ (h4 p).1 ∧ (h4 p).1 ≤ 4 := by
  have := take_mod (h3 p).2 (many := 5) (by decide)
  unfold h4; omega
theorem bare_bd (p : Pool) : 0 ≤ (h5 p).1 := by
  have := many_bd p
  exact (take_mod (h4 p).2 (many := manyF p + 1) (by omega)).1
theorem treeF_ok (p : Pool) : TOk (treeF p).1 := by
  have := many_bd p
  have k := fun i q => treeN_ok (p := (h5 p).2) (shape_bd p) (kind_bd p) (bare_bd p) (manyF p).toNat i q
  exact ⟨by unfold treeF; rw [treeN_length]; omega, fun i q e => (k i q e).1, fun i q e => (k i q e).2⟩
theorem pool_a {ns : List Int} {k : Nat} {v : Int} (hv : v = ns.getD k 0) (h : decide ((10 : Int) ^ (18 : Int).toNat ≤ v) = true) : Sk.ow none (rLst [.int (v - 10 ^ (18 : Int).toNat), .int 1, .int 0]) = .ow none (rLst (poolD (pool0 ns k))) := by
  have h' : (10 : Int) ^ 18 ≤ v := of_decide_eq_true h
  unfold pool0
  simp only
  rw [← hv, if_pos h']
  rfl
theorem pool_b {ns : List Int} {k : Nat} {v : Int} (hv : v = ns.getD k 0) (h : decide ((10 : Int) ^ (18 : Int).toNat ≤ v) = false) : Sk.ow none (rLst [.int v, .int 0, .int (83 * (k : Int))]) = .ow none (rLst (poolD (pool0 ns k))) := by
  have h' : ¬ (10 : Int) ^ 18 ≤ v := of_decide_eq_false h
  unfold pool0
  simp only
  rw [← hv, if_neg h']
  rfl
theorem getD_out {ns : List Int} {k : Nat} (h : decide ((k : Int) < ((ns.map D.int).length : Nat)) = false) : (0 : Int) = ns.getD k 0 := by
  rw [List.length_map] at h
  have h' := of_decide_eq_false h
  rw [List.getD_eq_getElem?_getD, List.getElem?_eq_none (by omega)]
  rfl
theorem at_in {ns : List Int} {k : Nat} (h : decide ((k : Int) < ((ns.map D.int).length : Nat)) = true) : L2.atI (ns.map D.int) (k : Nat) = some (.int (ns.getD k 0)) := by
  rw [List.length_map] at h
  have h' := of_decide_eq_true h
  exact at_ints ns (by omega) h'
theorem len_a {p : Pool} {kind : Int} {v0 : V} (e : wayF p kind = 3) : Sk.im (.int ((take (take p 4).2 (10 ^ (8 : Int).toNat)).1 * 10 ^ (7 : Int).toNat + (take (take (take p 4).2 (10 ^ (8 : Int).toNat)).2 (10 ^ (7 : Int).toNat)).1)) = .im (.int (lengthF p kind).1) ∧
    some (Sk.ow (some v0) (rLst (poolD (take (take (take p 4).2 (10 ^ (8 : Int).toNat)).2 (10 ^ (7 : Int).toNat)).2))) = some (.ow (some v0) (rLst (poolD (lengthF p kind).2))) := by
  unfold lengthF
  rw [if_pos e]
  exact ⟨rfl, rfl⟩
theorem len_b {p : Pool} {kind : Int} {v0 : V} (e : ¬ wayF p kind = 3) : Sk.im (.int ([0, 1, (take (take p 4).2 6).1].getD (wayF p kind).toNat 0)) = .im (.int (lengthF p kind).1) ∧
    some (Sk.ow (some v0) (rLst (poolD (take (take p 4).2 6).2))) = some (.ow (some v0) (rLst (poolD (lengthF p kind).2))) := by
  unfold lengthF
  rw [if_neg e]
  exact ⟨rfl, rfl⟩
theorem way_at {p : Pool} {kind : Int} : L2.atI [D.int kind, D.int (take p 4).1] (if decide (kind = 4) = true then 1 else 0) = some (.int (wayF p kind)) := by
  refine at_ints [kind, (take p 4).1] ?_ ?_
  · split <;> decide
  · show _ < (2 : Int)
    split <;> decide
theorem three_at {a b c w : Int} (h1 : 0 ≤ w) (h2 : w < 3) : L2.atI [D.int a, D.int b, D.int c] w = some (.int ([a, b, c].getD w.toNat 0)) := at_ints [a, b, c] h1 h2
theorem seven_at {a b c d e f g w : Int} (h1 : 0 ≤ w) (h2 : w < 7) : L2.atI [D.int a, D.int b, D.int c, D.int d, D.int e, D.int f, D.int g] w = some (.int ([a, b, c, d, e, f, g].getD w.toNat 0)) := at_ints [a, b, c, d, e, f, g] h1 h2
theorem many_at {p : Pool} : L2.atI [D.int (take p 60).1, D.int (60 - 1), D.int (take (take p 60).2 (min 4 60)).1] (take (take (take p 60).2 (min 4 60)).2 3).1 = some (.int (manyF p)) := by
  have c := take_mod (h1 p).2 (many := 3) (by decide)
  exact at_ints [(take p 60).1, 60 - 1, (take (take p 60).2 (min 4 60)).1] c.1 c.2
theorem treeN_snoc {shape kind bare : Int} {p : Pool} (hs : 0 ≤ shape ∧ shape ≤ 6) (hb : 0 ≤ bare) (i : Nat) : (treeN shape kind bare (i + 1) p).1.map tupD = (treeN shape kind bare i p).1.map tupD ++
    [D.tup [D.int (min (i : Int) ((someF i (take (treeN shape kind bare i p).2 ((i : Nat) + 1)).1 (take (take (treeN shape kind bare i p).2 ((i : Nat) + 1)).2 3).1 bare).getD shape.toNat 0)), D.int (lengthF (take (take (treeN shape kind bare i p).2 ((i : Nat) + 1)).2 3).2 kind).1]] := by
  have x := take_mod (treeN shape kind bare i p).2 (many := (i : Nat) + 1) (by omega)
  have s := some_nn (i := (i : Nat)) (x := (take (treeN shape kind bare i p).2 ((i : Nat) + 1)).1) (y := (take (take (treeN shape kind bare i p).2 ((i : Nat) + 1)).2 3).1) (bare := bare) (shape := shape) (by omega) x.1 hb hs.1 hs.2
  show ((treeN shape kind bare i p).1 ++ [_]).map tupD = _
  rw [List.map_append]
  congr 1
  show [D.tup [D.int ((Int.toNat _ : Nat) : Int), _]] = _
  rw [Int.toNat_of_nonneg (by omega)]
end DL
namespace DL
open PySem PySem.Spec PyProof.Rows L2
/-! M4: the law's table -/
section
variable {t : T}
def ancN (t : T) : Nat → Nat → List (Nat × Int)
  | 0, _ => [(0, 0)]
  | n + 1, i => if i = 0 then [(0, 0)] else (i, 0) :: (ancN t n (up t i)).map fun q => (q.1, q.2 + ln t i)
def anc (t : T) (i : Nat) : List (Nat × Int) := ancN t i i
theorem ancN_fuel (h : TOk t) : ∀ (n m i : Nat), i ≤ n → i ≤ m → i ≤ t.length → ancN t n i = ancN t m i
  | 0, 0, _, _, _, _ => rfl
  | 0, m + 1, i, h1, _, _ => by
    have e : i = 0 := by omega
    subst e
    simp [ancN]
  | n + 1, 0, i, _, h1, _ => by
    have e : i = 0 := by omega
    subst e
    simp [ancN]
  | n + 1, m + 1, i, h1, h2, h3 => by
    unfold ancN
    by_cases e : i = 0
    · rw [if_pos e, if_pos e]
    · have u := h.up_lt (p := i) (by omega) h3
      rw [if_neg e, if_neg e, ancN_fuel h n m (up t i) (by omega) (by omega) (by omega)]
theorem anc_zero : anc t 0 = [(0, 0)] := rfl
theorem anc_pos (h : TOk t) {i : Nat} (h1 : 0 < i) (h2 : i ≤ t.length) : anc t i = (i, 0) :: (anc t (up t i)).map fun q => (q.1, q.2 + ln t i) := by
  unfold anc
  have u := h.up_lt h1 h2
  obtain ⟨n, hn⟩ : ∃ n, i = n + 1 := ⟨i - 1, by omega⟩
  rw [show ancN t i i = ancN t (n + 1) i by rw [hn]]
  show (if i = 0 then _ else _) = _
  rw [if_neg (by omega), ancN_fuel h n (up t i) (up t i) (by omega) (Nat.le_refl _) (by omega)]
theorem anc_le (h : TOk t) : ∀ (n i : Nat), i ≤ n → i ≤ t.length → (∀ q ∈ anc t i, q.1 ≤ i) ∧ (anc t i).Pairwise fun a b => b.1 < a.1
  | 0, i, h1, h2 => by
    have e : i = 0 := by omega
    subst e
    rw [anc_zero]
    simp
  | n + 1, i, h1, h2 => by
    by_cases e : i = 0
    · subst e
      rw [anc_zero]
      simp
    · have u := h.up_lt (p := i) (by omega) h2
      have ih := anc_le h n (up t i) (by omega) (by omega)
      rw [anc_pos h (by omega) h2]
      refine ⟨fun q hq => ?_, List.pairwise_cons.mpr ⟨fun q hq => ?_, ?_⟩⟩
      · rcases List.mem_cons.mp hq with rfl | hq
        · exact Nat.le_refl _
        · obtain ⟨w, hw, rfl⟩ := List.mem_map.mp hq
          have := ih.1 w hw
          simp only
          omega
      · obtain ⟨w, hw, rfl⟩ := List.mem_map.mp hq
        have := ih.1 w hw
        simp only
        omega
      · rw [List.pairwise_map]
        exact ih.2
theorem anc_len (h : TOk t) : ∀ (n i : Nat), i ≤ n → i ≤ t.length → (anc t i).length ≤ i + 1
  | 0, i, h1, h2 => by
    have e : i = 0 := by omega
    subst e
    rw [anc_zero]
    simp
  | n + 1, i, h1, h2 => by
    by_cases e : i = 0
    · subst e
      rw [anc_zero]
      simp
    · have u := h.up_lt (p := i) (by omega) h2
      have ih := anc_len h n (up t i) (by omega) (by omega)
      rw [anc_pos h (by omega) h2, List.length_cons, List.length_map]
      omega
/-- how far a place above is -/
def upto (t : T) (i p : Nat) : Option Int := ((anc t i).find? fun q => decide (q.1 = p)).map (·.2)
theorem upto_zero (p : Nat) : upto t 0 p = if p = 0 then some 0 else none := by
  unfold upto
  rw [anc_zero]
  by_cases e : p = 0
  · subst e; rfl
  · rw [if_neg e, List.find?_cons_of_neg (by simp; omega)]; rfl
theorem upto_self (h : TOk t) {i : Nat} (h2 : i ≤ t.length) : upto t i i = some 0 := by
  unfold upto
  by_cases e : i = 0
  · subst e; rfl
  · rw [anc_pos h (by omega) h2, List.find?_cons_of_pos (by simp)]; rfl
theorem upto_pos (h : TOk t) {i p : Nat} (h1 : 0 < i) (h2 : i ≤ t.length) (hp : p ≠ i) : upto t i p = (upto t (up t i) p).map (· + ln t i) := by
  unfold upto
  rw [anc_pos h h1 h2, List.find?_cons_of_neg (by simp; omega), List.find?_map]
  simp only [Option.map_map, Function.comp_def]
theorem upto_gt (h : TOk t) {i p : Nat} (h2 : i ≤ t.length) (hp : i < p) : upto t i p = none := by
  unfold upto
  rw [List.find?_eq_none.mpr fun q hq => ?_]
  · rfl
  · have := (anc_le h i i (Nat.le_refl _) h2).1 q hq
    simp
    omega
theorem upto_le (h : TOk t) {i p : Nat} (h2 : i ≤ t.length) (hp : (upto t i p).isSome = true) : p ≤ i := by
  by_cases e : i < p
  · rw [upto_gt h h2 e] at hp; cases hp
  · omega
theorem upto_root (h : TOk t) : ∀ (n i : Nat), i ≤ n → i ≤ t.length → (upto t i 0).isSome = true
  | 0, i, h1, h2 => by
    have e : i = 0 := by omega
    subst e
    rfl
  | n + 1, i, h1, h2 => by
    by_cases e : i = 0
    · subst e; rfl
    · have u := h.up_lt (p := i) (by omega) h2
      rw [upto_pos h (by omega) h2 (by omega), Option.isSome_map]
      exact upto_root h n (up t i) (by omega) (by omega)
/-- up from p to what is above i -/
def climbN (t : T) : Nat → Nat → Nat → Nat
  | 0, _, p => p
  | n + 1, i, p => if (upto t i p).isSome = true then p else climbN t n i (up t p)
def climb (t : T) (i p : Nat) : Nat := climbN t p i p
theorem climb_yes {i p : Nat} (h : (upto t i p).isSome = true) : climb t i p = p := by
  unfold climb
  cases p with
  | zero => rfl
  | succ n =>
    show (if _ then _ else _) = _
    rw [if_pos h]
theorem climbN_fuel (h : TOk t) {i : Nat} (hi : i ≤ t.length) : ∀ (n m p : Nat), p ≤ n → p ≤ m → p ≤ t.length → climbN t n i p = climbN t m i p
  | 0, 0, _, _, _, _ => rfl
  | 0, m + 1, p, h1, _, _ => by
    have e : p = 0 := by omega
    subst e
    show 0 = (if _ then _ else _)
    rw [if_pos (upto_root h i i (Nat.le_refl _) hi)]
  | n + 1, 0, p, _, h1, _ => by
    have e : p = 0 := by omega
    subst e
    show (if _ then _ else _) = 0
    rw [if_pos (upto_root h i i (Nat.le_refl _) hi)]
  | n + 1, m + 1, p, h1, h2, h3 => by
    unfold climbN
    by_cases e : (upto t i p).isSome = true
    · rw [if_pos e, if_pos e]
    · have p0 : 0 < p := by
        cases p with
        | zero => exact absurd (upto_root h i i (Nat.le_refl _) hi) e
        | succ n => omega
      have u := h.up_lt p0 h3
      rw [if_neg e, if_neg e, climbN_fuel h hi n m (up t p) (by omega) (by omega) (by omega)]
theorem climb_pos (h : TOk t) {i p : Nat} (hi : i ≤ t.length) (hp : p ≤ t.length) (e : ¬ (upto t i p).isSome = true) : 0 < p ∧ climb t i p = climb t i (up t p) := by
  have p0 : 0 < p := by
    cases p with
    | zero => exact absurd (upto_root h i i (Nat.le_refl _) hi) e
    | succ n => omega
  have u := h.up_lt p0 hp
  refine ⟨p0, ?_⟩
  unfold climb
  obtain ⟨n, hn⟩ : ∃ n, p = n + 1 := ⟨p - 1, by omega⟩
  rw [show climbN t p i p = climbN t (n + 1) i p by rw [hn]]
  show (if _ then _ else _) = _
  rw [if_neg e, climbN_fuel h hi n (up t p) (up t p) (by omega) (Nat.le_refl _) (by omega)]
theorem climb_congr (h : TOk t) {i : Nat} (h1 : 0 < i) (hi : i ≤ t.length) : ∀ (n p : Nat), p ≤ n → p < i → climb t i p = climb t (up t i) p
  | n, p, hn, hp => by
    have ui := h.up_lt h1 hi
    have same : (upto t i p).isSome = (upto t (up t i) p).isSome := by rw [upto_pos h h1 hi (by omega), Option.isSome_map]
    by_cases e : (upto t i p).isSome = true
    · rw [climb_yes e, climb_yes (same ▸ e)]
    · have a := climb_pos h hi (by omega) e
      have b := climb_pos h (i := up t i) (by omega) (p := p) (by omega) (by rw [← same]; exact e)
      have u := h.up_lt a.1 (by omega)
      cases n with
      | zero => omega
      | succ n => rw [a.2, b.2, climb_congr h h1 hi n (up t p) (by omega) (by omega)]
theorem far_climb (h : TOk t) : ∀ (n i j : Nat), i + j ≤ n → i ≤ t.length → j ≤ t.length → ∃ a c, upto t i (climb t i j) = some a ∧ upto t j (climb t i j) = some c ∧ far t i j = a + c
  | n, i, j, hn, hi, hj => by
    by_cases e : i = j
    · subst e
      have s := upto_self h hi
      rw [climb_yes (by rw [s]; rfl), far_self]
      exact ⟨0, 0, s, s, rfl⟩
    · cases n with
      | zero => omega
      | succ n =>
        by_cases g : j < i
        · have u := h.up_lt (p := i) (by omega) hi
          obtain ⟨a, c, h1, h2, h3⟩ := far_climb h n (up t i) j (by omega) (by omega) hj
          have ec := climb_congr h (by omega) hi j j (Nat.le_refl _) g
          have le := upto_le h hj (p := climb t (up t i) j) (by rw [h2]; rfl)
          rw [ec, far_gt h hi g, h3]
          exact ⟨a + ln t i, c, by rw [upto_pos h (by omega) hi (by omega), h1]; rfl, h2, by omega⟩
        · have u := h.up_lt (p := j) (by omega) hj
          obtain ⟨a, c, h1, h2, h3⟩ := far_climb h n i (up t j) (by omega) hi (by omega)
          have ec := (climb_pos h hi hj (by rw [upto_gt h hi (by omega)]; decide)).2
          have le := upto_le h hi (p := climb t i (up t j)) (by rw [h1]; rfl)
          rw [ec, far_lt h hj (by omega), h3]
          exact ⟨a, c + ln t j, h1, by rw [upto_pos h (by omega) hj (by omega), h2]; rfl, by omega⟩
end

/-! ### as data -/
def ancE (q : Nat × Int) : Key × D := (.inl (q.1 : Nat), .int q.2)
def ancD (t : T) (i : Nat) : List (Key × D) := (anc t i).map ancE
def aboveD (t : T) (k : Nat) : List D := (List.range k).map fun i => .dk (ancD t i)
def rowD (t : T) (i k : Nat) : List D := (List.range k).map fun j => .int (far t i j)
def rowsD (t : T) (k n : Nat) : List D := (List.range k).map fun i => .lst (rowD t i n)
theorem valD_ancE (l : List (Nat × Int)) (p : Nat) : valD (l.map ancE) (.inl (p : Int)) = ((l.find? fun q => decide (q.1 = p)).map (·.2)).map D.int := by
  unfold valD
  rw [List.find?_map, Option.map_map, Option.map_map]
  have : ((fun q : Key × D => decide (q.1 = Sum.inl (p : Int))) ∘ ancE) = fun q : Nat × Int => decide (q.1 = p) := by
    funext q
    show decide ((Sum.inl ((q.1 : Nat) : Int) : Key) = Sum.inl (p : Int)) = _
    refine decide_eq_decide.mpr ⟨fun e => ?_, fun e => by rw [e]⟩
    have := Sum.inl.inj e
    omega
  rw [this]
  rfl
theorem valD_anc (t : T) (i p : Nat) : valD (ancD t i) (.inl (p : Int)) = (upto t i p).map D.int := valD_ancE _ _
theorem aboveD_length (t : T) (k : Nat) : (aboveD t k).length = k := by simp [aboveD]
theorem rowD_length (t : T) (i k : Nat) : (rowD t i k).length = k := by simp [rowD]
theorem rowsD_length (t : T) (k n : Nat) : (rowsD t k n).length = k := by simp [rowsD]
theorem len_above {X : Cx} {t : T} {k : Nat} : CalD X (.builtin "len") [.lst (aboveD t k)] (.int (k : Nat)) := by
  have := ca_lenL (X := X) (xs := aboveD t k)
  rwa [aboveD_length] at this
theorem at_above {t : T} {k i : Nat} (h : i < k) : L2.atI (aboveD t k) (i : Nat) = some (.dk (ancD t i)) := by
  refine atI_nat ?_
  unfold aboveD
  rw [List.getElem?_map, List.getElem?_range h]
  rfl
theorem aboveD_snoc (t : T) (k : Nat) : aboveD t (k + 1) = aboveD t k ++ [.dk (ancD t k)] := by
  unfold aboveD
  rw [List.range_succ, List.map_append]
  rfl
theorem rowD_snoc (t : T) (i k : Nat) : rowD t i (k + 1) = rowD t i k ++ [.int (far t i k)] := by
  unfold rowD
  rw [List.range_succ, List.map_append]
  rfl
theorem rowsD_snoc (t : T) (k n : Nat) : rowsD t (k + 1) n = rowsD t k n ++ [.lst (rowD t k n)] := by
  unfold rowsD
  rw [List.range_succ, List.map_append]
  rfl
/-- the inner loop's dict behind j turns -/
def hereD (t : T) (m u : Nat) (l : Int) (j : Nat) : List (Key × D) := (.inl ((m + 1 : Nat) : Int), .int 0) :: ((anc t u).take j).map fun q => ancE (q.1, q.2 + l)
theorem hereD_length (t : T) (m u : Nat) (l : Int) (j : Nat) : (hereD t m u l j).length ≤ j + 1 := by simp only [hereD, List.length_cons, List.length_map, List.length_take]; omega
theorem putD_new {es : List (Key × D)} {k : Key} {d : D} (h : ∀ q ∈ es, q.1 ≠ k) : putD es k d = es ++ [(k, d)] := by
  unfold putD
  rw [if_neg]
  simp only [List.any_eq_true, decide_eq_true_eq, not_exists, not_and]
  exact h
theorem here_step {t : T} (h : TOk t) {m u j : Nat} {l : Int} {q : Nat × Int} (hu : u ≤ m) (hm : m < t.length) (e : (anc t u)[j]? = some q) : putD (hereD t m u l j) (.inl (q.1 : Nat)) (.int (q.2 + l)) = hereD t m u l (j + 1) := by
  have hl := anc_le h u u (Nat.le_refl _) (by omega)
  rw [putD_new]
  · unfold hereD
    rw [List.take_add_one, e, List.map_append]
    rfl
  · intro w hw
    unfold hereD at hw
    rcases List.mem_cons.mp hw with rfl | hw
    · intro z
      have z' := Sum.inl.inj z
      have := hl.1 q (List.mem_of_getElem? e)
      omega
    · obtain ⟨v, hv, rfl⟩ := List.mem_map.mp hw
      intro z
      have z' : ((v.1 : Nat) : Int) = (q.1 : Nat) := Sum.inl.inj z
      obtain ⟨jl, je⟩ := List.getElem?_eq_some_iff.mp e
      obtain ⟨i, hi, ei⟩ := List.mem_iff_getElem.mp hv
      rw [List.length_take] at hi
      have lt : i < j := by omega
      have := (List.pairwise_iff_getElem.mp hl.2) i j (by omega) jl lt
      rw [List.getElem_take] at ei
      rw [ei, je] at this
      omega
theorem here_full {t : T} (h : TOk t) {m : Nat} (hm : m < t.length) : hereD t m (up t (m + 1)) (ln t (m + 1)) (ancD t (up t (m + 1))).length = ancD t (m + 1) := by
  have e := anc_pos h (i := m + 1) (by omega) (by omega)
  unfold hereD ancD
  rw [List.length_map, List.take_length, e, List.map_cons, List.map_map]
  rfl
theorem anc_look {t : T} (h : TOk t) {u j : Nat} {q : Nat × Int} (hu : u ≤ t.length) (e : (anc t u)[j]? = some q) : valD (ancD t u) (.inl (q.1 : Nat)) = some (.int q.2) := by
  have hl := anc_le h u u (Nat.le_refl _) hu
  rw [valD_anc]
  unfold upto
  have : (anc t u).find? (fun w => decide (w.1 = q.1)) = some q := by
    obtain ⟨jl, je⟩ := List.getElem?_eq_some_iff.mp e
    rw [List.find?_eq_some_iff_getElem]
    refine ⟨by simp, j, jl, je, fun i hi => ?_⟩
    have := (List.pairwise_iff_getElem.mp hl.2) i j (by omega) jl hi
    rw [je] at this
    simp
    omega
  rw [this]
  rfl
theorem tup_at {t : T} {m : Nat} {d : D} (e : (t.map tupD)[m]? = some d) : m < t.length ∧ d = .tup [.int (up t (m + 1)), .int (ln t (m + 1))] := by
  rw [List.getElem?_map] at e
  cases hq : t[m]? with
  | none => rw [hq] at e; cases e
  | some q =>
    rw [hq] at e
    cases e
    have lt := (List.getElem?_eq_some_iff.mp hq).1
    refine ⟨lt, ?_⟩
    unfold up ln
    rw [Nat.add_sub_cancel, List.getD_eq_getElem?_getD, hq]
    rfl
theorem key_at {t : T} {u j : Nat} {d : D} (e : ((ancD t u).map fun q => kD q.1)[j]? = some d) : ∃ q, (anc t u)[j]? = some q ∧ d = .int (q.1 : Nat) := by
  unfold ancD at e
  rw [List.map_map, List.getElem?_map] at e
  cases hq : (anc t u)[j]? with
  | none => rw [hq] at e; cases e
  | some q => rw [hq] at e; cases e; exact ⟨q, rfl, rfl⟩
def preLawTable : List D → Sk → Prop := fun ds r => ∃ t, TOk t ∧ ds = [treeD t] ∧ r = .ow none (rLst (rowsD t (t.length + 1) (t.length + 1)))
def preLawWhole : List D → Sk → Prop := fun ds r => ∃ a b : Int, ds = [.int a, .int b] ∧ r = .im (.bl (decide (a = b)))
end DL
namespace DL
open PySem PySem.Spec PyProof.Rows L2
/-! M5: what laws draw -/
def pairD (q : Nat × Nat) : D := .tup [.int q.1, .int q.2]
def pairsR (m : Int) : Nat → Pool → List (Nat × Nat) × Pool
  | 0, p => ([], p)
  | k + 1, p => ((pairsR m k p).1 ++ [((take (pairsR m k p).2 m).1.toNat, (take (take (pairsR m k p).2 m).2 m).1.toNat)], (take (take (pairsR m k p).2 m).2 m).2)
@[irreducible] def pairsN (m : Int) (k : Nat) (p : Pool) : List (Nat × Nat) × Pool := pairsR m k p
theorem pairsN_zero (m : Int) (p : Pool) : pairsN m 0 p = ([], p) := by
  unfold pairsN; rfl
theorem pairsN_succ (m : Int) (k : Nat) (p : Pool) : pairsN m (k + 1) p = ((pairsN m k p).1 ++ [((take (pairsN m k p).2 m).1.toNat, (take (take (pairsN m k p).2 m).2 m).1.toNat)], (take (take (pairsN m k p).2 m).2 m).2) := by
  unfold pairsN; rfl
theorem pairsN_lt {m : Int} (h : 1 ≤ m) (p : Pool) : ∀ (k : Nat) (q : Nat × Nat), q ∈ (pairsN m k p).1 → (q.1 : Int) < m ∧ (q.2 : Int) < m
  | 0, q, hq => by rw [pairsN_zero] at hq; cases hq
  | k + 1, q, hq => by
    rw [pairsN_succ] at hq
    rcases List.mem_append.mp hq with hq | hq
    · exact pairsN_lt h p k q hq
    · rw [List.mem_singleton] at hq
      subst hq
      have h1 := take_mod (pairsN m k p).2 h
      have h2 := take_mod (take (pairsN m k p).2 m).2 h
      simp only
      omega
theorem pairsN_length (m : Int) (p : Pool) : ∀ k, (pairsN m k p).1.length = k
  | 0 => by rw [pairsN_zero]; rfl
  | k + 1 => by
    rw [pairsN_succ, List.length_append, pairsN_length m p k]
    rfl
theorem pairsN_pb {m n : Int} {p : Pool} (h : PB n p) : ∀ k : Nat, PB (n + 2 * k) (pairsN m k p).2
  | 0 => by rw [pairsN_zero]; exact h.le (by omega)
  | k + 1 => by
    rw [pairsN_succ]
    exact (take_pb _ (take_pb _ (pairsN_pb h k))).le (by omega)
theorem pairsN_snoc {m : Int} (h : 1 ≤ m) (p : Pool) (k : Nat) : (pairsN m (k + 1) p).1.map pairD = (pairsN m k p).1.map pairD ++ [.tup [.int (take (pairsN m k p).2 m).1, .int (take (take (pairsN m k p).2 m).2 m).1]] := by
  have h1 := take_mod (pairsN m k p).2 h
  have h2 := take_mod (take (pairsN m k p).2 m).2 h
  rw [show (pairsN m (k + 1) p).1 = (pairsN m k p).1 ++ [((take (pairsN m k p).2 m).1.toNat, (take (take (pairsN m k p).2 m).2 m).1.toNat)] by rw [pairsN_succ], List.map_append]
  unfold pairD
  simp only [List.map_cons, List.map_nil]
  rw [Int.toNat_of_nonneg h1.1, Int.toNat_of_nonneg h2.1]
/-- the pairs of k02 and k03 -/
def pairs2 (t : T) (p : Pool) : List (Nat × Nat) := (pairsN (t.length + 1) 40 p).1 ++ (List.range (t.length + 1)).map fun q => (t.length, q)
theorem pairs2_eq (t : T) (p : Pool) : (pairsN (t.length + 1) 40 p).1.map pairD ++ (List.range (t.length + 1)).map (fun q => D.tup [.int (t.length : Nat), .int (q : Nat)]) = (pairs2 t p).map pairD := by
  unfold pairs2
  rw [List.map_append, List.map_map]
  rfl
theorem pairs2_le {t : T} {p : Pool} {q : Nat × Nat} (h : q ∈ pairs2 t p) : q.1 ≤ t.length ∧ q.2 ≤ t.length := by
  rcases List.mem_append.mp h with h | h
  · have := pairsN_lt (by omega) p 40 q h
    omega
  · obtain ⟨x, hx, rfl⟩ := List.mem_map.mp h
    have := List.mem_range.mp hx
    simp only
    omega
theorem pairs_at {l : List (Nat × Nat)} {k : Nat} {d : D} (h : (l.map pairD)[k]? = some d) : ∃ q, q ∈ l ∧ d = .tup [.int (q.1 : Nat), .int (q.2 : Nat)] := by
  rw [List.getElem?_map] at h
  obtain ⟨q, hq, rfl⟩ := Option.map_eq_some_iff.mp h
  exact ⟨q, List.mem_of_getElem? hq, rfl⟩
theorem at_rows {t : T} {k n i : Nat} (h : i < k) : L2.atI (rowsD t k n) (i : Nat) = some (.lst (rowD t i n)) := by
  refine atI_nat ?_
  unfold rowsD
  rw [List.getElem?_map, List.getElem?_range h]
  rfl
theorem at_row {t : T} {n i j : Nat} (h : j < n) : L2.atI (rowD t i n) (j : Nat) = some (.int (far t i j)) := by
  refine atI_nat ?_
  unfold rowD
  rw [List.getElem?_map, List.getElem?_range h]
  rfl
/-! what may be held against each other -/
structure Gd (n : Nat) (d : D) : Prop where
  pl : d.plain = true
  lay : d.py.canLay0 = true
  dep : d.py.depth ≤ n
theorem Gd.good {n : Nat} {d : D} (h : Gd n d) (e : n ≤ 64) : d.good = true := by
  unfold D.good SeqAt.shaped
  rw [h.pl, h.lay, decide_eq_true (Nat.le_trans h.dep e)]
  rfl
theorem Gd.int {n : Nat} (i : Int) : Gd n (.int i) := ⟨rfl, rfl, Nat.zero_le _⟩
theorem Gd.bl {n : Nat} (i : Bool) : Gd n (.bl i) := ⟨rfl, rfl, Nat.zero_le _⟩
theorem Gd.non {n : Nat} : Gd n .non := ⟨rfl, rfl, Nat.zero_le _⟩
theorem gd_all {n : Nat} : ∀ {ds : List D}, (∀ d ∈ ds, Gd n d) → D.plainA ds = true ∧ PyData.canLayAll0 (D.pyA ds) = true ∧ PyData.depthAll (D.pyA ds) ≤ n
  | [], _ => ⟨rfl, rfl, Nat.zero_le _⟩
  | d :: ds, h => by
    have h1 := h d (List.mem_cons_self ..)
    have h2 := gd_all fun x hx => h x (List.mem_cons_of_mem _ hx)
    rw [D.plainA, D.pyA, PyData.canLayAll0, PyData.depthAll, h1.pl, h1.lay, h2.1, h2.2.1]
    exact ⟨rfl, rfl, Nat.max_le.mpr ⟨h1.dep, h2.2.2⟩⟩
theorem Gd.lst {n : Nat} {ds : List D} (h : ∀ d ∈ ds, Gd n d) : Gd (n + 1) (.lst ds) := by
  have a := gd_all h
  refine ⟨?_, ?_, ?_⟩
  · rw [D.plain]; exact a.1
  · rw [D.py, PyData.canLay0]; exact a.2.1
  · rw [D.py, PyData.depth]; exact Nat.succ_le_succ a.2.2
theorem Gd.tup {n : Nat} {ds : List D} (h : ∀ d ∈ ds, Gd n d) : Gd (n + 1) (.tup ds) := by
  have a := gd_all h
  refine ⟨?_, ?_, ?_⟩
  · rw [D.plain]; exact a.1
  · rw [D.py, PyData.canLay0]; exact a.2.1
  · rw [D.py, PyData.depth]; exact Nat.succ_le_succ a.2.2
theorem Gd.lstM {α : Type} {n : Nat} {l : List α} {f : α → D} (h : ∀ x ∈ l, Gd n (f x)) : Gd (n + 1) (.lst (l.map f)) := Gd.lst fun d hd => by
  obtain ⟨x, hx, rfl⟩ := List.mem_map.mp hd
  exact h x hx
theorem Gd.pair {n : Nat} (i j : Int) : Gd (n + 1) (.tup [.int i, .int j]) := Gd.tup fun d hd => by
  rcases List.mem_cons.mp hd with rfl | hd
  · exact .int _
  · rw [List.mem_singleton] at hd; subst hd; exact .int _
theorem gd_tree (t : T) : Gd 2 (treeD t) := Gd.lstM fun _ _ => Gd.pair _ _
theorem tree_good (t : T) : (treeD t).good = true := (gd_tree t).good (by decide)
mutual
theorem eqv_refl : ∀ d : D, PyData.eqv d.py d.py = true
  | .non => rfl
  | .bl b => by rw [D.py, PyData.eqv]; exact beq_self_eq_true b
  | .int b => by rw [D.py, PyData.eqv]; exact beq_self_eq_true b
  | .str b => by rw [D.py, PyData.eqv]; exact beq_self_eq_true b
  | .tup xs => by rw [D.py, PyData.eqv]; exact eqv_reflA xs
  | .lst xs => by rw [D.py, PyData.eqv]; exact eqv_reflA xs
  | .rol xs => by rw [D.py, PyData.eqv]; exact eqv_reflA xs
  | .rot xs => by rw [D.py, PyData.eqv]; exact eqv_reflA xs
  | .dk _ => rfl
  | .dt _ => rfl
  | .raw _ => rfl
theorem eqv_reflA : ∀ ds : List D, PyData.eqvAll (D.pyA ds) (D.pyA ds) = true
  | [] => rfl
  | d :: ds => by rw [D.pyA, PyData.eqvAll, eqv_refl d, eqv_reflA ds]; rfl
end
theorem D.eqv_refl (d : D) : d.eqv d = true := DL.eqv_refl d
def preLaw : List D → Sk → Prop := fun ds r => ∃ ns : List Int, ns.length ≤ 63 ∧ ds = [.rol (ns.map D.int)] ∧ r = .im (.bl true)
theorem rng_succ (n : Nat) : rngN ((n : Int) + 1).toNat = (List.range (n + 1)).map fun q => .int (q : Nat) := by
  rw [show ((n : Int) + 1).toNat = n + 1 by omega]
  rfl
theorem pairs2_cast (t : T) (p : Pool) : (pairsN ((t.length : Nat) + 1) 40 p).1.map pairD ++ ((List.range (t.length + 1)).filter (fun _ => true)).map (fun q => D.tup [.int (t.length : Nat), .int (q : Nat)]) = (pairs2 t p).map pairD := by
  rw [List.filter_eq_self.mpr (fun _ _ => rfl)]
  exact pairs2_eq t p
theorem pairs2_catl (t : T) (h : TOk t) (p : Pool) : ((pairsN ((t.length : Nat) + 1) 40 p).1.map pairD).length + (((List.range (t.length + 1)).filter (fun _ => true)).map (fun q => D.tup [.int (t.length : Nat), .int (q : Nat)])).length ≤ 100000 := by
  rw [List.filter_eq_self.mpr (fun _ _ => rfl), List.length_map, List.length_map, List.length_range, pairsN_length]
  have := h.few
  omega
/-- the tree of the document -/
def docT : T := [(0, 5), (0, 7), (1, 2)]
theorem ok_nil : TOk [] := ⟨by decide, fun i q h => by simp at h, fun i q h => by simp at h⟩
theorem ok_doc : TOk docT := by
  refine ⟨by decide, fun i q h => ?_, fun i q h => ?_⟩ <;>
  · match i, h with
    | 0, h => cases h; decide
    | 1, h => cases h; decide
    | 2, h => cases h; decide
    | n + 3, h => cases h
theorem same_kn (d : D) : (!d.eqv d) = false := by rw [D.eqv_refl]; rfl
theorem far2_kn {t : T} (h : TOk t) {a b : Nat} (ha : a ≤ t.length) (hb : b ≤ t.length) : (!decide (far t a b = far t a b) || !decide (far t b a = far t a b)) = false := by
  rw [far_comm h hb ha]
  simp
end DL
namespace DL
open PySem PySem.Spec PyProof.Rows L2
/-! M6: ways -/
theorem at_nats {l : List Nat} {i : Nat} {a : Nat} (h : l[i]? = some a) : (natsD l)[i]? = some (.int (a : Nat)) := by
  unfold natsD
  rw [List.getElem?_map, h]; rfl
theorem nats_ints (l : List Nat) : natsD l = (l.map Int.ofNat).map D.int := by
  unfold natsD
  rw [List.map_map]
  rfl
theorem cd_ninN {X : Cx} {p : Nat} {l : List Nat} : CmpD X .NotIn (.int (p : Nat)) (.lst (natsD l)) (!decide (p ∈ l)) := by
  rw [nats_ints, show decide (p ∈ l) = decide ((p : Int) ∈ l.map Int.ofNat) by
    congr 1
    rw [List.mem_map]
    exact propext ⟨fun h => ⟨p, h, rfl⟩, fun ⟨q, h, e⟩ => by
      have : q = p := Int.ofNat.inj e
      exact this ▸ h⟩]
  exact cd_ninI
theorem mt_idxN {X : Cx} {p k : Nat} {l : List Nat} (h : l[k]? = some p) (hno : ∀ m : Nat, m < k → l[m]? ≠ some p) : MtV X "list" "list.index" (.lst (natsD l)) [.int (p : Nat)] (.int (k : Nat)) := by
  rw [nats_ints]
  refine mt_idx (by rw [List.getElem?_map, h]; rfl) fun m hm e => hno m hm ?_
  rw [List.getElem?_map] at e
  obtain ⟨q, hq, e⟩ := Option.map_eq_some_iff.mp e
  have : q = p := Int.ofNat.inj e
  rw [hq, this]
section
variable {t : T}
/-- the way from one to another, both in -/
def way (t : T) (a b : Nat) : List Nat := (way2 t a b).1 ++ (way2 t a b).2.reverse
theorem way_len (h : TOk t) {i j : Nat} (hi : i ≤ t.length) (hj : j ≤ t.length) : (way t i j).length ≤ 200 := by
  have := way2_len h _ i j (Nat.le_refl _) hi hj
  have := h.few
  unfold way
  rw [List.length_append, List.length_reverse]
  omega
def upL (t : T) (i : Nat) : List Nat := (anc t i).map (·.1)
theorem upL_zero : upL t 0 = [0] := rfl
theorem upL_pos (h : TOk t) {i : Nat} (h1 : 0 < i) (h2 : i ≤ t.length) : upL t i = i :: upL t (up t i) := by
  unfold upL
  rw [anc_pos h h1 h2, List.map_cons, List.map_map]
  rfl
theorem mem_upL {i p : Nat} : p ∈ upL t i ↔ (upto t i p).isSome = true := by
  unfold upL upto
  rw [Option.isSome_map, List.find?_isSome, List.mem_map]
  exact ⟨fun ⟨q, h, e⟩ => ⟨q, h, by simpa using e⟩, fun ⟨q, h, e⟩ => ⟨q, h, by simpa using e⟩⟩
theorem upL_le (h : TOk t) {i p : Nat} (hi : i ≤ t.length) (hp : p ∈ upL t i) : p ≤ i := upto_le h hi (mem_upL.mp hp)
def dnN (t : T) (i : Nat) : Nat → Nat → List Nat
  | 0, _ => []
  | n + 1, p => if p ∈ upL t i then [] else p :: dnN t i n (up t p)
def dn (t : T) (i p : Nat) : List Nat := dnN t i p p
theorem dn_yes {i p : Nat} (hp : p ∈ upL t i) : dn t i p = [] := by
  unfold dn
  cases p with
  | zero => rfl
  | succ p => unfold dnN; rw [if_pos hp]
theorem zero_upL (h : TOk t) {i : Nat} (hi : i ≤ t.length) : 0 ∈ upL t i := mem_upL.mpr (upto_root h i i (Nat.le_refl _) hi)
theorem dnN_fuel (h : TOk t) {i : Nat} (hi : i ≤ t.length) : ∀ (n m p : Nat), p ≤ n → p ≤ m → p ≤ t.length → dnN t i n p = dnN t i m p
  | 0, 0, _, _, _, _ => rfl
  | 0, m + 1, p, h1, _, _ => by
    have e : p = 0 := by omega
    subst e
    unfold dnN
    rw [if_pos (zero_upL h hi)]
  | n + 1, 0, p, _, h1, _ => by
    have e : p = 0 := by omega
    subst e
    unfold dnN
    rw [if_pos (zero_upL h hi)]
  | n + 1, m + 1, p, h1, h2, h3 => by
    unfold dnN
    by_cases e : p ∈ upL t i
    · rw [if_pos e, if_pos e]
    · have p0 : 0 < p := by
        rcases Nat.eq_zero_or_pos p with z | z
        · subst z; exact absurd (zero_upL h hi) e
        · exact z
      have u := h.up_lt p0 h3
      rw [if_neg e, if_neg e, dnN_fuel h hi n m (up t p) (by omega) (by omega) (by omega)]
theorem dn_no (h : TOk t) {i p : Nat} (hi : i ≤ t.length) (hp : p ≤ t.length) (e : ¬ p ∈ upL t i) : 0 < p ∧ dn t i p = p :: dn t i (up t p) := by
  have p0 : 0 < p := by
    rcases Nat.eq_zero_or_pos p with z | z
    · subst z; exact absurd (zero_upL h hi) e
    · exact z
  refine ⟨p0, ?_⟩
  have u := h.up_lt p0 hp
  unfold dn
  obtain ⟨n, hn⟩ : ∃ n, p = n + 1 := ⟨p - 1, by omega⟩
  rw [show dnN t i p p = dnN t i (n + 1) p by rw [hn]]
  show (if p ∈ upL t i then _ else _) = _
  rw [if_neg e, dnN_fuel h hi n (up t p) (up t p) (by omega) (Nat.le_refl _) (by omega)]
theorem dn_congr (h : TOk t) {i : Nat} (h1 : 0 < i) (hi : i ≤ t.length) : ∀ (n p : Nat), p ≤ n → p < i → dn t i p = dn t (up t i) p
  | n, p, hn, hp => by
    have ui := h.up_lt h1 hi
    have em : p ∈ upL t i ↔ p ∈ upL t (up t i) := by
      rw [upL_pos h h1 hi, List.mem_cons]
      exact ⟨fun z => z.resolve_left (by omega), .inr⟩
    by_cases e : p ∈ upL t i
    · rw [dn_yes e, dn_yes (em.mp e)]
    · have e' : ¬ p ∈ upL t (up t i) := fun z => e (em.mpr z)
      obtain ⟨p0, d1⟩ := dn_no h hi (by omega) e
      obtain ⟨_, d2⟩ := dn_no h (by omega) (by omega) e'
      have u := h.up_lt p0 (by omega)
      rw [d1, d2]
      cases n with
      | zero => omega
      | succ n => rw [dn_congr h h1 hi n (up t p) (by omega) (by omega)]
theorem climb_mem (h : TOk t) {i : Nat} (hi : i ≤ t.length) : ∀ (n p : Nat), p ≤ n → p ≤ t.length → climb t i p ∈ upL t i
  | n, p, hn, hp => by
    by_cases e : (upto t i p).isSome = true
    · rw [climb_yes e]; exact mem_upL.mpr e
    · obtain ⟨p0, c⟩ := climb_pos h hi hp e
      have u := h.up_lt p0 hp
      rw [c]
      cases n with
      | zero => omega
      | succ n => exact climb_mem h hi n (up t p) (by omega) (by omega)
theorem climb_le (h : TOk t) {i : Nat} (hi : i ≤ t.length) : ∀ (n p : Nat), p ≤ n → p ≤ t.length → climb t i p ≤ p
  | n, p, hn, hp => by
    by_cases e : (upto t i p).isSome = true
    · rw [climb_yes e]; exact Nat.le_refl _
    · obtain ⟨p0, c⟩ := climb_pos h hi hp e
      have u := h.up_lt p0 hp
      rw [c]
      cases n with
      | zero => omega
      | succ n => exact Nat.le_trans (climb_le h hi n (up t p) (by omega) (by omega)) (by omega)
/-- the law's own: up to where it is met, then down -/
theorem way2_due (h : TOk t) : ∀ (n i j : Nat), i + j ≤ n → i ≤ t.length → j ≤ t.length → ∃ A, way2 t i j = (A ++ [climb t i j], dn t i j) ∧ (A ++ [climb t i j]) <+: upL t i ∧ climb t i j ∉ A
  | n, i, j, hn, hi, hj => by
    by_cases e : i = j
    · subst e
      have s : (upto t i i).isSome = true := by rw [upto_self h hi]; rfl
      refine ⟨[], ?_, ?_, List.not_mem_nil⟩
      · rw [way2_eq, climb_yes s, dn_yes (mem_upL.mpr s)]; rfl
      · rw [climb_yes s]
        rcases Nat.eq_zero_or_pos i with z | z
        · subst z; rw [upL_zero]; exact ⟨[], rfl⟩
        · rw [upL_pos h z hi]; exact ⟨_, rfl⟩
    · by_cases g : j < i
      · have u := h.up_lt (p := i) (by omega) hi
        cases n with
        | zero => omega
        | succ n =>
          obtain ⟨A, a1, a2, a3⟩ := way2_due h n (up t i) j (by omega) (by omega) hj
          have ec := climb_congr h (by omega) hi j j (Nat.le_refl _) g
          refine ⟨i :: A, ?_, ?_, ?_⟩
          · rw [way2_gt h hi g, a1, ec, dn_congr h (by omega) hi j j (Nat.le_refl _) g]; rfl
          · rw [ec, upL_pos h (by omega) hi, List.cons_append, List.cons_prefix_cons]
            exact ⟨rfl, a2⟩
          · rw [ec]
            have := climb_le h (i := up t i) (by omega) j j (Nat.le_refl _) hj
            intro m
            rcases List.mem_cons.mp m with m | m
            · omega
            · exact a3 m
      · have g2 : i < j := by omega
        have u := h.up_lt (p := j) (by omega) hj
        have e2 : ¬ j ∈ upL t i := fun z => by have := upL_le h hi z; omega
        obtain ⟨_, c⟩ := climb_pos h hi hj (fun z => e2 (mem_upL.mpr z))
        obtain ⟨_, d⟩ := dn_no h hi hj e2
        cases n with
        | zero => omega
        | succ n =>
          obtain ⟨A, a1, a2, a3⟩ := way2_due h n i (up t j) (by omega) hi (by omega)
          refine ⟨A, ?_, ?_, ?_⟩
          · rw [way2_lt h hj g2, a1, c, d]
          · rw [c]; exact a2
          · rw [c]; exact a3
theorem due_way (h : TOk t) {i j : Nat} (hi : i ≤ t.length) (hj : j ≤ t.length) : ∃ k : Nat, (upL t i)[k]? = some (climb t i j) ∧ (∀ m : Nat, m < k → (upL t i)[m]? ≠ some (climb t i j)) ∧ way t i j = (upL t i).take k ++ (dn t i j ++ [climb t i j]).reverse ∧ k ≤ 200 := by
  obtain ⟨A, a1, ⟨R, a2⟩, a3⟩ := way2_due h _ i j (Nat.le_refl _) hi hj
  have la : A.length ≤ 200 := by
    have := way_len h hi hj
    unfold way at this
    rw [a1] at this
    simp at this
    omega
  refine ⟨A.length, ?_, fun m hm z => ?_, ?_, la⟩
  · rw [← a2, List.append_assoc, List.getElem?_append_right (Nat.le_refl _), Nat.sub_self]; rfl
  · rw [← a2, List.append_assoc, List.getElem?_append_left hm] at z
    exact a3 (List.mem_of_getElem? z)
  · unfold way
    rw [a1]
    show (A ++ [climb t i j]) ++ (dn t i j).reverse = _
    rw [← a2, List.append_assoc A [climb t i j] R, List.take_left]
    simp
end
def preWayBy : List D → Sk → Prop := fun ds r => ∃ (t : T) (i j : Nat), TOk t ∧ i ≤ t.length ∧ j ≤ t.length ∧ ds = [treeD t, .int i, .int j] ∧ r = .ow none (rLst (natsD (way t i j)))
def preAreWhole : List D → Sk → Prop := fun ds r => ∃ l : List Nat, l.length ≤ 1000 ∧ ds = [.lst (natsD l), .lst (natsD l)] ∧ r = .im (.bl true)
theorem gd_nats (l : List Nat) : (D.lst (natsD l)).good = true := (Gd.lstM (n := 0) fun _ _ => .int _).good (by decide)
theorem natsD_reverse (l : List Nat) : (natsD l).reverse = natsD l.reverse := by
  unfold natsD
  rw [List.map_reverse]
theorem natsD_take (l : List Nat) (k : Nat) : cutD (natsD l) none (some (k : Nat)) = natsD (l.take k) := by
  unfold cutD
  show ((natsD l).drop 0).take (HT.sIx (natsD l).length (natsD l).length (some (k : Nat)) - 0) = _
  rw [HT.sIx_nat, List.drop_zero, Nat.sub_zero]
  unfold natsD
  rw [List.map_take, List.length_map]
  by_cases h : k ≤ l.length
  · rw [Nat.min_eq_left h]
  · rw [Nat.min_eq_right (by omega), List.take_of_length_le (by rw [List.length_map]; exact Nat.le_refl _), List.take_of_length_le (by rw [List.length_map]; omega)]
theorem way_catl {t : T} (h : TOk t) {i j : Nat} (hi : i ≤ t.length) (hj : j ≤ t.length) : (natsD (way2 t i j).1).length + (natsD (way2 t i j).2).reverse.length ≤ 100000 := by
  have := way_len h hi hj
  unfold way at this
  rw [natsD_reverse, natsD_length, natsD_length]
  rw [List.length_append] at this
  omega
theorem way_ret {t : T} {i j : Nat} : Sk.ow none (rLst (natsD (way2 t i j).1 ++ (natsD (way2 t i j).2).reverse)) = .ow none (rLst (natsD (way t i j))) := by
  rw [natsD_reverse, ← natsD_append]
  rfl
theorem cd_noneEq {X : Cx} {α : Type} {xs : List α} {g : α → D} (hu : X.A.units + 64 < cLine) : CmpD X .Eq (.lst ((xs.filter fun _ => false).map g)) (.lst []) true := by
  rw [List.filter_eq_nil_iff.mpr (fun _ _ => Bool.false_ne_true)]
  exact cd_eqD hu rfl rfl
theorem cd_noneNe {X : Cx} {α : Type} {xs : List α} {g : α → D} (hu : X.A.units + 64 < cLine) : CmpD X .NotEq (.lst ((xs.filter fun _ => false).map g)) (.lst []) false := by
  rw [List.filter_eq_nil_iff.mpr (fun _ _ => Bool.false_ne_true)]
  exact cd_neD hu rfl rfl
theorem cd_eqSame {X : Cx} {d1 d2 : D} (hu : X.A.units + 64 < cLine) (g : d1.good = true) (e : d1 = d2) : CmpD X .Eq d1 d2 true := by
  subst e
  rw [← D.eqv_refl d1]
  exact cd_eqD hu g g
def docT3 : T := [(0, 0), (0, 0), (1, 0)]
theorem ok_doc3 : TOk docT3 := by
  refine ⟨by decide, fun i q h => ?_, fun i q h => ?_⟩ <;>
  · match i, h with
    | 0, h => cases h; decide
    | 1, h => cases h; decide
    | 2, h => cases h; decide
    | n + 3, h => cases h
theorem same2_kn (d : D) : (!true || !d.eqv d) = false := by rw [D.eqv_refl]; rfl
end DL
namespace DL
open PySem PySem.Spec PyProof.Rows L2
/-! M7: the table as the program makes it -/
section
variable {t : T}
def rowsL (t : T) (k n : Nat) : List (List D) := (List.range k).map fun i => rowD t i n
theorem rowsL_map (t : T) (k n : Nat) : (rowsL t k n).map D.lst = rowsD t k n := by
  unfold rowsL rowsD
  rw [List.map_map]
  rfl
theorem rowsL_length (t : T) (k n : Nat) : (rowsL t k n).length = k := by simp [rowsL]
theorem rowsL_get {k n i : Nat} (h : i < k) : (rowsL t k n)[i]? = some (rowD t i n) := by
  unfold rowsL
  rw [List.getElem?_map, List.getElem?_range h]
  rfl
theorem at_rowsL {k n i : Nat} (h : i < k) : L2.atI ((rowsL t k n).map D.lst) (i : Nat) = some (.lst (rowD t i n)) := by
  rw [rowsL_map]
  exact at_rows h
theorem rowsL_one : rowsL t 1 1 = [[.int 0]] := by
  unfold rowsL rowD
  rw [show List.range 1 = [0] from rfl, List.map_cons, List.map_nil, List.map_cons, List.map_nil, far_self]
/-- the rows, the first i of them longer by one -/
def zipL (t : T) (m i : Nat) : List (List D) := (List.range (m + 1)).map fun k => if k < i then rowD t k (m + 2) else rowD t k (m + 1)
theorem zipL_zero (m : Nat) : zipL t m 0 = rowsL t (m + 1) (m + 1) := rfl
theorem zipL_full (m : Nat) : zipL t m (m + 1) = rowsL t (m + 1) (m + 2) := by
  unfold zipL rowsL
  refine List.map_congr_left fun k hk => ?_
  rw [if_pos (List.mem_range.mp hk)]
theorem zipL_get {m i : Nat} (h : i < m + 1) : (zipL t m i)[i]? = some (rowD t i (m + 1)) := by
  unfold zipL
  rw [List.getElem?_map, List.getElem?_range h]
  show some (if i < i then _ else _) = _
  rw [if_neg (by omega)]
theorem zipL_set {m i : Nat} (h : i < m + 1) : (zipL t m i).set i (rowD t i (m + 1) ++ [.int (far t i (m + 1))]) = zipL t m (i + 1) := by
  apply List.ext_getElem?
  intro k
  rw [List.getElem?_set]
  by_cases e : i = k
  · subst e
    rw [if_pos rfl, if_pos (by simp [zipL]; omega)]
    unfold zipL
    rw [List.getElem?_map, List.getElem?_range h]
    show _ = some (if i < i + 1 then _ else _)
    rw [if_pos (by omega), ← rowD_snoc]
  · rw [if_neg e]
    unfold zipL
    rw [List.getElem?_map, List.getElem?_map]
    by_cases hk : k < m + 1
    · rw [List.getElem?_range hk]
      show some (if k < i then _ else _) = some (if k < i + 1 then _ else _)
      by_cases z : k < i
      · rw [if_pos z, if_pos (by omega)]
      · rw [if_neg z, if_neg (by omega)]
    · rw [List.getElem?_eq_none (by rw [List.length_range]; omega)]
      rfl
theorem row_new (h : TOk t) {m : Nat} (hm : m < t.length) : ((List.range (m + 1)).filter fun _ => true).map (fun j => D.int (far t (up t (m + 1)) j + ln t (m + 1))) = rowD t (m + 1) (m + 1) := by
  rw [List.filter_eq_self.mpr (fun _ _ => rfl)]
  unfold rowD
  refine List.map_congr_left fun j hj => ?_
  have := List.mem_range.mp hj
  rw [far_gt h (a := m + 1) (by omega) (by omega), Int.add_comm]
theorem rows_new (h : TOk t) {m : Nat} (hm : m < t.length) : rowsL t (m + 1) (m + 2) ++ [rowD t (m + 1) (m + 1) ++ [.int 0]] = rowsL t (m + 2) (m + 2) := by
  have e : rowD t (m + 1) (m + 1) ++ [.int 0] = rowD t (m + 1) (m + 2) := by
    rw [rowD_snoc t (m + 1) (m + 1), far_self]
  rw [e]
  unfold rowsL
  rw [List.range_succ (n := m + 1), List.map_append]
  rfl
theorem row_get {i n j : Nat} {d : D} (h : (rowD t i n)[j]? = some d) : j < n ∧ d = .int (far t i j) := by
  have lt : j < n := by
    have := (List.getElem?_eq_some_iff.mp h).1
    rwa [rowD_length] at this
  unfold rowD at h
  rw [List.getElem?_map, List.getElem?_range lt] at h
  exact ⟨lt, (Option.some.inj h).symm⟩
end
theorem flat_mapI {α : Type} (l : List α) (f : α → Int) : ∀ d ∈ l.map (fun x => D.int (f x)), d.flat = true := fun d m => by
  obtain ⟨x, _, rfl⟩ := List.mem_map.mp m
  rfl
def preTable : List D → Sk → Prop := fun ds r => ∃ t, TOk t ∧ ds = [treeD t] ∧ r = .ow none (rLL (rowsL t (t.length + 1) (t.length + 1)))
theorem enum_rows {t : T} {k n i : Nat} {d : D} (h : (((rowsL t k n).map D.lst).mapIdx fun i d => D.tup [.int (i : Nat), d])[i]? = some d) : i < k ∧ d = .tup [.int (i : Nat), .lst (rowD t i n)] := by
  rw [List.getElem?_mapIdx] at h
  obtain ⟨e, he, rfl⟩ := Option.map_eq_some_iff.mp h
  have lt : i < k := by
    have := (List.getElem?_eq_some_iff.mp he).1
    rwa [List.length_map, rowsL_length] at this
  rw [List.getElem?_map, rowsL_get lt] at he
  cases he
  exact ⟨lt, rfl⟩
theorem enum_rows_len {t : T} {k n : Nat} : (((rowsL t k n).map D.lst).mapIdx fun i d => D.tup [.int (i : Nat), d]).length = k := by
  rw [List.length_mapIdx, List.length_map, rowsL_length]
/-- a pair with its distance, as the program tells it -/
def prD (t : T) (i j : Nat) : D := .tup [.int (far t i j), .tup [.int (i : Nat), .int (j : Nat)]]
def prRow (t : T) (n i : Nat) : List D := (List.range (n - (i + 1))).map fun j => prD t i (i + 1 + j)
def prs (t : T) (n k : Nat) : List D := (List.range k).flatMap (prRow t n)
theorem prs_zero (t : T) (n : Nat) : prs t n 0 = [] := rfl
theorem prs_succ (t : T) (n k : Nat) : prs t n (k + 1) = prs t n k ++ prRow t n k := by
  unfold prs
  rw [List.range_succ, List.flatMap_append]
  simp
theorem prRow_len (t : T) (n i : Nat) : (prRow t n i).length ≤ n := by
  unfold prRow
  rw [List.length_map, List.length_range]
  omega
theorem prs_len (t : T) (n : Nat) : ∀ k, (prs t n k).length ≤ k * n
  | 0 => by rw [prs_zero]; simp
  | k + 1 => by
    have := prs_len t n k
    have := prRow_len t n k
    rw [prs_succ, List.length_append, Nat.succ_mul]
    omega
theorem rng_from (i n : Nat) : rngD ((i : Nat) + 1) (((n : Nat) : Int) - ((i : Nat) + 1)).toNat = (List.range (n - (i + 1))).map fun j => D.int ((i + 1 + j : Nat) : Int) := by
  unfold rngD
  rw [show (((n : Nat) : Int) - ((i : Nat) + 1)).toNat = n - (i + 1) by omega]
  refine List.map_congr_left fun j _ => ?_
  congr 1
def prePairs : List D → Sk → Prop := fun ds r => ∃ t, TOk t ∧ ds = [treeD t] ∧ r = .ow none (rLst (prs t (t.length + 1) (t.length + 1)))
theorem pr_extl {t : T} (h : TOk t) {k : Nat} (hk : k < t.length + 1) : (prs t (t.length + 1) k).length + (((List.range (t.length + 1 - (k + 1))).filter fun _ => true).map fun j => prD t k (k + 1 + j)).length ≤ 100000 := by
  rw [List.filter_eq_self.mpr (fun _ _ => rfl)]
  have h1 := prs_len t (t.length + 1) k
  have h2 := h.few
  have h3 : k * (t.length + 1) ≤ 60 * 60 := Nat.mul_le_mul (by omega) (by omega)
  rw [List.length_map, List.length_range]
  omega
theorem pr_step {t : T} {n k : Nat} : prs t n k ++ ((List.range (n - (k + 1))).filter fun _ => true).map (fun j => prD t k (k + 1 + j)) = prs t n (k + 1) := by
  rw [List.filter_eq_self.mpr (fun _ _ => rfl), prs_succ]
  rfl
theorem rng_from_row (t : T) (i n : Nat) : rngD ((i : Nat) + 1) (((rowD t i n).length : Int) - ((i : Nat) + 1)).toNat = (List.range (n - (i + 1))).map fun j => D.int ((i + 1 + j : Nat) : Int) := by
  rw [rowD_length]
  exact rng_from i n
end DL
namespace DL
open PySem PySem.Spec PyProof.Rows L2
/-! M8: pairs by their distance -/
section
variable {t : T}
def ijs (n k : Nat) : List (Nat × Nat) := (List.range k).flatMap fun i => (List.range (n - (i + 1))).map fun j => (i, i + 1 + j)
theorem prs_ijs (t : T) (n k : Nat) : prs t n k = (ijs n k).map fun q => prD t q.1 q.2 := by
  unfold prs ijs prRow
  rw [List.map_flatMap]
  simp only [List.map_map]
  rfl
theorem ijs_lt {n k : Nat} {q : Nat × Nat} (h : q ∈ ijs n k) : q.1 < k ∧ q.1 < q.2 ∧ q.2 < n := by
  unfold ijs at h
  obtain ⟨i, hi, h⟩ := List.mem_flatMap.mp h
  obtain ⟨j, hj, rfl⟩ := List.mem_map.mp h
  have := List.mem_range.mp hi
  have := List.mem_range.mp hj
  simp only
  omega
theorem ijs_len (n k : Nat) : (ijs n k).length ≤ k * n := by
  have := prs_len [] n k
  rw [prs_ijs, List.length_map] at this
  exact this
/-- all pairs of a tree's places -/
def allP (t : T) : List (Nat × Nat) := ijs (t.length + 1) (t.length + 1)
theorem allP_len (h : TOk t) : (allP t).length ≤ 3600 := by
  have h1 := ijs_len (t.length + 1) (t.length + 1)
  have h2 := h.few
  have h3 : (t.length + 1) * (t.length + 1) ≤ 60 * 60 := Nat.mul_le_mul (by omega) (by omega)
  unfold allP
  omega
theorem allP_lt {q : Nat × Nat} (h : q ∈ allP t) : q.1 < q.2 ∧ q.2 ≤ t.length := by
  have := ijs_lt h
  omega
theorem far_nn (h : TOk t) : ∀ (n a b : Nat), a + b ≤ n → a ≤ t.length → b ≤ t.length → 0 ≤ far t a b
  | n, a, b, hn, ha, hb => by
    by_cases e : a = b
    · subst e; rw [far_self]; exact Int.le_refl _
    · cases n with
      | zero => omega
      | succ n =>
        by_cases g : b < a
        · have u := h.up_lt (p := a) (by omega) ha
          have l := h.ln_nn (p := a) (by omega) ha
          have := far_nn h n (up t a) b (by omega) (by omega) hb
          rw [far_gt h ha g]
          omega
        · have u := h.up_lt (p := b) (by omega) hb
          have l := h.ln_nn (p := b) (by omega) hb
          have := far_nn h n a (up t b) (by omega) ha (by omega)
          rw [far_lt h hb (by omega)]
          omega
theorem far_nn' (h : TOk t) {a b : Nat} (ha : a ≤ t.length) (hb : b ≤ t.length) : 0 ≤ far t a b := far_nn h _ a b (Nat.le_refl _) ha hb
def atP (t : T) (x : Int) : List (Nat × Nat) := (allP t).filter fun q => decide (far t q.1 q.2 = x)
def fromP (t : T) (a b : Int) : List (Nat × Nat) := (allP t).filter fun q => (decide (a ≤ far t q.1 q.2) && decide (far t q.1 q.2 ≤ b))
end
theorem prs_all (t : T) : prs t (t.length + 1) (t.length + 1) = (allP t).map fun q => .tup [.int (far t q.1 q.2), .tup [.int (q.1 : Nat), .int (q.2 : Nat)]] := prs_ijs t _ _
def preNeedDist : List D → Sk → Prop := fun ds r => ∃ i : Int, 0 ≤ i ∧ ds = [.int i] ∧ r = .im .non
def preNeedBounds : List D → Sk → Prop := fun ds r => ∃ a b : Int, 0 ≤ a ∧ a ≤ b ∧ ds = [.int a, .int b] ∧ r = .im .non
def prePairsAt : List D → Sk → Prop := fun ds r => ∃ (t : T) (x : Int), TOk t ∧ 0 ≤ x ∧ ds = [treeD t, .int x] ∧ r = .ow none (rLst ((atP t x).map pairD))
def preManyAt : List D → Sk → Prop := fun ds r => ∃ (t : T) (x : Int), TOk t ∧ 0 ≤ x ∧ ds = [treeD t, .int x] ∧ r = .im (.int ((atP t x).length : Nat))
def preManyFrom : List D → Sk → Prop := fun ds r => ∃ (t : T) (a b : Int), TOk t ∧ 0 ≤ a ∧ a ≤ b ∧ ds = [treeD t, .int a, .int b] ∧ r = .im (.int ((fromP t a b).length : Nat))
end DL
namespace DL
open PySem PySem.Spec PyProof.Rows L2
/-! M9: what k07 asks -/
theorem gd_pairs (l : List (Nat × Nat)) : (D.lst (l.map pairD)).good = true := (Gd.lstM (n := 1) fun _ _ => Gd.pair _ _).good (by decide)
def preArePairs : List D → Sk → Prop := fun ds r => ∃ l : List (Nat × Nat), l.length ≤ 50000 ∧ ds = [.lst (l.map pairD), .lst (l.map pairD)] ∧ r = .im (.bl true)
def prFar (t : T) (q : Nat × Nat) : D := .tup [.int (far t q.1 q.2), .tup [.int (q.1 : Nat), .int (q.2 : Nat)]]
def preRight : List D → Sk → Prop := fun ds r => ∃ (t : T) (x : Int), TOk t ∧ 0 ≤ x ∧ ds = [treeD t, .lst ((allP t).map (prFar t)), .int x] ∧ r = .im (.bl true)
def preBeside : List D → Sk → Prop := fun ds r => ∃ x : Int, ds = [.int x] ∧ r = .ow none (rLst [.int x, .int (x + 1), .int (max 0 (x - 1))])
theorem atP_len {t : T} (h : TOk t) (x : Int) : (atP t x).length ≤ 3600 := Nat.le_trans (List.length_filter_le _ _) (allP_len h)
def docT7 : T := [(0, 2), (0, 2), (0, 0)]
theorem ok_doc7 : TOk docT7 := by
  refine ⟨by decide, fun i q h => ?_, fun i q h => ?_⟩ <;>
  · match i, h with
    | 0, h => cases h; decide
    | 1, h => cases h; decide
    | 2, h => cases h; decide
theorem ijs_succ (n k : Nat) : ijs n (k + 1) = ijs n k ++ (List.range (n - (k + 1))).map fun j => (k, k + 1 + j) := by
  unfold ijs
  rw [List.range_succ, List.flatMap_append]
  simp
theorem fars_step (t : T) (n k : Nat) : (ijs n k).map (prFar t) ++ ((List.range (n - (k + 1))).filter fun _ => true).map (fun j => prFar t (k, k + 1 + j)) = (ijs n (k + 1)).map (prFar t) := by
  rw [List.filter_eq_self.mpr (fun _ _ => rfl), ijs_succ, List.map_append, List.map_map]
  rfl
theorem fars_ext {t : T} (h : TOk t) {k : Nat} (hk : k < t.length + 1) : ((ijs (t.length + 1) k).map (prFar t)).length + (((List.range (t.length + 1 - (k + 1))).filter fun _ => true).map fun j => prFar t (k, k + 1 + j)).length ≤ 100000 := by
  rw [List.filter_eq_self.mpr (fun _ _ => rfl)]
  have h1 := ijs_len (t.length + 1) k
  have h2 := h.few
  have h3 : k * (t.length + 1) ≤ 60 * 60 := Nat.mul_le_mul (by omega) (by omega)
  rw [List.length_map, List.length_map, List.length_range]
  omega
theorem rng_fromN (i n : Nat) (x : Int) (hx : x = (n : Nat)) : rngD ((i : Nat) + 1) (x - ((i : Nat) + 1)).toNat = (List.range (n - (i + 1))).map fun j => D.int ((i + 1 + j : Nat) : Int) := by
  subst hx
  exact rng_from i n
theorem fars_nn {t : T} (h : TOk t) {q : Nat × Nat} (hq : q ∈ allP t) : 0 ≤ far t q.1 q.2 := by
  have := allP_lt hq
  exact far_nn' h (by omega) (by omega)
theorem one_at {t : T} (h : TOk t) (p : Pool) : ∃ x y, L2.atI ((allP t).map (prFar t) ++ [D.tup [.int 0, .non]]) (take p ((((allP t).map (prFar t)).length : Nat) + 1)).1 = some (.tup [.int x, y]) ∧ 0 ≤ x := by
  obtain ⟨h0, h1⟩ := take_mod p (many := (((allP t).map (prFar t)).length : Nat) + 1) (by omega)
  generalize (take p ((((allP t).map (prFar t)).length : Nat) + 1)).1 = v at h0 h1
  obtain ⟨n, rfl⟩ := Int.eq_ofNat_of_zero_le h0
  by_cases e : n < ((allP t).map (prFar t)).length
  · obtain ⟨q, hq⟩ : ∃ q, (allP t)[n]? = some q := ⟨_, List.getElem?_eq_getElem (by simpa using e)⟩
    refine ⟨far t q.1 q.2, .tup [.int (q.1 : Nat), .int (q.2 : Nat)], ?_, fars_nn h (List.mem_of_getElem? hq)⟩
    refine atI_nat ?_
    rw [List.getElem?_append_left e, List.getElem?_map, hq]
    rfl
  · have : n = ((allP t).map (prFar t)).length := by omega
    subst this
    refine ⟨0, .non, atI_nat ?_, Int.le_refl _⟩
    rw [List.getElem?_append_right (Nat.le_refl _), Nat.sub_self]
    rfl
def onlyF (t : T) : List Int := (allP t).map (fun q => far t q.1 q.2) ++ [0]
theorem only_eq (t : T) : ((allP t).filter fun _ => true).map (fun q => D.int (far t q.1 q.2)) ++ [D.int 0] = (onlyF t).map D.int := by
  rw [List.filter_eq_self.mpr (fun _ _ => rfl)]
  unfold onlyF
  rw [List.map_append, List.map_map]
  rfl
theorem onlyF_nn {t : T} (h : TOk t) {z : Int} (hz : z ∈ onlyF t) : 0 ≤ z := by
  unfold onlyF at hz
  rcases List.mem_append.mp hz with m | m
  · obtain ⟨q, hq, rfl⟩ := List.mem_map.mp m
    exact fars_nn h hq
  · simp at m; omega
theorem lo_of : ∀ (l : List Int), 0 < l.length → ∃ m ∈ l, ∀ y ∈ l, m ≤ y
  | [a], _ => ⟨a, List.mem_cons_self, fun y hy => by simp at hy; omega⟩
  | a :: b :: r, _ => by
    obtain ⟨m, hm, h⟩ := lo_of (b :: r) (Nat.succ_pos _)
    by_cases e : a ≤ m
    · refine ⟨a, List.mem_cons_self, fun y hy => ?_⟩
      rcases List.mem_cons.mp hy with rfl | hy
      · exact Int.le_refl _
      · exact Int.le_trans e (h y hy)
    · refine ⟨m, List.mem_cons_of_mem _ hm, fun y hy => ?_⟩
      rcases List.mem_cons.mp hy with rfl | hy
      · omega
      · exact h y hy
theorem hi_of : ∀ (l : List Int), 0 < l.length → ∃ m ∈ l, ∀ y ∈ l, y ≤ m
  | [a], _ => ⟨a, List.mem_cons_self, fun y hy => by simp at hy; omega⟩
  | a :: b :: r, _ => by
    obtain ⟨m, hm, h⟩ := hi_of (b :: r) (Nat.succ_pos _)
    by_cases e : m ≤ a
    · refine ⟨a, List.mem_cons_self, fun y hy => ?_⟩
      rcases List.mem_cons.mp hy with rfl | hy
      · exact Int.le_refl _
      · exact Int.le_trans (h y hy) e
    · refine ⟨m, List.mem_cons_of_mem _ hm, fun y hy => ?_⟩
      rcases List.mem_cons.mp hy with rfl | hy
      · omega
      · exact h y hy
theorem ends_of (l : List Int) (h : 0 < l.length) (P : Int → Prop) (hP : ∀ z ∈ l, P z) : ∃ lo hi, (∀ z, z ∈ l → (∀ y ∈ l, z ≤ y) → z = lo) ∧ (∀ z, z ∈ l → (∀ y ∈ l, y ≤ z) → z = hi) ∧ P lo ∧ P hi := by
  obtain ⟨a, ha, h1⟩ := lo_of l h
  obtain ⟨b, hb, h2⟩ := hi_of l h
  refine ⟨a, b, fun z hz q => ?_, fun z hz q => ?_, hP a ha, hP b hb⟩
  · have := q a ha
    have := h1 z hz
    omega
  · have := q b hb
    have := h2 z hz
    omega
theorem only_ends {t : T} (h : TOk t) : ∃ lo hi, (∀ z, z ∈ onlyF t → (∀ y ∈ onlyF t, z ≤ y) → z = lo) ∧ (∀ z, z ∈ onlyF t → (∀ y ∈ onlyF t, y ≤ z) → z = hi) ∧ 0 ≤ lo ∧ 0 ≤ hi :=
  ends_of _ (by unfold onlyF; simp) _ (fun _ hz => onlyF_nn h hz)
theorem onlyF_pos (t : T) : 0 < (onlyF t).length := by unfold onlyF; simp
theorem ints_get {l : List Int} (h : ∀ z ∈ l, 0 ≤ z) {k : Nat} {d : D} (e : (l.map D.int)[k]? = some d) : ∃ x, 0 ≤ x ∧ d = .int x := by
  rw [List.getElem?_map] at e
  obtain ⟨x, hx, rfl⟩ := Option.map_eq_some_iff.mp e
  exact ⟨x, h x (List.mem_of_getElem? hx), rfl⟩
theorem rng_from_rows (t : T) (n m i : Nat) : rngD ((i : Nat) + 1) (((rowsD t n m).length : Int) - ((i : Nat) + 1)).toNat = (List.range (n - (i + 1))).map fun j => D.int ((i + 1 + j : Nat) : Int) := by
  rw [rowsD_length]
  exact rng_from i n
theorem only_len {t : T} (h : TOk t) : (((allP t).filter fun _ => true).map (fun q => D.int (far t q.1 q.2))).length + [D.int 0].length ≤ 100000 := by
  rw [List.filter_eq_self.mpr (fun _ _ => rfl), List.length_map]
  have := allP_len h
  show _ + 1 ≤ _
  omega
end DL
namespace DL
open PySem PySem.Spec PyProof.Rows L2
/-! M10: the farthest pair -/
def bestD (t : T) : Option (Nat × Nat) → D
  | none => .non
  | some q => prFar t q
def bfar (t : T) : Option (Nat × Nat) → Int
  | none => 0
  | some q => far t q.1 q.2
def better (t : T) (o : Option (Nat × Nat)) (q : Nat × Nat) : Option (Nat × Nat) := if ((bestD t o).isN || decide (bfar t o < far t q.1 q.2)) = true then some q else o
def bestF (t : T) (l : List (Nat × Nat)) : Option (Nat × Nat) := l.foldl (better t) none
section
variable {t : T} {o : Option (Nat × Nat)} {q : Nat × Nat}
theorem bestD_clear : (bestD t o).clear = true := by cases o <;> rfl
theorem bestD_good : (bestD t o).good = true := by cases o <;> rfl
theorem ix_best {X : Cx} (h : (bestD t o).isN = false) : IxD X (bestD t o) (.int 0) (.int (bfar t o)) := by
  cases o with
  | none => cases h
  | some q => exact ix_t (atI_nat (j := 0) rfl)
theorem best_some (h : (bestD t o).isN = false) : ∃ q, o = some q := by
  cases o with
  | none => cases h
  | some q => exact ⟨q, rfl⟩
theorem best_yes (h : ((bestD t o).isN || decide (bfar t o < far t q.1 q.2)) = true) : bestD t (better t o q) = .tup [.int (far t q.1 q.2), .tup [.int (q.1 : Nat), .int (q.2 : Nat)]] := by
  unfold better
  rw [if_pos h]
  rfl
theorem best_no (h : ((bestD t o).isN || decide (bfar t o < far t q.1 q.2)) = false) : bestD t (better t o q) = bestD t o := by
  unfold better
  rw [if_neg (by rw [h]; exact nofun)]
theorem bestF_take {l : List (Nat × Nat)} {k : Nat} (h : l[k]? = some q) : bestF t (l.take (k + 1)) = better t (bestF t (l.take k)) q := by
  unfold bestF
  rw [List.take_add_one, h, List.foldl_append]
  rfl
def rowI (n i k : Nat) : List (Nat × Nat) := ijs n i ++ (List.range k).map fun j => (i, i + 1 + j)
theorem rowI_zero (n i : Nat) : rowI n i 0 = ijs n i := by unfold rowI; simp
theorem rowI_step (n i k : Nat) : bestF t (rowI n i (k + 1)) = better t (bestF t (rowI n i k)) (i, i + 1 + k) := by
  unfold bestF rowI
  rw [List.range_succ, List.map_append, ← List.append_assoc, List.foldl_append]
  rfl
theorem rowI_end (n i : Nat) : rowI n i (n - (i + 1)) = ijs n (i + 1) := (ijs_succ n i).symm
theorem fromN_get {i m k : Nat} {d : D} (h : ((List.range m).map fun j => D.int ((i + 1 + j : Nat) : Int))[k]? = some d) : k < m ∧ d = .int ((i + 1 + k : Nat) : Int) := by
  have lt : k < m := by
    have := (List.getElem?_eq_some_iff.mp h).1
    rwa [List.length_map, List.length_range] at this
  rw [List.getElem?_map, List.getElem?_range lt] at h
  exact ⟨lt, (Option.some.inj h).symm⟩
theorem prF_get {l : List (Nat × Nat)} {k : Nat} {d : D} (h : (l.map fun q => D.tup [.int (far t q.1 q.2), .tup [.int (q.1 : Nat), .int (q.2 : Nat)]])[k]? = some d) : ∃ q, l[k]? = some q ∧ d = .tup [.int (far t q.1 q.2), .tup [.int (q.1 : Nat), .int (q.2 : Nat)]] := by
  rw [List.getElem?_map] at h
  obtain ⟨q, hq, rfl⟩ := Option.map_eq_some_iff.mp h
  exact ⟨q, hq, rfl⟩
end
def preFarthest : List D → Sk → Prop := fun ds r => ∃ t, TOk t ∧ ds = [treeD t] ∧ r = .im (bestD t (bestF t (allP t)))
def preIsBest : List D → Sk → Prop := fun ds r => ∃ (t : T) (o : Option (Nat × Nat)), ds = [bestD t o, bestD t o] ∧ r = .im (.bl true)
def docT12 : T := [(0, 3), (0, 3), (0, 3)]
theorem ok_doc12 : TOk docT12 := by
  refine ⟨by decide, fun i q h => ?_, fun i q h => ?_⟩ <;>
  · match i, h with
    | 0, h => cases h; decide
    | 1, h => cases h; decide
    | 2, h => cases h; decide
theorem ok_one0 : TOk [(0, 0)] := by
  refine ⟨by decide, fun i q h => ?_, fun i q h => ?_⟩ <;>
  · match i, h with
    | 0, h => cases h; decide
theorem cd_neSame {X : Cx} {d1 d2 : D} (hu : X.A.units + 64 < cLine) (g : d1.good = true) (e : d1 = d2) : CmpD X .NotEq d1 d2 false := by
  subst e
  have := cd_neD hu g g
  rwa [D.eqv_refl d1] at this
end DL
namespace DL
open PySem PySem.Spec PyProof.Rows L2
/-! M11: the lower half of the table, drawn numbers (k08) -/
theorem cutD_take (ds : List D) (k : Nat) : cutD ds none (some (k : Nat)) = ds.take k := by
  unfold cutD
  show (ds.drop 0).take (HT.sIx ds.length ds.length (some (k : Nat)) - 0) = _
  rw [HT.sIx_nat, List.drop_zero, Nat.sub_zero]
  by_cases h : k ≤ ds.length
  · rw [Nat.min_eq_left h]
  · rw [Nat.min_eq_right (by omega), List.take_length, List.take_of_length_le (by omega)]
section
variable {t : T}
theorem rowD_take {i n k : Nat} (h : k ≤ n) : (rowD t i n).take k = rowD t i k := by
  unfold rowD
  rw [← List.map_take, List.take_range, Nat.min_eq_left h]
def lowK (t : T) (k : Nat) : List Int := (List.range k).flatMap fun i => (List.range i).map fun j => far t i j
theorem lowK_succ (k : Nat) : lowK t (k + 1) = lowK t k ++ (List.range k).map fun j => far t k j := by
  unfold lowK
  rw [List.range_succ, List.flatMap_append]
  simp
theorem lowK_step {n k : Nat} (h : k ≤ n) : (lowK t k).map D.int ++ cutD (rowD t k n) none (some (k : Nat)) = (lowK t (k + 1)).map D.int := by
  rw [cutD_take, rowD_take h, lowK_succ, List.map_append, List.map_map]
  rfl
theorem lowK_len (t : T) : ∀ k, (lowK t k).length ≤ k * k
  | 0 => by unfold lowK; simp
  | k + 1 => by
    have := lowK_len t k
    rw [lowK_succ, List.length_append, List.length_map, List.length_range, Nat.succ_mul, Nat.mul_succ]
    omega
theorem lowK_cut {n k : Nat} (hn : n ≤ 60) (h : k < n) : ((lowK t k).map D.int).length + (cutD (rowD t k n) none (some (k : Nat))).length ≤ 100000 := by
  have h1 := lowK_len t k
  have h3 : k * k ≤ 60 * 60 := Nat.mul_le_mul (by omega) (by omega)
  rw [cutD_take, rowD_take (by omega), rowD_length, List.length_map]
  omega
theorem ijs_grow (n : Nat) : ∀ k, k ≤ n → (ijs (n + 1) k).Perm (ijs n k ++ (List.range k).map fun j => (j, n))
  | 0, _ => by unfold ijs; simp
  | k + 1, h => by
    rw [ijs_succ, ijs_succ, show n + 1 - (k + 1) = (n - (k + 1)) + 1 by omega, List.range_succ (n := n - (k + 1)), List.range_succ (n := k), List.map_append, List.map_append]
    refine ((ijs_grow n k (by omega)).append_right _).trans ?_
    rw [List.append_assoc, List.append_assoc]
    refine List.Perm.append_left _ ?_
    have e : [n - (k + 1)].map (fun j => (k, k + 1 + j)) = [(k, n)] := by
      rw [List.map_singleton]
      congr 2
      omega
    rw [e]
    exact List.perm_append_comm_assoc ..
theorem ijs_grow' (n : Nat) : (ijs (n + 1) (n + 1)).Perm (ijs n n ++ (List.range n).map fun j => (j, n)) := by
  rw [ijs_succ, Nat.sub_self]
  simp only [List.range_zero, List.map_nil, List.append_nil]
  exact ijs_grow n n (Nat.le_refl n)
theorem low_perm (h : TOk t) : ∀ n, n ≤ t.length + 1 → (lowK t n).Perm ((ijs n n).map fun q => far t q.1 q.2)
  | 0, _ => by unfold lowK ijs; simp
  | n + 1, hn => by
    rw [lowK_succ]
    refine List.Perm.trans ?_ ((ijs_grow' n).map _).symm
    rw [List.map_append, List.map_map]
    refine List.Perm.append (low_perm h n (by omega)) (List.Perm.of_eq (List.map_congr_left fun j hj => ?_))
    have := List.mem_range.mp hj
    exact far_comm h (by omega) (by omega)
theorem low_all (h : TOk t) : (lowK t (t.length + 1)).Perm ((allP t).map fun q => far t q.1 q.2) := low_perm h _ (Nat.le_refl _)
theorem low_count (h : TOk t) (a b : Int) : ((lowK t (t.length + 1)).filter fun x => (decide (a ≤ x) && decide (x ≤ b))).length = (fromP t a b).length := by
  rw [((low_all h).filter _).length_eq, List.filter_map, List.length_map]
  rfl
theorem low_nn (h : TOk t) {z : Int} (hz : z ∈ lowK t (t.length + 1)) : 0 ≤ z := by
  obtain ⟨q, hq, rfl⟩ := List.mem_map.mp ((low_all h).subset hz)
  exact fars_nn h hq
theorem enum_rowsD {k n i : Nat} {d : D} (h : ((rowsD t k n).mapIdx fun i d => D.tup [.int (i : Nat), d])[i]? = some d) : i < k ∧ d = .tup [.int (i : Nat), .lst (rowD t i n)] := by
  rw [← rowsL_map] at h
  exact enum_rows h
theorem enum_rowsD_len {k n : Nat} : ((rowsD t k n).mapIdx fun i d => D.tup [.int (i : Nat), d]).length = k := by
  rw [List.length_mapIdx, rowsD_length]
end
theorem some_at {l : List Int} (hl : ∀ z ∈ l, 0 ≤ z) (h0 : 0 < l.length) (p : Pool) : ∃ x, L2.atI (l.map D.int) (take p ((l.map D.int).length : Nat)).1 = some (.int x) ∧ 0 ≤ x := by
  obtain ⟨h1, h2⟩ := take_mod p (many := ((l.map D.int).length : Nat)) (by rw [List.length_map]; omega)
  generalize (take p ((l.map D.int).length : Nat)).1 = v at h1 h2
  obtain ⟨n, rfl⟩ := Int.eq_ofNat_of_zero_le h1
  have lt : n < l.length := by rw [List.length_map] at h2; omega
  refine ⟨l[n], atI_nat ?_, hl _ (List.getElem_mem lt)⟩
  rw [List.getElem?_map, List.getElem?_eq_getElem lt]
  rfl
theorem int_at {l : List Int} (hl : ∀ z ∈ l, 0 ≤ z) (p : Pool) : ∃ x, L2.atI (l.map D.int ++ [D.int 0]) (take p (((l.map D.int).length : Nat) + 1)).1 = some (.int x) ∧ 0 ≤ x := by
  obtain ⟨x, hx, h0⟩ := some_at (l := l ++ [0]) (fun z hz => by
    rcases List.mem_append.mp hz with m | m
    · exact hl z m
    · rw [List.mem_singleton.mp m]; exact Int.le_refl _) (by simp) p
  refine ⟨x, ?_, h0⟩
  rw [List.map_append, List.length_append, Int.natCast_add] at hx
  exact hx
/-- the drawn numbers with one more told -/
theorem beside_nn {l : List Int} (hl : ∀ z ∈ l, 0 ≤ z) {x : Int} (hx : 0 ≤ x) : ∀ z ∈ l ++ [x, x + 1, max 0 (x - 1)], 0 ≤ z := fun z hz => by
  rcases List.mem_append.mp hz with m | m
  · exact hl z m
  · simp only [List.mem_cons, List.not_mem_nil, or_false] at m
    omega
theorem max0_of {l : List Int} (hl : ∀ z ∈ l, 0 ≤ z) : ∃ m, (∀ z, z ∈ 0 :: l → (∀ y ∈ 0 :: l, y ≤ z) → z = m) ∧ 0 ≤ m := by
  obtain ⟨lo, hi, _, h2, _, h4⟩ := ends_of (0 :: l) (Nat.succ_pos _) (fun z => 0 ≤ z) fun z hz => by
    rcases List.mem_cons.mp hz with rfl | m
    · exact Int.le_refl _
    · exact hl z m
  exact ⟨hi, h2, h4⟩
theorem low_cnt {t : T} (h : TOk t) (a b : Int) : (((lowK t (t.length + 1)).filter fun x => (decide (a ≤ x) && decide (x ≤ b))).map D.int).length = (fromP t a b).length := by
  rw [List.length_map]
  exact low_count h a b
end DL
namespace DL
open PySem PySem.Spec PyProof.Rows L2
/-! M12: draws in a row, places at a distance (k11) -/
def takesR (m : Int) : Nat → Pool → List Int × Pool
  | 0, p => ([], p)
  | k + 1, p => ((takesR m k p).1 ++ [(take (takesR m k p).2 m).1], (take (takesR m k p).2 m).2)
@[irreducible] def takes (m : Int) (k : Nat) (p : Pool) : List Int × Pool := takesR m k p
theorem takes_zero (m : Int) (p : Pool) : takes m 0 p = ([], p) := by
  unfold takes; rfl
theorem takes_succ (m : Int) (k : Nat) (p : Pool) : takes m (k + 1) p = ((takes m k p).1 ++ [(take (takes m k p).2 m).1], (take (takes m k p).2 m).2) := by
  unfold takes; rfl
theorem takes_snoc (m : Int) (k : Nat) (p : Pool) : (takes m (k + 1) p).1.map D.int = (takes m k p).1.map D.int ++ [.int (take (takes m k p).2 m).1] := by
  rw [takes_succ, List.map_append]
  rfl
theorem takes_in {m : Int} (h : 1 ≤ m) (p : Pool) : ∀ (k : Nat) (z : Int), z ∈ (takes m k p).1 → 0 ≤ z ∧ z < m
  | 0, z, hz => by rw [takes_zero] at hz; cases hz
  | k + 1, z, hz => by
    rw [takes_succ] at hz
    rcases List.mem_append.mp hz with hz | hz
    · exact takes_in h p k z hz
    · rw [List.mem_singleton.mp hz]
      exact take_mod _ h
theorem takes_length (m : Int) (p : Pool) : ∀ k, (takes m k p).1.length = k
  | 0 => by rw [takes_zero]; rfl
  | k + 1 => by
    rw [takes_succ, List.length_append, takes_length m p k]
    rfl
theorem takes_pb {m n : Int} {p : Pool} (h : PB n p) : ∀ k : Nat, PB (n + k) (takes m k p).2
  | 0 => by rw [takes_zero]; exact h.le (by omega)
  | k + 1 => by
    rw [takes_succ]
    exact (take_pb _ (takes_pb h k)).le (by omega)
section
variable {t : T}
/-- places so far from i -/
def placesI (t : T) (i : Nat) (x : Int) : List Int := ((List.range (t.length + 1)).filter fun j => decide (far t i j = x)).map fun j => ((j : Nat) : Int)
theorem places_eq (i : Nat) (x : Int) : ((List.range (t.length + 1)).filter fun j => decide (far t i j = x)).map (fun j => D.int ((j : Nat) : Int)) = (placesI t i x).map D.int := by
  unfold placesI
  rw [List.map_map]
  rfl
theorem places_len (i : Nat) (x : Int) : (placesI t i x).length ≤ t.length + 1 := by
  unfold placesI
  rw [List.length_map]
  exact Nat.le_trans (List.length_filter_le _ _) (by rw [List.length_range]; exact Nat.le_refl _)
def rowI' (t : T) (i : Nat) : List Int := (List.range (t.length + 1)).map fun j => far t i j
theorem rowD_ints (i : Nat) : rowD t i (t.length + 1) = (rowI' t i).map D.int := by
  unfold rowD rowI'
  rw [List.map_map]
  rfl
theorem rowI'_len (i : Nat) : (rowI' t i).length = t.length + 1 := by unfold rowI'; rw [List.length_map, List.length_range]
theorem enum_row (i n : Nat) : ((rowD t i n).mapIdx fun j d => D.tup [.int (j : Nat), d]) = (List.range n).map fun j => D.tup [.int (j : Nat), .int (far t i j)] := by
  apply List.ext_getElem?
  intro j
  rw [List.getElem?_mapIdx]
  unfold rowD
  rw [List.getElem?_map, List.getElem?_map, Option.map_map]
  by_cases h : j < n
  · rw [List.getElem?_range h]; rfl
  · rw [List.getElem?_eq_none (by rw [List.length_range]; omega)]; rfl
theorem rng_rows {n m : Nat} : rngN (rowsD t n m).length = (List.range n).map fun j => D.int ((j : Nat) : Int) := by
  rw [rowsD_length]
  rfl
theorem row_at {i n : Nat} (h : TOk t) (hi : i ≤ t.length) (hn : n = t.length + 1) (p : Pool) {m : Int} (hm : m = (n : Nat)) : ∃ x, L2.atI (rowD t i n) (take p m).1 = some (.int x) ∧ 0 ≤ x := by
  subst hm hn
  obtain ⟨h1, h2⟩ := take_mod p (many := ((t.length + 1 : Nat) : Int)) (by omega)
  generalize (take p ((t.length + 1 : Nat) : Int)).1 = v at h1 h2
  obtain ⟨j, rfl⟩ := Int.eq_ofNat_of_zero_le h1
  have lt : j < t.length + 1 := by omega
  exact ⟨far t i j, at_row lt, far_nn' h hi (by omega)⟩
/-- what is walked: 0, the last place, drawn ones -/
def idxL (t : T) (l : List Int) : List Nat := [0, t.length] ++ l.map Int.toNat
theorem idx_cast {l : List Int} (h : ∀ z ∈ l, 0 ≤ z) : [D.int 0, D.int (((t.map tupD).length : Nat) : Int)] ++ l.map D.int = (idxL t l).map fun n => D.int ((n : Nat) : Int) := by
  unfold idxL
  rw [List.map_append, List.map_map, List.length_map]
  congr 1
  refine List.map_congr_left fun z hz => ?_
  have := h z hz
  show D.int z = D.int _
  congr 1
  omega
theorem idx_le {l : List Int} (h : ∀ z ∈ l, 0 ≤ z ∧ z < (t.length : Int) + 1) {n : Nat} (hn : n ∈ idxL t l) : n ≤ t.length := by
  unfold idxL at hn
  rcases List.mem_append.mp hn with m | m
  · simp only [List.mem_cons, List.not_mem_nil, or_false] at m
    omega
  · obtain ⟨z, hz, rfl⟩ := List.mem_map.mp m
    have := h z hz
    omega
end
theorem nats_get {l : List Nat} {k : Nat} {d : D} (e : (l.map fun n => D.int ((n : Nat) : Int))[k]? = some d) : ∃ n, n ∈ l ∧ d = .int (n : Nat) := by
  rw [List.getElem?_map] at e
  obtain ⟨x, hx, rfl⟩ := Option.map_eq_some_iff.mp e
  exact ⟨x, List.mem_of_getElem? hx, rfl⟩
theorem gd_ints (l : List Int) : (D.lst (l.map D.int)).good = true := (Gd.lstM (n := 0) fun _ _ => .int _).good (by decide)
def preFrom : List D → Sk → Prop := fun ds r => ∃ (t : T) (i : Nat), TOk t ∧ i ≤ t.length ∧ ds = [treeD t, .int i] ∧ r = .ow none (rLst (rowD t i (t.length + 1)))
def prePlacesAt : List D → Sk → Prop := fun ds r => ∃ (t : T) (i : Nat) (x : Int), TOk t ∧ i ≤ t.length ∧ 0 ≤ x ∧ ds = [treeD t, .int i, .int x] ∧ r = .ow none (rLst ((placesI t i x).map D.int))
def preAreInts : List D → Sk → Prop := fun ds r => ∃ l : List Int, l.length ≤ 50000 ∧ ds = [.lst (l.map D.int), .lst (l.map D.int)] ∧ r = .im (.bl true)
theorem at_rowsLL {t : T} {k n i : Nat} (h : i < k) : L2.atI (rowsL t k n) (i : Nat) = some (rowD t i n) := by
  have e := atI_nat (rowsL_get (t := t) (n := n) h)
  exact e
theorem ok_doc11 : TOk [(0, 2), (0, 0)] := by
  refine ⟨by decide, fun i q h => ?_, fun i q h => ?_⟩ <;>
  · match i, h with
    | 0, h => cases h; decide
    | 1, h => cases h; decide
theorem ixN_zero {n : Nat} (h : 0 < n) : ixN n 0 = some 0 := by
  unfold ixN
  simp
  omega
end DL
namespace DL
open PySem PySem.Spec PyProof.Rows L2
/-! M13: least ones and their places (k13) -/
def loI : List Int → Int
  | [] => 0
  | [a] => a
  | a :: b :: r => min a (loI (b :: r))
def hiI : List Int → Int
  | [] => 0
  | [a] => a
  | a :: b :: r => max a (hiI (b :: r))
theorem loI_mem : ∀ {l : List Int}, 0 < l.length → loI l ∈ l ∧ ∀ y ∈ l, loI l ≤ y
  | [a], _ => ⟨List.mem_cons_self .., fun y hy => by simp at hy; unfold loI; omega⟩
  | a :: b :: r, _ => by
    obtain ⟨h1, h2⟩ := loI_mem (l := b :: r) (Nat.succ_pos _)
    have e : loI (a :: b :: r) = min a (loI (b :: r)) := rfl
    rw [e]
    refine ⟨?_, fun y hy => ?_⟩
    · by_cases g : a ≤ loI (b :: r)
      · rw [Int.min_eq_left g]; exact List.mem_cons_self ..
      · rw [Int.min_eq_right (by omega)]; exact List.mem_cons_of_mem _ h1
    · rcases List.mem_cons.mp hy with rfl | hy
      · omega
      · have := h2 y hy; omega
theorem hiI_mem : ∀ {l : List Int}, 0 < l.length → hiI l ∈ l ∧ ∀ y ∈ l, y ≤ hiI l
  | [a], _ => ⟨List.mem_cons_self .., fun y hy => by simp at hy; unfold hiI; omega⟩
  | a :: b :: r, _ => by
    obtain ⟨h1, h2⟩ := hiI_mem (l := b :: r) (Nat.succ_pos _)
    have e : hiI (a :: b :: r) = max a (hiI (b :: r)) := rfl
    rw [e]
    refine ⟨?_, fun y hy => ?_⟩
    · by_cases g : a ≤ hiI (b :: r)
      · rw [Int.max_eq_right g]; exact List.mem_cons_of_mem _ h1
      · rw [Int.max_eq_left (by omega)]; exact List.mem_cons_self ..
    · rcases List.mem_cons.mp hy with rfl | hy
      · omega
      · have := h2 y hy; omega
theorem loI_of {l : List Int} (h : 0 < l.length) {z : Int} (hz : z ∈ l) (hy : ∀ y ∈ l, z ≤ y) : z = loI l := by
  obtain ⟨h1, h2⟩ := loI_mem h
  have := hy _ h1
  have := h2 z hz
  omega
theorem hiI_of {l : List Int} (h : 0 < l.length) {z : Int} (hz : z ∈ l) (hy : ∀ y ∈ l, y ≤ z) : z = hiI l := by
  obtain ⟨h1, h2⟩ := hiI_mem h
  have := hy _ h1
  have := h2 z hz
  omega
theorem ca_lo {X : Cx} {l : List Int} (hc : X.calm = true) (h : 0 < l.length) : CalD X (.builtin "min") [.lst (l.map .int)] (.int (loI l)) := ca_minL hc h fun _ hz hy => loI_of h hz hy
theorem ca_hi {X : Cx} {l : List Int} (hc : X.calm = true) (h : 0 < l.length) : CalD X (.builtin "max") [.lst (l.map .int)] (.int (hiI l)) := ca_maxL hc h fun _ hz hy => hiI_of h hz hy
def leastAt (l : List Int) : List Int := ((List.range l.length).filter fun j => decide (l.getD j 0 = loI l)).map fun j => ((j : Nat) : Int)
theorem least_eq (l : List Int) : ((List.range l.length).filter fun j => decide (l.getD j 0 = loI l)).map (fun j => D.int ((j : Nat) : Int)) = (leastAt l).map D.int := by
  unfold leastAt
  rw [List.map_map]
  rfl
theorem leastAt_len (l : List Int) : (leastAt l).length ≤ l.length := by
  unfold leastAt
  rw [List.length_map]
  exact Nat.le_trans (List.length_filter_le _ _) (by rw [List.length_range]; exact Nat.le_refl _)
theorem enum_ints (l : List Int) : ((l.map D.int).mapIdx fun j d => D.tup [.int (j : Nat), d]) = (List.range l.length).map fun j => D.tup [.int (j : Nat), .int (l.getD j 0)] := by
  apply List.ext_getElem?
  intro j
  rw [List.getElem?_mapIdx, List.getElem?_map, List.getElem?_map, Option.map_map]
  by_cases h : j < l.length
  · rw [List.getElem?_range h, List.getElem?_eq_getElem h]
    show some (D.tup [.int (j : Nat), .int l[j]]) = some (D.tup [.int (j : Nat), .int (l.getD j 0)])
    rw [List.getD_eq_getElem?_getD, List.getElem?_eq_getElem h]
    rfl
  · rw [List.getElem?_eq_none (l := l) (by omega), List.getElem?_eq_none (l := List.range l.length) (by rw [List.length_range]; omega)]; rfl
theorem rng_ints (l : List Int) : rngN (l.map D.int).length = (List.range l.length).map fun j => D.int ((j : Nat) : Int) := by
  rw [List.length_map]
  rfl
theorem at_intsD {l : List Int} {j : Nat} (h : j < l.length) : L2.atI (l.map D.int) (j : Nat) = some (.int (l.getD j 0)) := by
  refine atI_nat ?_
  rw [List.getElem?_map, List.getElem?_eq_getElem h, List.getD_eq_getElem?_getD, List.getElem?_eq_getElem h]
  rfl
section
variable {t : T}
def maxes (t : T) : List Int := (List.range (t.length + 1)).map fun i => hiI (rowI' t i)
def sums (t : T) : List Int := (List.range (t.length + 1)).map fun i => (rowI' t i).sum
theorem maxes_len (t : T) : (maxes t).length = t.length + 1 := by unfold maxes; rw [List.length_map, List.length_range]
theorem sums_len (t : T) : (sums t).length = t.length + 1 := by unfold sums; rw [List.length_map, List.length_range]
theorem maxes_eq (t : T) : ((List.range (t.length + 1)).filter fun _ => true).map (fun i => D.int (hiI (rowI' t i))) = (maxes t).map D.int := by
  rw [List.filter_eq_self.mpr (fun _ _ => rfl)]
  unfold maxes
  rw [List.map_map]
  rfl
theorem sums_eq (t : T) : ((List.range (t.length + 1)).filter fun _ => true).map (fun i => D.int (rowI' t i).sum) = (sums t).map D.int := by
  rw [List.filter_eq_self.mpr (fun _ _ => rfl)]
  unfold sums
  rw [List.map_map]
  rfl
theorem rowsL_cast (t : T) (k n : Nat) : (rowsL t k n).map D.lst = (List.range k).map fun i => D.lst (rowD t i n) := rowsL_map t k n
theorem ca_maxR {X : Cx} (hc : X.calm = true) (i : Nat) : CalD X (.builtin "max") [.lst (rowD t i (t.length + 1))] (.int (hiI (rowI' t i))) := by
  rw [rowD_ints]
  exact ca_hi hc (by rw [rowI'_len]; exact Nat.succ_pos _)
theorem ca_sumR {X : Cx} (hc : X.calm = true) (i : Nat) : CalD X (.builtin "sum") [.lst (rowD t i (t.length + 1))] (.int (rowI' t i).sum) := by
  rw [rowD_ints]
  exact ca_sum hc
end
def preLeast : List D → Sk → Prop := fun ds r => ∃ l : List Int, 0 < l.length ∧ l.length ≤ 60 ∧ ds = [.lst (l.map D.int)] ∧ r = .ow none (rTL (.int (loI l)) ((leastAt l).map D.int))
def preMids : List D → Sk → Prop := fun ds r => ∃ t : T, TOk t ∧ ds = [treeD t] ∧ r = .ow none (rTL (.int (loI (maxes t))) ((leastAt (maxes t)).map D.int))
def preSumMids : List D → Sk → Prop := fun ds r => ∃ t : T, TOk t ∧ ds = [treeD t] ∧ r = .ow none (rTL (.int (loI (sums t))) ((leastAt (sums t)).map D.int))
def preIsLeast : List D → Sk → Prop := fun ds r => ∃ l : List Int, 0 < l.length ∧ l.length ≤ 60 ∧ ds = [.tup [.int (loI l), .lst ((leastAt l).map D.int)], .lst (l.map D.int)] ∧ r = .im (.bl true)
def docT13 : T := [(0, 1), (1, 1), (1, 1)]
theorem ok_doc13 : TOk docT13 := by
  refine ⟨by decide, fun i q h => ?_, fun i q h => ?_⟩ <;>
  · match i, h with
    | 0, h => cases h; decide
    | 1, h => cases h; decide
    | 2, h => cases h; decide
end DL
namespace DL
open PySem PySem.Spec PyProof.Rows L2
/-! M14: dicts of counts (k06) -/
def Zd (l : List (Int × Int)) : List (Key × D) := l.map fun q => (.inl q.1, .int q.2)
def getZ (l : List (Int × Int)) (x : Int) : Option Int := (l.find? fun q => decide (q.1 = x)).map (·.2)
def putZ (l : List (Int × Int)) (x n : Int) : List (Int × Int) := if (l.any fun q => decide (q.1 = x)) = true then l.map (fun q => if q.1 = x then (q.1, n) else q) else l ++ [(x, n)]
theorem valD_Zd (l : List (Int × Int)) (x : Int) : valD (Zd l) (.inl x) = (getZ l x).map D.int := by
  unfold valD Zd getZ
  rw [List.find?_map, Option.map_map, Option.map_map]
  congr 1
  congr 1
  funext q
  show decide ((Sum.inl q.1 : Key) = Sum.inl x) = decide (q.1 = x)
  by_cases h : q.1 = x
  · rw [h]; simp
  · rw [decide_eq_false h, decide_eq_false (fun z => h (Sum.inl.inj z))]
theorem any_Zd (l : List (Int × Int)) (x : Int) : ((Zd l).any fun q => decide (q.1 = (Sum.inl x : Key))) = l.any fun q => decide (q.1 = x) := by
  unfold Zd
  rw [List.any_map]
  congr 1
  funext q
  show decide ((Sum.inl q.1 : Key) = Sum.inl x) = decide (q.1 = x)
  by_cases h : q.1 = x
  · rw [h]; simp
  · rw [decide_eq_false h, decide_eq_false (fun z => h (Sum.inl.inj z))]
theorem put_Zd (l : List (Int × Int)) (x n : Int) : putD (Zd l) (.inl x) (.int n) = Zd (putZ l x n) := by
  unfold putD putZ
  rw [any_Zd]
  split
  · unfold Zd
    rw [List.map_map, List.map_map]
    refine List.map_congr_left fun q _ => ?_
    show (if (Sum.inl q.1 : Key) = Sum.inl x then ((Sum.inl q.1 : Key), D.int n) else (Sum.inl q.1, D.int q.2)) = (Sum.inl (if q.1 = x then (q.1, n) else q).1, D.int (if q.1 = x then (q.1, n) else q).2)
    by_cases h : q.1 = x
    · rw [if_pos (by rw [h]), if_pos h]
    · rw [if_neg (fun z => h (Sum.inl.inj z)), if_neg h]
  · unfold Zd
    rw [List.map_append]
    rfl
def addZ (l : List (Int × Int)) (x : Int) : List (Int × Int) := putZ l x ((getZ l x).getD 0 + 1)
def cnt (l : List Int) : List (Int × Int) := l.foldl addZ []
theorem cnt_take {l : List Int} {k : Nat} {x : Int} (h : l[k]? = some x) : cnt (l.take (k + 1)) = addZ (cnt (l.take k)) x := by
  unfold cnt
  rw [List.take_add_one, h, List.foldl_append]
  rfl
theorem cnt_snoc (l : List Int) (x : Int) : cnt (l ++ [x]) = addZ (cnt l) x := by
  unfold cnt
  rw [List.foldl_append]
  rfl
theorem putZ_len (l : List (Int × Int)) (x n : Int) : (putZ l x n).length ≤ l.length + 1 := by
  unfold putZ
  split
  · rw [List.length_map]; omega
  · rw [List.length_append]; exact Nat.le_refl _
theorem foldZ_len : ∀ (l : List Int) (m : List (Int × Int)), (l.foldl addZ m).length ≤ m.length + l.length
  | [], m => Nat.le_refl _
  | x :: r, m => by
    have h1 := foldZ_len r (addZ m x)
    have h2 := putZ_len m x ((getZ m x).getD 0 + 1)
    show (r.foldl addZ (addZ m x)).length ≤ _
    rw [List.length_cons]
    unfold addZ at h1 ⊢
    omega
theorem cnt_len (l : List Int) : (cnt l).length ≤ l.length := by
  have := foldZ_len l []
  simpa [cnt] using this
theorem find_none {l : List (Int × Int)} {x : Int} (h : ¬ (l.any fun q => decide (q.1 = x)) = true) : getZ l x = none := by
  unfold getZ
  rw [List.find?_eq_none.mpr]
  · rfl
  · intro q hq z
    exact h (List.any_eq_true.mpr ⟨q, hq, z⟩)
theorem getZ_put (l : List (Int × Int)) (x n y : Int) : getZ (putZ l x n) y = if y = x then some n else getZ l y := by
  unfold putZ
  split
  · rename_i h
    unfold getZ
    rw [List.find?_map]
    have e : ((fun q : Int × Int => decide (q.1 = y)) ∘ fun q => if q.1 = x then (q.1, n) else q) = fun q => decide (q.1 = y) := by
      funext q
      show decide ((if q.1 = x then (q.1, n) else q).1 = y) = decide (q.1 = y)
      split <;> rfl
    rw [e]
    by_cases hy : y = x
    · rw [if_pos hy]
      subst hy
      obtain ⟨q, hq, hz⟩ := List.any_eq_true.mp h
      cases hf : l.find? fun q => decide (q.1 = y) with
      | none => exact absurd hz (List.find?_eq_none.mp hf q hq)
      | some r =>
        have := List.find?_some hf
        have e2 : r.1 = y := by simpa using this
        show some (if r.1 = y then (r.1, n) else r).2 = some n
        rw [if_pos e2]
    · rw [if_neg hy]
      cases hf : l.find? fun q => decide (q.1 = y) with
      | none => rfl
      | some r =>
        have := List.find?_some hf
        have e2 : r.1 = y := by simpa using this
        show some (if r.1 = x then (r.1, n) else r).2 = some r.2
        rw [if_neg (by rw [e2]; exact hy)]
  · rename_i h
    have h0 := find_none h
    unfold getZ at h0 ⊢
    rw [List.find?_append]
    by_cases hy : y = x
    · rw [if_pos hy]
      subst hy
      rw [Option.map_eq_none_iff.mp h0]
      simp
    · rw [if_neg hy]
      cases hf : l.find? fun q => decide (q.1 = y) with
      | none =>
        rw [Option.none_or, List.find?_cons_of_neg (by simpa using fun z => hy z.symm)]
        rfl
      | some r => rfl
theorem keys_put {l : List (Int × Int)} (h : (l.map (·.1)).Nodup) (x n : Int) : ((putZ l x n).map (·.1)).Nodup := by
  unfold putZ
  split
  · rw [List.map_map]
    have e : (Prod.fst ∘ fun q : Int × Int => if q.1 = x then (q.1, n) else q) = Prod.fst := by
      funext q
      show (if q.1 = x then (q.1, n) else q).1 = q.1
      split <;> rfl
    rw [e]
    exact h
  · rename_i hx
    rw [List.map_append]
    refine List.nodup_append.mpr ⟨h, List.nodup_cons.mpr ⟨List.not_mem_nil, List.nodup_nil⟩, fun a ha b hb e => ?_⟩
    rw [show ([(x, n)].map (·.1)) = [x] from rfl] at hb
    rw [List.mem_singleton.mp hb] at e
    obtain ⟨q, hq, rfl⟩ := List.mem_map.mp ha
    exact hx (List.any_eq_true.mpr ⟨q, hq, decide_eq_true e⟩)
/-- what a dict of counts holds -/
structure Cz (m : List (Int × Int)) (l : List Int) : Prop where
  nd : (m.map (·.1)).Nodup
  at_ : ∀ x, getZ m x = if l.count x = 0 then none else some (l.count x : Int)
theorem Cz.add {m : List (Int × Int)} {l : List Int} (h : Cz m l) (x : Int) : Cz (addZ m x) (l ++ [x]) := by
  refine ⟨keys_put h.nd _ _, fun y => ?_⟩
  unfold addZ
  rw [getZ_put, h.at_ x, h.at_ y, List.count_append]
  by_cases hy : y = x
  · subst hy
    rw [if_pos rfl, List.count_singleton_self]
    by_cases hc : l.count y = 0
    · rw [if_pos hc, if_neg (by omega), hc]; rfl
    · rw [if_neg hc, if_neg (by omega)]
      show some ((l.count y : Int) + 1) = _
      congr 1
  · rw [if_neg hy, List.count_singleton]
    rw [show (x == y) = false from beq_false_of_ne fun z => hy z.symm]
    rfl
theorem Cz.fold : ∀ (r : List Int) {m : List (Int × Int)} {l : List Int}, Cz m l → Cz (r.foldl addZ m) (l ++ r)
  | [], m, l, h => by rw [List.append_nil]; exact h
  | x :: r, m, l, h => by
    have := Cz.fold r (h.add x)
    rw [List.append_assoc] at this
    exact this
theorem cnt_cz (l : List Int) : Cz (cnt l) l := by
  have := Cz.fold l (m := []) (l := []) ⟨List.nodup_nil, fun x => rfl⟩
  rwa [List.nil_append] at this
theorem getZ_mem {m : List (Int × Int)} (h : (m.map (·.1)).Nodup) {q : Int × Int} (hq : q ∈ m) : getZ m q.1 = some q.2 := by
  induction m with
  | nil => cases hq
  | cons p r ih =>
    have hn := List.nodup_cons.mp h
    unfold getZ
    rcases List.mem_cons.mp hq with rfl | hq
    · rw [List.find?_cons_of_pos (by simp)]; rfl
    · rw [List.find?_cons_of_neg]
      · exact ih hn.2 hq
      · intro z
        have e : p.1 = q.1 := by simpa using z
        exact hn.1 (List.mem_map.mpr ⟨q, hq, e.symm⟩)
theorem getZ_key {m : List (Int × Int)} {x : Int} : x ∈ m.map (·.1) ↔ getZ m x ≠ none := by
  unfold getZ
  constructor
  · intro h z
    obtain ⟨q, hq, e⟩ := List.mem_map.mp h
    have := List.find?_eq_none.mp (Option.map_eq_none_iff.mp z) q hq
    exact this (decide_eq_true e)
  · intro h
    cases hf : m.find? fun q => decide (q.1 = x) with
    | none => rw [hf] at h; exact absurd rfl h
    | some q =>
      have := List.find?_some hf
      exact List.mem_map.mpr ⟨q, List.mem_of_find?_eq_some hf, by simpa using this⟩
def SameZ (m n : List (Int × Int)) : Prop := m.length = n.length ∧ ∀ q ∈ m, getZ n q.1 = some q.2
theorem Cz.same {m n : List (Int × Int)} {l l' : List Int} (h : Cz m l) (h' : Cz n l') (p : l.Perm l') : SameZ m n := by
  have e : ∀ x, getZ m x = getZ n x := fun x => by rw [h.at_, h'.at_, p.count_eq]
  refine ⟨?_, fun q hq => by rw [← e]; exact getZ_mem h.nd hq⟩
  have := (List.perm_ext_iff_of_nodup h.nd h'.nd).mpr fun x => by rw [getZ_key, getZ_key, e]
  have := this.length_eq
  rwa [List.length_map, List.length_map] at this
theorem cnt_same {l l' : List Int} (p : l.Perm l') : SameZ (cnt l) (cnt l') := (cnt_cz l).same (cnt_cz l') p
theorem SameZ.dk {m n : List (Int × Int)} (h : SameZ m n) : SameDk (m.map fun q => ((.inl q.1 : Key), q.2)) (n.map fun q => ((.inl q.1 : Key), q.2)) := by
  refine ⟨by rw [List.length_map, List.length_map]; exact h.1, fun q hq => ?_⟩
  obtain ⟨z, hz, rfl⟩ := List.mem_map.mp hq
  have := h.2 z hz
  unfold getZ at this
  rw [List.find?_map]
  have e : ((fun y : Key × Int => decide (y.1 = (Sum.inl z.1 : Key))) ∘ fun q : Int × Int => ((.inl q.1 : Key), q.2)) = fun q => decide (q.1 = z.1) := by
    funext q
    show decide ((Sum.inl q.1 : Key) = Sum.inl z.1) = decide (q.1 = z.1)
    by_cases h : q.1 = z.1
    · rw [h]; simp
    · rw [decide_eq_false h, decide_eq_false (fun z => h (Sum.inl.inj z))]
  rw [e, Option.map_map]
  exact this
theorem Zd_map (m : List (Int × Int)) : Zd m = (m.map fun q => ((.inl q.1 : Key), q.2)).map fun q => (q.1, D.int q.2) := by
  unfold Zd
  rw [List.map_map]
  rfl
theorem cd_eqZ {X : Cx} {m n : List (Int × Int)} (hu : X.A.units < cLine) (h : SameZ m n) : CmpD X .Eq (.dk (Zd m)) (.dk (Zd n)) true := by
  rw [Zd_map, Zd_map]
  exact cd_eqDk hu h.dk
theorem cd_neZ {X : Cx} {m n : List (Int × Int)} (hu : X.A.units < cLine) (h : SameZ m n) : CmpD X .NotEq (.dk (Zd m)) (.dk (Zd n)) false := by
  rw [Zd_map, Zd_map]
  exact cd_neDk hu h.dk
def upF (t : T) : List Int := (allP t).map fun q => far t q.1 q.2
theorem upF_get {t : T} {k : Nat} {q : Nat × Nat} (h : (allP t)[k]? = some q) : (upF t)[k]? = some (far t q.1 q.2) := by
  unfold upF
  rw [List.getElem?_map, h]
  rfl
theorem upF_len (t : T) : (upF t).length = (allP t).length := by unfold upF; rw [List.length_map]
theorem low_up {t : T} (h : TOk t) : (lowK t (t.length + 1)).Perm (upF t) := low_all h
theorem all_Zd (m : List (Int × Int)) : ((Zd m).map (·.1)).map kD ++ (Zd m).map (·.2) = (m.map (·.1) ++ m.map (·.2)).map D.int := by
  unfold Zd
  rw [List.map_map, List.map_map, List.map_append, List.map_map, List.map_map, List.map_map]
  rfl
theorem row_cut {t : T} {i n : Nat} (h : i ≤ n) : cutD (rowD t i n) none (some (i : Nat)) = ((List.range i).map fun j => far t i j).map D.int := by
  rw [cutD_take, rowD_take h, List.map_map]
  rfl
def preCounted : List D → Sk → Prop := fun ds r => ∃ t, TOk t ∧ ds = [treeD t] ∧ r = .ow none (rDk (Zd (cnt (upF t))))
def preIsCount : List D → Sk → Prop := fun ds r => ∃ m n, SameZ m n ∧ m.length ≤ 4000 ∧ ds = [.dk (Zd m), .dk (Zd n)] ∧ r = .im (.bl true)
theorem ints_at {l : List Int} {k : Nat} {d : D} (e : (l.map D.int)[k]? = some d) : ∃ x, l[k]? = some x ∧ d = .int x := by
  rw [List.getElem?_map] at e
  obtain ⟨x, hx, rfl⟩ := Option.map_eq_some_iff.mp e
  exact ⟨x, hx, rfl⟩
end DL
namespace DL
open PySem PySem.Spec PyProof.Rows L2
/-! M15: decks, trees and weights drawn from decks (k17 and its kin) -/
def stirI (cell k : Int) : Int :=
  ((cell % 2147483629 + 9973 * k + 5) * 48271 % 2147483647 * ((cell % 2147483629 + 9973 * k + 5) * 48271 % 2147483647) % 2147483587 + 7919 * k) * 16807 % 2147483563 / 8
def preStir : List D → Sk → Prop := fun ds r => ∃ cell k : Int, ds = [.int cell, .int k] ∧ r = .im (.int (stirI cell k))
def preCellAt : List D → Sk → Prop := fun ds r => ∃ (ns : List Int) (k : Nat), ds = [.rol (ns.map D.int), .int k] ∧ r = .im (.int (ns.getD k 0))
def deckR (cell : Int) : Nat → List Int × Int
  | 0 => ([], cell)
  | k + 1 => ((deckR cell k).1 ++ [if decide ((10 : Int) ^ 18 ≤ cell) = true then (deckR cell k).2 % 720720 else stirI cell k], (deckR cell k).2 / 720720)
@[irreducible] def deckN (cell : Int) (k : Nat) : List Int × Int := deckR cell k
theorem deckN_zero (cell : Int) : deckN cell 0 = ([], cell) := by unfold deckN; rfl
theorem deckN_succ (cell : Int) (k : Nat) : deckN cell (k + 1) = ((deckN cell k).1 ++ [if decide ((10 : Int) ^ 18 ≤ cell) = true then (deckN cell k).2 % 720720 else stirI cell k], (deckN cell k).2 / 720720) := by unfold deckN; rfl
theorem deck_yes {cell : Int} (k : Nat) (h : decide ((10 : Int) ^ (18 : Int).toNat ≤ cell) = true) : (deckN cell (k + 1)).1.map D.int = (deckN cell k).1.map D.int ++ [.int ((deckN cell k).2 % 720720)] := by
  have h' : decide ((10 : Int) ^ 18 ≤ cell) = true := h
  rw [deckN_succ, if_pos h', List.map_append]
  rfl
theorem deck_no {cell : Int} (k : Nat) (h : decide ((10 : Int) ^ (18 : Int).toNat ≤ cell) = false) : (deckN cell (k + 1)).1.map D.int = (deckN cell k).1.map D.int ++ [.int (stirI cell k)] := by
  have h' : ¬ decide ((10 : Int) ^ 18 ≤ cell) = true := by intro z; exact absurd (h.symm.trans z) (by decide)
  rw [deckN_succ, if_neg h', List.map_append]
  rfl
theorem deck_dig (cell : Int) (k : Nat) : (deckN cell (k + 1)).2 = (deckN cell k).2 / 720720 := by rw [deckN_succ]
theorem deck_len (cell : Int) : ∀ k, (deckN cell k).1.length = k
  | 0 => by rw [deckN_zero]; rfl
  | k + 1 => by
    rw [deckN_succ, List.length_append, deck_len cell k]
    rfl
def deckF (cell : Int) (many : Nat) : List Int := (deckN cell many).1.reverse
def preDeck : List D → Sk → Prop := fun ds r => ∃ (cell : Int) (many : Nat), many ≤ 5000 ∧ ds = [.int cell, .int many] ∧ r = .ow none (rLst ((deckF cell many).map D.int))
theorem deck_ret (cell : Int) (many : Nat) : ((deckN cell many).1.map D.int).reverse = (deckF cell many).map D.int := by
  unfold deckF
  rw [List.map_reverse]
/-- the next number of a deck -/
def nx (l : List Int) : Int := l.getLastD 0
theorem eqv_nil : ∀ l : List Int, (D.lst (l.map D.int)).eqv (.lst []) = decide (l = [])
  | [] => rfl
  | a :: l => by
    rw [decide_eq_false (by intro z; cases z)]
    rfl
theorem cd_eqNil {X : Cx} {l : List Int} (hu : X.A.units + 64 < cLine) : CmpD X .Eq (.lst (l.map D.int)) (.lst []) (decide (l = [])) := by
  rw [← eqv_nil]
  exact cd_eqD hu (gd_ints l) rfl
theorem cd_neNil {X : Cx} {l : List Int} (hu : X.A.units + 64 < cLine) : CmpD X .NotEq (.lst (l.map D.int)) (.lst []) (!decide (l = [])) := by
  rw [← eqv_nil]
  exact cd_neD hu (gd_ints l) rfl
theorem nx_at {l : List Int} (h : decide (l = []) = false) : (l.map D.int)[(l.map D.int).length - 1]? = some (.int (nx l)) := by
  have h' : l ≠ [] := of_decide_eq_false h
  have hp : 0 < l.length := List.length_pos_iff.mpr h'
  rw [List.length_map, List.getElem?_map, List.getElem?_eq_getElem (by omega)]
  unfold nx
  rw [List.getLastD_eq_getLast?, List.getLast?_eq_getElem?, List.getElem?_eq_getElem (by omega)]
  rfl
def preNext : ResT → List D → Sk → ResT → Prop := fun R ds r R' => ∃ l : List Int, R = rLst (l.map D.int) ∧ ds = [] ∧ r = .im (.int (nx l)) ∧ R' = rLst (l.dropLast.map D.int)
theorem next_nil {l : List Int} {v0 : V} (h : decide (l = []) = true) : Sk.im (.int 0) = .im (.int (nx l)) ∧ some (Sk.ow (some v0) (rLst (l.map D.int))) = some (.ow (some v0) (rLst (l.dropLast.map D.int))) := by
  have h' : l = [] := of_decide_eq_true h
  subst h'
  exact ⟨rfl, rfl⟩
theorem next_pop {l : List Int} {v0 : V} : Sk.im (.int (nx l)) = .im (.int (nx l)) ∧ some (Sk.ow (some v0) (rLst (l.map D.int).dropLast)) = some (.ow (some v0) (rLst (l.dropLast.map D.int))) := by
  refine ⟨rfl, ?_⟩
  rw [List.map_dropLast]
/-- a number of more figures -/
def farW : Nat → List Int → Int × List Int
  | 0, l => (0, l)
  | k + 1, l => ((farW k l).1 * 10 ^ 5 + nx (farW k l).2 % 10 ^ 5, (farW k l).2.dropLast)
theorem farW_nn (l : List Int) : ∀ k, 0 ≤ (farW k l).1
  | 0 => Int.le_refl 0
  | k + 1 => by
    have := farW_nn l k
    have := Int.emod_nonneg (nx (farW k l).2) (show (10 : Int) ^ 5 ≠ 0 by decide)
    show 0 ≤ (farW k l).1 * 10 ^ 5 + nx (farW k l).2 % 10 ^ 5
    omega
def preFarW : ResT → List D → Sk → ResT → Prop := fun R ds r R' => ∃ l : List Int, R = rLst (l.map D.int) ∧ ds = [] ∧ r = .im (.int (farW 3 l).1) ∧ R' = rLst ((farW 3 l).2.map D.int)
def upW (l : List Int) (shape i many : Int) : Int × List Int :=
  if shape = 0 then (i, l) else if shape = 1 then (0, l) else if shape = 3 then (max 0 (i - nx l % 3), l.dropLast) else if shape = 4 then (i / 2, l) else
  if shape = 5 then (min i (many / 2), l) else if shape = 6 then (max 0 (i - i % 2), l) else (nx l % (i + 1), l.dropLast)
theorem upW_bd (l : List Int) {shape i many : Int} (hi : 0 ≤ i) (hm : 0 ≤ many) : 0 ≤ (upW l shape i many).1 ∧ (upW l shape i many).1 ≤ i := by
  unfold upW
  have h1 := Int.emod_nonneg (nx l) (show i + 1 ≠ 0 by omega)
  have h2 := Int.emod_lt_of_pos (nx l) (show 0 < i + 1 by omega)
  split
  · exact ⟨hi, Int.le_refl _⟩
  · split
    · exact ⟨Int.le_refl _, hi⟩
    · split
      · simp only; omega
      · split
        · simp only; omega
        · split
          · simp only; omega
          · split
            · simp only; omega
            · simp only; omega
def preUpW : ResT → List D → Sk → ResT → Prop := fun R ds r R' => ∃ (l : List Int) (shape i many : Int), 0 ≤ i ∧ R = rLst (l.map D.int) ∧ ds = [.int shape, .int i, .int many] ∧ r = .im (.int (upW l shape i many).1) ∧ R' = rLst ((upW l shape i many).2.map D.int)
section
variable {l : List Int} {shape i many : Int}
theorem upW_0 (h : decide (shape = 0) = true) : upW l shape i many = (i, l) := if_pos (of_decide_eq_true h)
theorem upW_1 (h0 : decide (shape = 0) = false) (h : decide (shape = 1) = true) : upW l shape i many = (0, l) := by
  unfold upW
  rw [if_neg (of_decide_eq_false h0), if_pos (of_decide_eq_true h)]
theorem upW_3 (h0 : decide (shape = 0) = false) (h1 : decide (shape = 1) = false) (h : decide (shape = 3) = true) : upW l shape i many = (max 0 (i - nx l % 3), l.dropLast) := by
  unfold upW
  rw [if_neg (of_decide_eq_false h0), if_neg (of_decide_eq_false h1), if_pos (of_decide_eq_true h)]
theorem upW_4 (h0 : decide (shape = 0) = false) (h1 : decide (shape = 1) = false) (h3 : decide (shape = 3) = false) (h : decide (shape = 4) = true) : upW l shape i many = (i / 2, l) := by
  unfold upW
  rw [if_neg (of_decide_eq_false h0), if_neg (of_decide_eq_false h1), if_neg (of_decide_eq_false h3), if_pos (of_decide_eq_true h)]
theorem upW_5 (h0 : decide (shape = 0) = false) (h1 : decide (shape = 1) = false) (h3 : decide (shape = 3) = false) (h4 : decide (shape = 4) = false) (h : decide (shape = 5) = true) : upW l shape i many = (min i (many / 2), l) := by
  unfold upW
  rw [if_neg (of_decide_eq_false h0), if_neg (of_decide_eq_false h1), if_neg (of_decide_eq_false h3), if_neg (of_decide_eq_false h4), if_pos (of_decide_eq_true h)]
theorem upW_6 (h0 : decide (shape = 0) = false) (h1 : decide (shape = 1) = false) (h3 : decide (shape = 3) = false) (h4 : decide (shape = 4) = false) (h5 : decide (shape = 5) = false) (h : decide (shape = 6) = true) : upW l shape i many = (max 0 (i - i % 2), l) := by
  unfold upW
  rw [if_neg (of_decide_eq_false h0), if_neg (of_decide_eq_false h1), if_neg (of_decide_eq_false h3), if_neg (of_decide_eq_false h4), if_neg (of_decide_eq_false h5), if_pos (of_decide_eq_true h)]
theorem upW_7 (h0 : decide (shape = 0) = false) (h1 : decide (shape = 1) = false) (h3 : decide (shape = 3) = false) (h4 : decide (shape = 4) = false) (h5 : decide (shape = 5) = false) (h6 : decide (shape = 6) = false) : upW l shape i many = (nx l % (i + 1), l.dropLast) := by
  unfold upW
  rw [if_neg (of_decide_eq_false h0), if_neg (of_decide_eq_false h1), if_neg (of_decide_eq_false h3), if_neg (of_decide_eq_false h4), if_neg (of_decide_eq_false h5), if_neg (of_decide_eq_false h6)]
end
theorem up_ret {p : Int × List Int} {x : Int} {l : List Int} {q : Int × List Int} {v0 : V} (e : p = q) (h : q = (x, l)) : Sk.im (.int x) = .im (.int p.1) ∧ some (Sk.ow (some v0) (rLst (l.map D.int))) = some (.ow (some v0) (rLst (p.2.map D.int))) := by
  subst e h
  exact ⟨rfl, rfl⟩
/-- five numbers, one of them taken, for a length -/
def someW (kind : Int) (l : List Int) : List Int := [1 + kind % 2, nx l % 3, nx l.dropLast % 10, (farW 3 l.dropLast.dropLast).1, 0]
def l3W (l : List Int) : List Int := (farW 3 l.dropLast.dropLast).2
def lnW (kind : Int) (l : List Int) : Int × List Int :=
  if decide (kind = 4) = true then ((someW kind l).getD (nx (l3W l) % 5).toNat 0, (l3W l).dropLast) else ((someW kind l).getD kind.toNat 0, l3W l)
theorem someW_nn (kind : Int) (l : List Int) (k : Nat) : 0 ≤ (someW kind l).getD k 0 := by
  have h1 := farW_nn l.dropLast.dropLast 3
  unfold someW
  match k with
  | 0 => show 0 ≤ 1 + kind % 2; omega
  | 1 => show 0 ≤ nx l % 3; omega
  | 2 => show 0 ≤ nx l.dropLast % 10; omega
  | 3 => exact h1
  | 4 => exact Int.le_refl 0
  | k + 5 => exact Int.le_refl 0
theorem lnW_nn (kind : Int) (l : List Int) : 0 ≤ (lnW kind l).1 := by
  unfold lnW
  split
  · exact someW_nn _ _ _
  · exact someW_nn _ _ _
def treeWN (shape kind many : Int) : Nat → List Int → T × List Int
  | 0, l => ([], l)
  | i + 1, l => ((treeWN shape kind many i l).1 ++ [((upW (lnW kind (treeWN shape kind many i l).2).2 shape i many).1.toNat, (lnW kind (treeWN shape kind many i l).2).1)], (upW (lnW kind (treeWN shape kind many i l).2).2 shape i many).2)
theorem treeWN_length (shape kind many : Int) (l : List Int) : ∀ n, (treeWN shape kind many n l).1.length = n
  | 0 => rfl
  | n + 1 => by
    unfold treeWN
    simp only
    rw [List.length_append, treeWN_length shape kind many l n]
    rfl
theorem treeWN_ok {shape kind many : Int} {l : List Int} (hm : 0 ≤ many) : ∀ n (i : Nat) (q : Nat × Int), (treeWN shape kind many n l).1[i]? = some q → q.1 ≤ i ∧ 0 ≤ q.2
  | 0, i, q, h => by
    unfold treeWN at h
    simp at h
  | n + 1, i, q, h => by
    unfold treeWN at h
    simp only at h
    have ln := treeWN_length shape kind many l n
    by_cases lt : i < n
    · rw [List.getElem?_append_left (by omega)] at h
      exact treeWN_ok hm n i q h
    · rw [List.getElem?_append_right (by omega), ln] at h
      have e : i = n := by
        have := (List.getElem?_eq_some_iff.mp h).1
        simp at this
        omega
      subst e
      rw [Nat.sub_self] at h
      simp at h
      subst h
      have b := upW_bd (lnW kind (treeWN shape kind many i l).2).2 (shape := shape) (i := (i : Nat)) (many := many) (by omega) hm
      exact ⟨by simp only; omega, lnW_nn _ _⟩
theorem treeWN_snoc {shape kind many : Int} {l : List Int} (hm : 0 ≤ many) (i : Nat) : (treeWN shape kind many (i + 1) l).1.map tupD = (treeWN shape kind many i l).1.map tupD ++
    [D.tup [D.int (upW (lnW kind (treeWN shape kind many i l).2).2 shape i many).1, D.int (lnW kind (treeWN shape kind many i l).2).1]] := by
  have b := upW_bd (lnW kind (treeWN shape kind many i l).2).2 (shape := shape) (i := (i : Nat)) (many := many) (by omega) hm
  show ((treeWN shape kind many i l).1 ++ [_]).map tupD = _
  rw [List.map_append]
  congr 1
  show [D.tup [D.int ((Int.toNat _ : Nat) : Int), _]] = _
  rw [Int.toNat_of_nonneg b.1]
def l5W (l : List Int) : List Int := l.dropLast.dropLast.dropLast.dropLast.dropLast
def manyW (most : Int) (l : List Int) : Int := [nx l % (most + 1), most, nx l.dropLast % (min most 5 + 1)].getD (nx l.dropLast.dropLast % 3).toNat 0
def shapeW (l : List Int) : Int := nx l.dropLast.dropLast.dropLast % 8
def kindW (l : List Int) : Int := nx l.dropLast.dropLast.dropLast.dropLast % 5
def treeW (most : Int) (l : List Int) : T × List Int := treeWN (shapeW l) (kindW l) (manyW most l) (manyW most l).toNat (l5W l)
theorem manyW_bd (l : List Int) {most : Int} (h : 0 ≤ most) : 0 ≤ manyW most l ∧ manyW most l ≤ most := by
  unfold manyW
  have a1 := Int.emod_nonneg (nx l) (show most + 1 ≠ 0 by omega)
  have a2 := Int.emod_lt_of_pos (nx l) (show 0 < most + 1 by omega)
  have b1 := Int.emod_nonneg (nx l.dropLast) (show min most 5 + 1 ≠ 0 by omega)
  have b2 := Int.emod_lt_of_pos (nx l.dropLast) (show 0 < min most 5 + 1 by omega)
  have : nx l.dropLast.dropLast % 3 = 0 ∨ nx l.dropLast.dropLast % 3 = 1 ∨ nx l.dropLast.dropLast % 3 = 2 := by omega
  rcases this with e | e | e <;> rw [e]
  · show 0 ≤ nx l % (most + 1) ∧ nx l % (most + 1) ≤ most; omega
  · exact ⟨h, Int.le_refl _⟩
  · show 0 ≤ nx l.dropLast % (min most 5 + 1) ∧ nx l.dropLast % (min most 5 + 1) ≤ most; omega
theorem treeW_ok (l : List Int) {most : Int} (h0 : 0 ≤ most) (h1 : most ≤ 59) : TOk (treeW most l).1 := by
  have := manyW_bd l h0
  have k := fun i q => treeWN_ok (shape := shapeW l) (kind := kindW l) (l := l5W l) this.1 (manyW most l).toNat i q
  exact ⟨by unfold treeW; rw [treeWN_length]; omega, fun i q e => (k i q e).1, fun i q e => (k i q e).2⟩
def preTreeW : ResT → List D → Sk → ResT → Prop := fun R ds r R' => ∃ (l : List Int) (most : Int), 0 ≤ most ∧ most ≤ 59 ∧ R = rLst (l.map D.int) ∧ ds = [.int most] ∧ r = .ow none (rLst ((treeW most l).1.map tupD)) ∧ R' = rLst ((treeW most l).2.map D.int)
theorem manyW_at {most : Int} {l : List Int} : L2.atI [D.int (nx l % (most + 1)), D.int most, D.int (nx l.dropLast % (min most 5 + 1))] (nx l.dropLast.dropLast % 3) = some (.int (manyW most l)) :=
  at_ints [nx l % (most + 1), most, nx l.dropLast % (min most 5 + 1)] (by omega) (by show nx l.dropLast.dropLast % 3 < (3 : Int); omega)
theorem someW_at {kind w : Int} {l : List Int} (h0 : 0 ≤ w) (h1 : w < 5) : L2.atI [D.int (1 + kind % 2), D.int (nx l % 3), D.int (nx l.dropLast % 10), D.int (farW 3 l.dropLast.dropLast).1, D.int 0] w = some (.int ((someW kind l).getD w.toNat 0)) :=
  at_ints (someW kind l) h0 h1
theorem kindW_bd (l : List Int) : 0 ≤ kindW l ∧ kindW l ≤ 4 := by unfold kindW; omega
theorem at_four {a b c d e v : D} {k : Int} (h : decide (k = 4) = true) : L2.atI ([a, b, c, d, e].set 4 v) k = some v := by
  have : k = 4 := of_decide_eq_true h
  subst this
  rfl
theorem lnW_yes {kind : Int} {l : List Int} (h : decide (kind = 4) = true) : lnW kind l = ((someW kind l).getD (nx (l3W l) % 5).toNat 0, (l3W l).dropLast) := by
  unfold lnW
  rw [if_pos h]
theorem lnW_no {kind : Int} {l : List Int} (h : decide (kind = 4) = false) : lnW kind l = ((someW kind l).getD kind.toNat 0, l3W l) := by
  unfold lnW
  rw [if_neg (by rw [h]; exact nofun)]
theorem treeWN_deck (shape kind many : Int) (i : Nat) (l : List Int) : (treeWN shape kind many (i + 1) l).2 = (upW (lnW kind (treeWN shape kind many i l).2).2 shape i many).2 := rfl
end DL
namespace DL
open PySem PySem.Spec PyProof.Rows L2
/-! M16: a table found by walking outwards -/
inductive Anc (t : T) : Nat → Nat → Prop
  | self (p : Nat) : Anc t p p
  | above {p c : Nat} : 0 < p → Anc t (up t p) c → Anc t p c
section
variable {t : T} {p c u v w : Nat}
theorem Anc.le (h : TOk t) (a : Anc t p c) : p ≤ t.length → c ≤ p := by
  induction a with
  | self p => exact fun _ => Nat.le_refl _
  | above h0 _ ih => intro hp; have := h.up_lt h0 hp; have := ih (by omega); omega
theorem Anc.up' (a : Anc t p c) : 0 < c → Anc t p (up t c) := by
  induction a with
  | self p => exact fun h => .above h (.self _)
  | above h0 _ ih => exact fun h => .above h0 (ih h)
theorem Anc.chain (h : TOk t) (a : Anc t p u) : p ≤ t.length → Anc t p c → c ≤ u → Anc t u c := by
  induction a with
  | self p => exact fun _ b _ => b
  | @above p u h0 a ih =>
    intro hp b hc
    have hu := h.up_lt h0 hp
    have := a.le h (by omega)
    cases b with
    | self => omega
    | above _ b => exact ih (by omega) b hc
theorem Anc.eq (h : TOk t) (hp : p ≤ t.length) (a : Anc t p u) (b : Anc t p c) (h1 : 0 < u) (h2 : 0 < c) (e : up t u = up t c) : u = c := by
  have hu := a.le h hp
  have hc := b.le h hp
  have key : ∀ {x y : Nat}, Anc t p x → Anc t p y → 0 < x → 0 < y → x ≤ t.length → y ≤ t.length → up t x = up t y → x ≤ y → x = y := fun {x y} ax ay h1 h2 hx hy e le => by
    have z := ay.chain h hp ax le
    cases z with
    | self => rfl
    | above _ z =>
      have l := z.le h (by have := h.up_lt h2 hy; omega)
      have := h.up_lt h1 hx
      omega
  by_cases le : u ≤ c
  · exact key a b h1 h2 (by omega) (by omega) e le
  · exact (key b a h2 h1 (by omega) (by omega) e.symm (by omega)).symm
theorem far_anc (h : TOk t) (a : Anc t p c) : p ≤ t.length → 0 < c → far t p (up t c) = far t p c + ln t c := by
  induction a with
  | self p =>
    intro hp h0
    have hu := h.up_lt h0 hp
    rw [far_gt h hp hu, far_self, far_self]
    omega
  | @above p c h0 a ih =>
    intro hp hc
    have hu := h.up_lt h0 hp
    have hl := a.le h (by omega)
    have hc' := h.up_lt hc (by omega)
    rw [far_gt h hp (by omega), far_gt h hp (by omega), ih (by omega) hc]
    omega
theorem far_nan (h : TOk t) : ∀ (n p : Nat), p ≤ n → p ≤ t.length → 0 < c → c ≤ t.length → ¬ Anc t p c → far t p c = far t p (up t c) + ln t c
  | n, p, hn, hp, h0, hc, na => by
    by_cases h1 : p < c
    · rw [far_lt h hc h1]; omega
    · by_cases h2 : p = c
      · subst h2; exact absurd (.self _) na
      · have hu := h.up_lt (p := p) (by omega) hp
        have hu2 := h.up_lt h0 hc
        cases n with
        | zero => omega
        | succ n =>
          have := far_nan h n (up t p) (by omega) (by omega) h0 hc (fun z => na (.above (by omega) z))
          rw [far_gt h hp (by omega), far_gt h hp (by omega), this]
          omega
/-- the places beside one, as they come -/
def bes (t : T) : Nat → Nat → List (Nat × Int)
  | 0, _ => []
  | k + 1, v => bes t k v ++ (if v = up t (k + 1) then [(k + 1, ln t (k + 1))] else []) ++ (if v = k + 1 then [(up t (k + 1), ln t (k + 1))] else [])
theorem bes_in : ∀ {k : Nat} {q : Nat × Int}, q ∈ bes t k v → (0 < q.1 ∧ q.1 ≤ k ∧ v = up t q.1 ∧ q.2 = ln t q.1) ∨ (0 < v ∧ v ≤ k ∧ q.1 = up t v ∧ q.2 = ln t v)
  | 0, q, h => by cases h
  | k + 1, q, h => by
    unfold bes at h
    rcases List.mem_append.mp h with h | h
    · rcases List.mem_append.mp h with h | h
      · rcases bes_in h with ⟨a, b, c, d⟩ | ⟨a, b, c, d⟩
        · exact .inl ⟨a, by omega, c, d⟩
        · exact .inr ⟨a, by omega, c, d⟩
      · split at h
        · rename_i e
          rw [List.mem_singleton.mp h]
          exact .inl ⟨Nat.succ_pos _, Nat.le_refl _, e, rfl⟩
        · cases h
    · split at h
      · rename_i e
        rw [List.mem_singleton.mp h]
        subst e
        exact .inr ⟨Nat.succ_pos _, Nat.le_refl _, rfl, rfl⟩
      · cases h
theorem bes_up : ∀ {k : Nat}, 0 < w → w ≤ k → (w, ln t w) ∈ bes t k (up t w)
  | 0, h0, hk => by omega
  | k + 1, h0, hk => by
    unfold bes
    by_cases e : w = k + 1
    · subst e
      rw [if_pos rfl]
      simp
    · exact List.mem_append_left _ (List.mem_append_left _ (bes_up h0 (by omega)))
theorem bes_dn : ∀ {k : Nat}, 0 < w → w ≤ k → (up t w, ln t w) ∈ bes t k w
  | 0, h0, hk => by omega
  | k + 1, h0, hk => by
    unfold bes
    by_cases e : w = k + 1
    · subst e
      rw [if_pos rfl]
      simp
    · exact List.mem_append_left _ (List.mem_append_left _ (bes_dn h0 (by omega)))
theorem bes_len (v : Nat) : ∀ k, (bes t k v).length ≤ 2 * k
  | 0 => Nat.le_refl 0
  | k + 1 => by
    have := bes_len v k
    unfold bes
    rw [List.length_append, List.length_append]
    have h1 : (if v = up t (k + 1) then [(k + 1, ln t (k + 1))] else []).length ≤ 1 := by split <;> simp
    have h2 : (if v = k + 1 then [(up t (k + 1), ln t (k + 1))] else []).length ≤ 1 := by split <;> simp
    omega
def besL (t : T) (k : Nat) : List (List D) := (List.range (t.length + 1)).map fun v => (bes t k v).map tupD
theorem besL_zero : (List.range (t.length + 1)).map (fun _ => ([] : List D)) = besL t 0 := rfl
theorem besL_length (k : Nat) : (besL t k).length = t.length + 1 := by simp [besL]
theorem besL_get {k : Nat} (h : v ≤ t.length) : (besL t k)[v]? = some ((bes t k v).map tupD) := by
  unfold besL
  rw [List.getElem?_map, List.getElem?_range (by omega)]
  rfl
theorem besL_step {k : Nat} (h : TOk t) (hk : k < t.length) : ((besL t k).set (up t (k + 1)) ((bes t k (up t (k + 1))).map tupD ++ [tupD (k + 1, ln t (k + 1))])).set (k + 1) ((bes t k (k + 1)).map tupD ++ [tupD (up t (k + 1), ln t (k + 1))]) = besL t (k + 1) := by
  have hu := h.up_lt (p := k + 1) (by omega) (by omega)
  apply List.ext_getElem?
  intro v
  by_cases hv : v ≤ t.length
  · rw [besL_get hv, List.getElem?_set]
    by_cases e1 : k + 1 = v
    · subst e1
      rw [if_pos rfl, if_pos (by rw [List.length_set, besL_length]; omega)]
      show _ = some ((bes t k (k + 1) ++ (if k + 1 = up t (k + 1) then _ else []) ++ (if k + 1 = k + 1 then [(up t (k + 1), ln t (k + 1))] else [])).map tupD)
      rw [if_neg (by omega), if_pos rfl, List.append_nil, List.map_append]
      rfl
    · rw [if_neg e1, List.getElem?_set]
      by_cases e2 : up t (k + 1) = v
      · subst e2
        rw [if_pos rfl, if_pos (by rw [besL_length]; omega)]
        show _ = some ((bes t k (up t (k + 1)) ++ (if up t (k + 1) = up t (k + 1) then [(k + 1, ln t (k + 1))] else []) ++ (if up t (k + 1) = k + 1 then _ else [])).map tupD)
        rw [if_pos rfl, if_neg (by omega), List.append_nil, List.map_append]
        rfl
      · rw [if_neg e2, besL_get hv]
        show _ = some ((bes t k v ++ (if v = up t (k + 1) then _ else []) ++ (if v = k + 1 then _ else [])).map tupD)
        rw [if_neg (fun z => e2 z.symm), if_neg (fun z => e1 z.symm), List.append_nil, List.append_nil]
  · rw [List.getElem?_eq_none (by rw [List.length_set, List.length_set, besL_length]; omega), List.getElem?_eq_none (by rw [besL_length]; omega)]
/-- what the walk knows: how far the places seen are; towards p all is seen -/
structure Dfs (t : T) (p : Nat) (r : Nat → Option Int) : Prop where
  val : ∀ v, v ≤ t.length → ∀ x, r v = some x → x = far t p v
  one : r p ≠ none
  d1 : ∀ w, w ≤ t.length → r w ≠ none → ¬ Anc t p w → r (up t w) ≠ none
  d2 : ∀ c, Anc t p c → 0 < c → r (up t c) ≠ none → r c ≠ none
def see (r : Nat → Option Int) (v : Nat) (x : Int) : Nat → Option Int := fun w => if w = v then some x else r w
theorem see_ne {r : Nat → Option Int} {x : Int} (h : r w ≠ none) : see r v x w ≠ none := by
  unfold see
  split
  · exact nofun
  · exact h
theorem see_self {r : Nat → Option Int} {x : Int} : see r v x v = some x := if_pos rfl
theorem see_of {r : Nat → Option Int} {x : Int} (h : see r v x w ≠ none) : w = v ∨ r w ≠ none := by
  unfold see at h
  split at h
  · exact .inl ‹_›
  · exact .inr h
theorem Dfs.start (h : TOk t) (hp : p ≤ t.length) : Dfs t p (see (fun _ => none) p 0) := by
  refine ⟨fun v _ x e => ?_, by rw [see_self]; exact nofun, fun w _ e na => ?_, fun c a h0 e => ?_⟩
  · unfold see at e
    split at e
    · rename_i z; subst z
      rw [far_self]
      exact (Option.some.inj e).symm
    · cases e
  · rcases see_of e with z | z
    · subst z; exact absurd (.self _) na
    · exact absurd rfl z
  · rcases see_of e with z | z
    · have := h.up_lt h0 (Nat.le_trans (a.le h hp) hp)
      have := a.le h hp
      omega
    · exact absurd rfl z
theorem Dfs.step {r : Nat → Option Int} (d : Dfs t p r) (h : TOk t) (hp : p ≤ t.length) {k : Nat} (hk : k = t.length) {q : Nat × Int} (hv : v ≤ t.length) (hr : r v ≠ none) (hq : q ∈ bes t k v) (hn : r q.1 = none) : Dfs t p (see r q.1 (far t p v + q.2)) ∧ q.1 ≤ t.length := by
  subst hk
  rcases bes_in hq with ⟨a1, a2, a3, a4⟩ | ⟨a1, a2, a3, a4⟩
  · have na : ¬ Anc t p q.1 := fun z => absurd hn (d.d2 _ z a1 (by rw [← a3]; exact hr))
    refine ⟨⟨fun w hw x e => ?_, see_ne d.one, fun w hw e nw => ?_, fun c ac h0 e => ?_⟩, a2⟩
    · unfold see at e
      split at e
      · rename_i z
        rw [← Option.some.inj e, z, far_nan h _ p (Nat.le_refl _) hp a1 a2 na, a3, a4]
      · exact d.val w hw x e
    · rcases see_of e with z | z
      · rw [z, ← a3]; exact see_ne hr
      · exact see_ne (d.d1 w hw z nw)
    · rcases see_of e with z | z
      · exact absurd (z ▸ ac.up' h0) na
      · exact see_ne (d.d2 c ac h0 z)
  · have an : Anc t p v := Classical.byContradiction fun z => by
      have := d.d1 v hv hr z
      rw [← a3] at this
      exact this hn
    have hu := h.up_lt a1 hv
    refine ⟨⟨fun w hw x e => ?_, see_ne d.one, fun w hw e nw => ?_, fun c ac h0 e => ?_⟩, by omega⟩
    · unfold see at e
      split at e
      · rename_i z
        rw [← Option.some.inj e, z, a3, far_anc h an hp a1, a4]
      · exact d.val w hw x e
    · rcases see_of e with z | z
      · rw [z, a3] at nw
        exact absurd (an.up' a1) nw
      · exact see_ne (d.d1 w hw z nw)
    · rcases see_of e with z | z
      · have : c = v := Anc.eq h hp ac an h0 a1 (by rw [z, a3])
        rw [this]
        exact see_ne hr
      · exact see_ne (d.d2 c ac h0 z)
theorem Dfs.all {r : Nat → Option Int} (d : Dfs t p r) (h : TOk t) (hp : p ≤ t.length) (cl : ∀ v, v ≤ t.length → r v ≠ none → ∀ q ∈ bes t t.length v, r q.1 ≠ none) : ∀ v, v ≤ t.length → r v = some (far t p v) := by
  have up0 : ∀ n u, u ≤ n → u ≤ t.length → r u ≠ none → r 0 ≠ none := fun n => by
    induction n with
    | zero => intro u hu _ e; have : u = 0 := by omega
              rw [← this]; exact e
    | succ n ih =>
      intro u hu hl e
      by_cases z : u = 0
      · rw [← z]; exact e
      · have := h.up_lt (p := u) (by omega) hl
        exact ih (up t u) (by omega) (by omega) (cl u hl e _ (bes_dn (by omega) hl))
  have h0 := up0 p p (Nat.le_refl _) hp d.one
  have dn : ∀ n v, v ≤ n → v ≤ t.length → r v ≠ none := fun n => by
    induction n with
    | zero => intro u hu _; have : u = 0 := by omega
              rw [this]; exact h0
    | succ n ih =>
      intro v hv hl
      by_cases z : v = 0
      · rw [z]; exact h0
      · have := h.up_lt (p := v) (by omega) hl
        exact cl (up t v) (by omega) (ih (up t v) (by omega) (by omega)) _ (bes_up (by omega) hl)
  intro v hv
  cases e : r v with
  | none => exact absurd e (dn v v (Nat.le_refl _) hv)
  | some x => rw [d.val v hv x e]
end
end DL
namespace DL
open PySem PySem.Spec PyProof.Rows L2
/-! M17: the row of a walk, what stands while it goes -/
def oD : Option Int → D
  | none => .non
  | some x => .int x
section
variable {t : T} {p v w : Nat} {r : Nat → Option Int}
def rowO (t : T) (r : Nat → Option Int) : List D := (List.range (t.length + 1)).map fun v => oD (r v)
theorem rowO_length : (rowO t r).length = t.length + 1 := by simp [rowO]
theorem at_rowO (h : w ≤ t.length) : L2.atI (rowO t r) (w : Nat) = some (oD (r w)) := by
  refine atI_nat ?_
  unfold rowO
  rw [List.getElem?_map, List.getElem?_range (by omega)]
  rfl
theorem ixN_nat {n k : Nat} (h : k < n) : ixN n (k : Nat) = some k := by
  unfold ixN
  rw [if_pos (by omega), if_pos (by omega), Int.toNat_natCast]
theorem rowO_set {x : Int} (h : w ≤ t.length) : (rowO t r).set w (.int x) = rowO t (see r w x) := by
  apply List.ext_getElem?
  intro v
  rw [List.getElem?_set]
  unfold rowO
  rw [List.getElem?_map, List.length_map, List.length_range]
  by_cases e : w = v
  · subst e
    rw [if_pos rfl, if_pos (by omega), List.getElem?_map, List.getElem?_range (by omega)]
    show _ = some (oD (see r w x w))
    rw [see_self]
    rfl
  · rw [if_neg e, List.getElem?_map]
    by_cases hv : v < t.length + 1
    · rw [List.getElem?_range hv]
      show some (oD (r v)) = some (oD (see r w x v))
      unfold see
      rw [if_neg (fun z => e z.symm)]
    · rw [List.getElem?_eq_none (by rw [List.length_range]; omega)]
      rfl
theorem flat_one (d : D) : ∀ n, (List.replicate n [d]).flatten = List.replicate n d
  | 0 => rfl
  | n + 1 => by rw [List.replicate_succ, List.flatten_cons, flat_one d n]; rfl
theorem rowO_none : (List.replicate ((((t.map tupD).length : Nat) : Int) + 1).toNat [D.non]).flatten = rowO t fun _ => none := by
  rw [flat_one, List.length_map, show (((t.length : Nat) : Int) + 1).toNat = t.length + 1 by omega]
  apply List.ext_getElem?
  intro v
  unfold rowO
  rw [List.getElem?_replicate, List.getElem?_map]
  by_cases hv : v < t.length + 1
  · rw [if_pos hv, List.getElem?_range hv]; rfl
  · rw [if_neg hv, List.getElem?_eq_none (by rw [List.length_range]; omega)]; rfl
theorem rowO_done (h : ∀ v, v ≤ t.length → r v = some (far t p v)) : rowO t r = rowD t p (t.length + 1) := by
  unfold rowO rowD
  refine List.map_congr_left fun v hv => ?_
  rw [h v (by have := List.mem_range.mp hv; omega)]
  rfl
theorem oD_clear {o : Option Int} : (oD o).clear = true := by cases o <;> rfl
theorem oD_yes {o : Option Int} (h : (oD o).isN = true) : o = none := by
  cases o with
  | none => rfl
  | some x => cases h
theorem oD_no {o : Option Int} (h : (oD o).isN = false) : o ≠ none := by
  cases o with
  | none => cases h
  | some x => exact nofun
structure Wk (t : T) (p : Nat) (r : Nat → Option Int) (wl U : List Nat) (ex : Nat → Prop) : Prop where
  dfs : Dfs t p r
  wv : ∀ v ∈ wl, v ≤ t.length ∧ r v ≠ none
  un : ∀ v, v ≤ t.length → r v = none → v ∈ U
  cl : ∀ v, v ≤ t.length → r v ≠ none → v ∉ wl → ¬ ex v → ∀ q ∈ bes t t.length v, r q.1 ≠ none
  few : wl.length + U.length ≤ t.length + 1
theorem Wk.start (h : TOk t) (hp : p ≤ t.length) : Wk t p (see (fun _ => none) p 0) [p] ((List.range (t.length + 1)).erase p) fun _ => False := by
  refine ⟨.start h hp, fun v m => ?_, fun v hv e => ?_, fun v hv e nm => ?_, ?_⟩
  · rw [List.mem_singleton.mp m, see_self]
    exact ⟨hp, nofun⟩
  · refine (List.mem_erase_of_ne fun z => ?_).mpr (List.mem_range.mpr (by omega))
    rw [z, see_self] at e
    cases e
  · rcases see_of e with z | z
    · exact absurd (by rw [z]; exact List.mem_cons_self ..) nm
    · exact absurd rfl z
  · rw [List.length_erase_of_mem (List.mem_range.mpr (by omega)), List.length_range]
    show 1 + _ ≤ _
    omega
theorem Wk.pop {ws U : List Nat} (k : Wk t p r (ws ++ [v]) U fun _ => False) : Wk t p r ws U (fun w => w = v) ∧ v ≤ t.length ∧ r v ≠ none := by
  refine ⟨⟨k.dfs, fun w m => k.wv w (List.mem_append_left _ m), k.un, fun w hw e nm nx => ?_, ?_⟩, k.wv v (by simp)⟩
  · refine k.cl w hw e (fun z => ?_) id
    rcases List.mem_append.mp z with z | z
    · exact nm z
    · exact nx (List.mem_singleton.mp z)
  · have := k.few
    rw [List.length_append] at this
    omega
theorem Wk.look {wl U : List Nat} {ex : Nat → Prop} (k : Wk t p r wl U ex) (h : TOk t) (hp : p ≤ t.length) (hv : v ≤ t.length) (hr : r v ≠ none) {q : Nat × Int} (hq : q ∈ bes t t.length v) (hn : r q.1 = none) :
    Wk t p (see r q.1 (far t p v + q.2)) (wl ++ [q.1]) (U.erase q.1) ex ∧ q.1 ≤ t.length ∧ 2 * (U.erase q.1).length + (wl ++ [q.1]).length + 1 = 2 * U.length + wl.length ∧ wl.length < t.length + 1 := by
  obtain ⟨d, hw⟩ := k.dfs.step h hp rfl hv hr hq hn
  have hu := k.un _ hw hn
  have hl := List.length_erase_of_mem hu
  have hpos : 0 < U.length := List.length_pos_of_mem hu
  have hf := k.few
  refine ⟨⟨d, fun w m => ?_, fun w hw e => ?_, fun w hw e nm nx y hy => ?_, ?_⟩, hw, ?_, by omega⟩
  · rcases List.mem_append.mp m with m | m
    · exact ⟨(k.wv w m).1, see_ne (k.wv w m).2⟩
    · rw [List.mem_singleton.mp m, see_self]
      exact ⟨hw, nofun⟩
  · have ne : w ≠ q.1 := fun z => by rw [z, see_self] at e; cases e
    refine (List.mem_erase_of_ne ne).mpr (k.un w hw ?_)
    unfold see at e
    rwa [if_neg ne] at e
  · rcases see_of e with z | z
    · exact absurd (by rw [z]; simp) nm
    · exact see_ne (k.cl w hw z (fun m => nm (List.mem_append_left _ m)) nx y hy)
  · rw [List.length_append, hl]
    show _ + 1 + _ ≤ _
    omega
  · rw [List.length_append, hl]
    show _ + (_ + 1) + 1 = _
    omega
theorem Wk.close {wl U : List Nat} (k : Wk t p r wl U fun w => w = v) (hc : ∀ q ∈ bes t t.length v, r q.1 ≠ none) : Wk t p r wl U fun _ => False :=
  ⟨k.dfs, k.wv, k.un, fun w hw e nm _ => by
    by_cases z : w = v
    · rw [z]; exact hc
    · exact k.cl w hw e nm z, k.few⟩
theorem Wk.done {U : List Nat} (k : Wk t p r [] U fun _ => False) (h : TOk t) (hp : p ≤ t.length) : rowO t r = rowD t p (t.length + 1) :=
  rowO_done (k.dfs.all h hp fun v hv e => k.cl v hv e List.not_mem_nil id)
end
theorem eqv_nilN : ∀ l : List Nat, (D.lst (natsD l)).eqv (.lst []) = decide (l = [])
  | [] => rfl
  | a :: l => by
    rw [decide_eq_false (by intro z; cases z)]
    rfl
theorem cd_neNilN {X : Cx} {l : List Nat} (hu : X.A.units + 64 < cLine) : CmpD X .NotEq (.lst (natsD l)) (.lst []) (!decide (l = [])) := by
  rw [← eqv_nilN]
  exact cd_neD hu (gd_nats l) rfl
theorem pop_nat {ws : List Nat} {v : Nat} : (natsD (ws ++ [v]))[(natsD (ws ++ [v])).length - 1]? = some (.int (v : Nat)) := by
  rw [natsD_length, List.length_append]
  unfold natsD
  rw [List.getElem?_map, List.getElem?_append_right (by show ws.length ≤ ws.length + 1 - 1; omega)]
  show Option.map _ ([v][ws.length + 1 - 1 - ws.length]?) = _
  rw [show ws.length + 1 - 1 - ws.length = 0 by omega]
  rfl
theorem natsD_drop {ws : List Nat} {v : Nat} : (natsD (ws ++ [v])).dropLast = natsD ws := by
  unfold natsD
  rw [← List.map_dropLast, List.dropLast_concat]
theorem cons_end {l : List Nat} (h : (!decide (l = [])) = true) : ∃ ws v, l = ws ++ [v] := by
  have h' : l ≠ [] := by simpa using h
  exact ⟨l.dropLast, l.getLast h', (List.dropLast_concat_getLast h').symm⟩
theorem enum_tup {t : T} {k : Nat} {d : D} (h : ((t.map tupD).mapIdx fun i d => D.tup [.int (i : Nat), d])[k]? = some d) : k < t.length ∧ d = .tup [.int (k : Nat), .tup [.int (up t (k + 1) : Nat), .int (ln t (k + 1))]] := by
  rw [List.getElem?_mapIdx, List.getElem?_map] at h
  by_cases hk : k < t.length
  · refine ⟨hk, ?_⟩
    rw [List.getElem?_eq_getElem hk] at h
    have e := Option.some.inj h
    rw [← e]
    unfold up ln
    rw [List.getD_eq_getElem?_getD, show k + 1 - 1 = k from rfl, List.getElem?_eq_getElem hk]
    rfl
  · rw [List.getElem?_eq_none (by omega)] at h
    cases h
theorem enum_tup_len {t : T} : ((t.map tupD).mapIdx fun i d => D.tup [.int (i : Nat), d]).length = t.length := by rw [List.length_mapIdx, List.length_map]
theorem besL_start (t : T) : (List.range (rngN ((((t.map tupD).length : Nat) : Int) + 1).toNat).length).map (fun _ => ([] : List D)) = besL t 0 := by
  rw [rngN_length, List.length_map, show (((t.length : Nat) : Int) + 1).toNat = t.length + 1 by omega]
  rfl
theorem besL_at {t : T} {k v : Nat} (h : v ≤ t.length) : L2.atI ((besL t k).map D.lst) (v : Nat) = some (.lst ((bes t k v).map tupD)) := by
  refine atI_nat ?_
  rw [List.getElem?_map, besL_get h]
  rfl
theorem bes_get {l : List (Nat × Int)} {k : Nat} {d : D} (h : (l.map tupD)[k]? = some d) : ∃ q, l[k]? = some q ∧ d = .tup [.int (q.1 : Nat), .int q.2] := by
  rw [List.getElem?_map] at h
  obtain ⟨q, hq, rfl⟩ := Option.map_eq_some_iff.mp h
  exact ⟨q, hq, rfl⟩
theorem bes_le {t : T} (h : TOk t) {v : Nat} (hv : v ≤ t.length) {q : Nat × Int} (hq : q ∈ bes t t.length v) : q.1 ≤ t.length := by
  rcases bes_in hq with ⟨a, b, c, d⟩ | ⟨a, b, c, d⟩
  · exact b
  · have := h.up_lt a hv
    omega
theorem at_rowV {t : T} {p v : Nat} {r : Nat → Option Int} (hv : v ≤ t.length) (hr : r v ≠ none) (h : ∀ x, r v = some x → x = far t p v) : L2.atI (rowO t r) (v : Nat) = some (.int (far t p v)) := by
  rw [at_rowO hv]
  cases e : r v with
  | none => exact absurd e hr
  | some x => rw [h x e]; rfl
end DL
namespace DL
open PySem PySem.Spec PyProof.Rows L2
/-! M18: weights (k17, k18) -/
def someV (l : List Int) : List Int := [1, nx l % 7 - 3, if decide (nx l.dropLast % 4 = 0) = true then 1 else 0, (farW 3 l.dropLast.dropLast).1, 0]
def sgV (l : List Int) : Int := [1, -1].getD (nx (l3W l) % 2).toNat 0
def l4V (l : List Int) : List Int := (l3W l).dropLast
def wtV (kind : Int) (l : List Int) : Int × List Int :=
  if decide (kind = 4) = true then ((someV l).getD (nx (l4V l) % 5).toNat 0 * sgV l, (l4V l).dropLast) else ((someV l).getD kind.toNat 0 * sgV l, l4V l)
theorem farW_lt (l : List Int) : ∀ k, (farW k l).1 < (10 ^ 5) ^ k
  | 0 => by show (0 : Int) < 1; decide
  | k + 1 => by
    have := farW_lt l k
    have := Int.emod_lt_of_pos (nx (farW k l).2) (show (0 : Int) < 10 ^ 5 by decide)
    have e : ((10 : Int) ^ 5) ^ (k + 1) = (10 ^ 5) ^ k * 10 ^ 5 := Int.pow_succ ..
    rw [e]
    show (farW k l).1 * 10 ^ 5 + nx (farW k l).2 % 10 ^ 5 < _
    omega
theorem someV_bd (l : List Int) (k : Nat) : -3 ≤ (someV l).getD k 0 ∧ (someV l).getD k 0 < 10 ^ 15 := by
  have h1 := farW_nn l.dropLast.dropLast 3
  have h2 : (farW 3 l.dropLast.dropLast).1 < 10 ^ 15 := farW_lt l.dropLast.dropLast 3
  unfold someV
  match k with
  | 0 => show (-3 : Int) ≤ 1 ∧ (1 : Int) < 10 ^ 15; decide
  | 1 => show -3 ≤ nx l % 7 - 3 ∧ nx l % 7 - 3 < 10 ^ 15; omega
  | 2 => show -3 ≤ (if decide (nx l.dropLast % 4 = 0) = true then (1 : Int) else 0) ∧ (if decide (nx l.dropLast % 4 = 0) = true then (1 : Int) else 0) < 10 ^ 15
         split <;> decide
  | 3 => exact ⟨Int.le_trans (by decide) h1, h2⟩
  | 4 => show (-3 : Int) ≤ 0 ∧ (0 : Int) < 10 ^ 15; decide
  | k + 5 => show (-3 : Int) ≤ 0 ∧ (0 : Int) < 10 ^ 15; decide
theorem sgV_or (l : List Int) : sgV l = 1 ∨ sgV l = -1 := by
  unfold sgV
  have : nx (l3W l) % 2 = 0 ∨ nx (l3W l) % 2 = 1 := by omega
  rcases this with e | e <;> rw [e]
  · exact .inl rfl
  · exact .inr rfl
theorem wtV_bd (kind : Int) (l : List Int) : -(2 ^ 63) < (wtV kind l).1 ∧ (wtV kind l).1 < 2 ^ 63 := by
  unfold wtV
  have s := sgV_or l
  split
  · have b := someV_bd l (nx (l4V l) % 5).toNat
    rcases s with e | e <;> rw [e] <;> simp only <;> omega
  · have b := someV_bd l kind.toNat
    rcases s with e | e <;> rw [e] <;> simp only <;> omega
def wsN (kind : Int) : Nat → List Int → List Int × List Int
  | 0, l => ([], l)
  | i + 1, l => ((wsN kind i l).1 ++ [(wtV kind (wsN kind i l).2).1], (wtV kind (wsN kind i l).2).2)
theorem wsN_length (kind : Int) (l : List Int) : ∀ n, (wsN kind n l).1.length = n
  | 0 => rfl
  | n + 1 => by
    unfold wsN
    simp only
    rw [List.length_append, wsN_length kind l n]
    rfl
theorem wsN_bd (kind : Int) (l : List Int) : ∀ (n : Nat) (z : Int), z ∈ (wsN kind n l).1 → -(2 ^ 63) < z ∧ z < 2 ^ 63
  | 0, z, h => by cases h
  | n + 1, z, h => by
    unfold wsN at h
    rcases List.mem_append.mp h with h | h
    · exact wsN_bd kind l n z h
    · rw [List.mem_singleton.mp h]; exact wtV_bd _ _
def weightsF (t : T) (l : List Int) : List Int × List Int := wsN (nx l % 5) (t.length + 1) l.dropLast
def preWeights : ResT → List D → Sk → ResT → Prop := fun R ds r R' => ∃ (l : List Int) (t : T), TOk t ∧ R = rLst (l.map D.int) ∧ ds = [treeD t] ∧ r = .ow none (rLst ((weightsF t l).1.map D.int)) ∧ R' = rLst ((weightsF t l).2.map D.int)
section
variable {kind w : Int} {l : List Int}
theorem wtV_yes (h : decide (kind = 4) = true) : wtV kind l = ((someV l).getD (nx (l4V l) % 5).toNat 0 * sgV l, (l4V l).dropLast) := by
  unfold wtV
  rw [if_pos h]
theorem wtV_no (h : decide (kind = 4) = false) : wtV kind l = ((someV l).getD kind.toNat 0 * sgV l, l4V l) := by
  unfold wtV
  rw [if_neg (by rw [h]; exact nofun)]
theorem someV_at (h0 : 0 ≤ w) (h1 : w < 5) : L2.atI [D.int 1, D.int (nx l % 7 - 3), D.int (if decide (nx l.dropLast % 4 = 0) = true then 1 else 0), D.int (farW 3 l.dropLast.dropLast).1, D.int 0] w = some (.int ((someV l).getD w.toNat 0)) := at_ints (someV l) h0 h1
theorem sgV_at : L2.atI [D.int 1, D.int (-1)] (nx (l3W l) % 2) = some (.int (sgV l)) := at_ints [1, -1] (by omega) (by show nx (l3W l) % 2 < (2 : Int); omega)
theorem sgV_mul {X : Cx} {i : Int} : BinD X .Mult (.int i) (.int (sgV l)) (.int (i * sgV l)) := bd_mul (.inr (by rcases sgV_or l with e | e <;> rw [e] <;> decide))
end
theorem wsN_deck (kind : Int) (i : Nat) (l : List Int) : (wsN kind (i + 1) l).2 = (wtV kind (wsN kind i l).2).2 := rfl
theorem wsN_list (kind : Int) (i : Nat) (l : List Int) : (wsN kind (i + 1) l).1.map D.int = (wsN kind i l).1.map D.int ++ [.int (wtV kind (wsN kind i l).2).1] := by
  show ((wsN kind i l).1 ++ [_]).map D.int = _
  rw [List.map_append]
  rfl
/-- one weight for each place -/
structure WOk (t : T) (W : List Int) : Prop where
  len : W.length = t.length + 1
  bd : ∀ z ∈ W, -(2 ^ 63) < z ∧ z < 2 ^ 63
theorem weightsF_ok (t : T) (l : List Int) : WOk t (weightsF t l).1 := ⟨wsN_length _ _ _, wsN_bd _ _ _⟩
def preNeedW : List D → Sk → Prop := fun ds r => ∃ (t : T) (W : List Int), TOk t ∧ WOk t W ∧ ds = [treeD t, .lst (W.map D.int)] ∧ r = .im .non
def wgt (W : List Int) (q : Nat × Nat) : Int := W.getD q.1 0 * W.getD q.2 0
def preWeightOf : List D → Sk → Prop := fun ds r => ∃ (t : T) (W : List Int) (q : Nat × Nat), WOk t W ∧ q ∈ allP t ∧ ds = [.lst (W.map D.int), .tup [.int (q.1 : Nat), .int (q.2 : Nat)]] ∧ r = .im (.int (wgt W q))
theorem at_W {t : T} {W : List Int} (hW : WOk t W) {k : Nat} (h : k ≤ t.length) : L2.atI (W.map D.int) (k : Nat) = some (.int (W.getD k 0)) := at_intsD (by rw [hW.len]; omega)
theorem W_bd {t : T} {W : List Int} (hW : WOk t W) (k : Nat) : -(2 ^ 64) < W.getD k 0 ∧ W.getD k 0 < 2 ^ 64 := by
  rw [List.getD_eq_getElem?_getD]
  cases h : W[k]? with
  | none => exact ⟨by decide, by decide⟩
  | some z =>
    have := hW.bd z (List.mem_of_getElem? h)
    show -(2 ^ 64) < z ∧ z < 2 ^ 64
    omega
def wAdd (t : T) (W : List Int) (m : List (Int × Int)) (q : Nat × Nat) : List (Int × Int) := putZ m (far t q.1 q.2) ((getZ m (far t q.1 q.2)).getD 0 + wgt W q)
def wsum (t : T) (W : List Int) (l : List (Nat × Nat)) : List (Int × Int) := l.foldl (wAdd t W) []
theorem wsum_take {t : T} {W : List Int} {l : List (Nat × Nat)} {k : Nat} {q : Nat × Nat} (h : l[k]? = some q) : Zd (wsum t W (l.take (k + 1))) = putD (Zd (wsum t W (l.take k))) (.inl (far t q.1 q.2)) (.int ((getZ (wsum t W (l.take k)) (far t q.1 q.2)).getD 0 + wgt W q)) := by
  rw [put_Zd]
  unfold wsum
  rw [List.take_add_one, h, List.foldl_append]
  rfl
theorem wfold_len {t : T} {W : List Int} : ∀ (l : List (Nat × Nat)) (m : List (Int × Int)), (l.foldl (wAdd t W) m).length ≤ m.length + l.length
  | [], m => Nat.le_refl _
  | x :: r, m => by
    have h1 := wfold_len (t := t) (W := W) r (wAdd t W m x)
    have h2 := putZ_len m (far t x.1 x.2) ((getZ m (far t x.1 x.2)).getD 0 + wgt W x)
    show (r.foldl (wAdd t W) (wAdd t W m x)).length ≤ _
    rw [List.length_cons]
    unfold wAdd at h1 ⊢
    omega
theorem wsum_len {t : T} {W : List Int} (l : List (Nat × Nat)) : (wsum t W l).length ≤ l.length := by
  have := wfold_len (t := t) (W := W) l []
  simpa [wsum] using this
theorem wfold_nd {t : T} {W : List Int} : ∀ (l : List (Nat × Nat)) {m : List (Int × Int)}, (m.map (·.1)).Nodup → ((l.foldl (wAdd t W) m).map (·.1)).Nodup
  | [], _, h => h
  | _ :: r, _, h => wfold_nd r (keys_put h _ _)
theorem wsum_same {t : T} {W : List Int} (l : List (Nat × Nat)) : SameZ (wsum t W l) (wsum t W l) := ⟨rfl, fun _ hq => getZ_mem (wfold_nd (t := t) (W := W) l (m := []) List.nodup_nil) hq⟩
theorem Zd_key {m : List (Int × Int)} {x : Key} (h : x ∈ (Zd m).map (·.1)) : ∃ i n, x = .inl i ∧ getZ m i = some n := by
  unfold Zd at h
  rw [List.map_map] at h
  obtain ⟨q, hq, rfl⟩ := List.mem_map.mp h
  cases e : getZ m q.1 with
  | none => exact absurd e (getZ_key.mp (List.mem_map.mpr ⟨q, hq, rfl⟩))
  | some n => exact ⟨q.1, n, rfl, e⟩
def preByDist : List D → Sk → Prop := fun ds r => ∃ (t : T) (W : List Int), TOk t ∧ WOk t W ∧ ds = [treeD t, .lst (W.map D.int)] ∧ r = .ow none (rDk (Zd (wsum t W (allP t))))
def preLawPairs : List D → Sk → Prop := fun ds r => ∃ t, TOk t ∧ ds = [treeD t] ∧ r = .ow none (rLst ((allP t).map (prFar t)))
theorem rng_from_tree (t : T) (i : Nat) : rngD ((i : Nat) + 1) ((((t.map tupD).length : Nat) : Int) + 1 - ((i : Nat) + 1)).toNat = (List.range (t.length + 1 - (i + 1))).map fun j => D.int ((i + 1 + j : Nat) : Int) := by
  rw [List.length_map]
  exact rng_from i (t.length + 1)
theorem gd_two {t : T} {W : List Int} : (D.lst [treeD t, .lst (W.map D.int)]).good = true := (Gd.lst (n := 2) fun d hd => by
  rcases List.mem_cons.mp hd with rfl | hd
  · exact gd_tree t
  · rw [List.mem_singleton.mp hd]
    exact Gd.lstM fun _ _ => .int _).good (by decide)
end DL
namespace DL
open PySem PySem.Spec PyProof.Rows L2
/-! M19: pairs within bounds, weighed (k18) -/
theorem pairD_pr2 (q : Nat × Nat) : pairD q = pr2 ((q.1 : Int), (q.2 : Int)) := rfl
theorem ijs_lex (n : Nat) : ∀ k, (ijs n k).Pairwise fun a b => a.1 < b.1 ∨ (a.1 = b.1 ∧ a.2 < b.2)
  | 0 => by unfold ijs; simp
  | k + 1 => by
    rw [ijs_succ]
    refine List.pairwise_append.mpr ⟨ijs_lex n k, ?_, fun a ha b hb => ?_⟩
    · rw [List.pairwise_map]
      refine List.Pairwise.imp (fun {a b} (h : a < b) => ?_) (List.pairwise_lt_range (n := n - (k + 1)))
      exact .inr ⟨rfl, by show k + 1 + a < k + 1 + b; omega⟩
    · have h1 := (ijs_lt ha).1
      obtain ⟨j, _, rfl⟩ := List.mem_map.mp hb
      exact .inl h1
theorem from_lex (t : T) (a b : Int) : ((fromP t a b).map fun q => ((q.1 : Int), (q.2 : Int))).Pairwise fun a b => SrtO.lexB a b = true := by
  rw [List.pairwise_map]
  unfold fromP
  refine List.Pairwise.imp (fun {x y} h => ?_) ((ijs_lex (t.length + 1) (t.length + 1)).filter _)
  rw [SrtO.lexB_iff]
  rcases h with h | ⟨h1, h2⟩
  · exact .inl (by show (x.1 : Int) < y.1; omega)
  · exact .inr ⟨by show (x.1 : Int) = y.1; omega, by show (x.2 : Int) < y.2; omega⟩
theorem map_pr2 (l : List (Nat × Nat)) : l.map pairD = (l.map fun q => ((q.1 : Int), (q.2 : Int))).map pr2 := by
  rw [List.map_map]
  rfl
theorem cn_sortFrom {X : Cx} {t : T} {a b : Int} : CalN X (.builtin "sorted") [.lst ((fromP t a b).map pairD)] ((fromP t a b).map pairD) := by
  rw [map_pr2]
  exact cn_sortP (from_lex t a b)
def preWithin : List D → Sk → Prop := fun ds r => ∃ (t : T) (a b : Int), TOk t ∧ ds = [treeD t, .int a, .int b] ∧ r = .ow none (rLst ((fromP t a b).map pairD))
def wtot (W : List Int) (l : List (Nat × Nat)) : Int := (l.map (wgt W)).sum
theorem sum_wg {X : Cx} {W : List Int} {l : List (Nat × Nat)} (hc : X.calm = true) : CalD X (.builtin "sum") [.lst ((l.filter fun _ => true).map fun q => D.int (wgt W q))] (.int (wtot W l)) := by
  rw [List.filter_eq_self.mpr (fun _ _ => rfl), show (l.map fun q => D.int (wgt W q)) = (l.map (wgt W)).map D.int by rw [List.map_map]; rfl]
  exact ca_sum hc
def preWeightFrom : List D → Sk → Prop := fun ds r => ∃ (t : T) (W : List Int) (a b : Int), TOk t ∧ WOk t W ∧ 0 ≤ a ∧ a ≤ b ∧ ds = [treeD t, .lst (W.map D.int), .int a, .int b] ∧ r = .im (.int (wtot W (fromP t a b)))
/-- the greatest weight so far, with its pair -/
def bwD (W : List Int) : Option (Nat × Nat) → D
  | none => .non
  | some q => .tup [.int (wgt W q), .tup [.int (q.1 : Nat), .int (q.2 : Nat)]]
def bwI (W : List Int) : Option (Nat × Nat) → Int
  | none => 0
  | some q => wgt W q
def bwS (W : List Int) (o : Option (Nat × Nat)) (q : Nat × Nat) : Option (Nat × Nat) := if ((bwD W o).isN || decide (bwI W o < wgt W q)) = true then some q else o
def bwF (W : List Int) (l : List (Nat × Nat)) : Option (Nat × Nat) := l.foldl (bwS W) none
section
variable {t : T} {W : List Int} {o : Option (Nat × Nat)} {q : Nat × Nat} {l : List (Nat × Nat)} {a b : Int}
theorem bwD_clear : (bwD W o).clear = true := by cases o <;> rfl
theorem bwD_good : (bwD W o).good = true := by cases o <;> rfl
theorem ix_bw {X : Cx} (h : (bwD W o).isN = false) : IxD X (bwD W o) (.int 0) (.int (bwI W o)) := by
  cases o with
  | none => cases h
  | some q => exact ix_t (atI_nat (j := 0) rfl)
theorem bw_some (h : (bwD W o).isN = false) : ∃ q, o = some q := by
  cases o with
  | none => cases h
  | some q => exact ⟨q, rfl⟩
theorem bw_yes (h : ((bwD W o).isN || decide (bwI W o < wgt W q)) = true) : bwD W (bwS W o q) = .tup [.int (wgt W q), .tup [.int (q.1 : Nat), .int (q.2 : Nat)]] := by
  unfold bwS
  rw [if_pos h]
  rfl
theorem bw_no (h : ((bwD W o).isN || decide (bwI W o < wgt W q)) = false) : bwD W (bwS W o q) = bwD W o := by
  unfold bwS
  rw [if_neg (by rw [h]; exact nofun)]
theorem bwF_take {k : Nat} (h : l[k]? = some q) : bwF W (l.take (k + 1)) = bwS W (bwF W (l.take k)) q := by
  unfold bwF
  rw [List.take_add_one, h, List.foldl_append]
  rfl
theorem bwF_snoc : bwF W (l ++ [q]) = bwS W (bwF W l) q := by
  unfold bwF
  rw [List.foldl_append]
  rfl
theorem wtot_snoc : wtot W (l ++ [q]) = wtot W l + wgt W q := by
  unfold wtot
  rw [List.map_append, List.sum_append]
  simp
/-- of the first k pairs those within the bounds -/
def fromK (t : T) (a b : Int) (k : Nat) : List (Nat × Nat) := ((allP t).take k).filter fun q => (decide (a ≤ far t q.1 q.2) && decide (far t q.1 q.2 ≤ b))
theorem fromK_zero : fromK t a b 0 = [] := rfl
theorem fromK_all : fromK t a b (allP t).length = fromP t a b := by
  unfold fromK fromP
  rw [List.take_length]
theorem fromK_yes {k : Nat} (h : (allP t)[k]? = some q) (g : (decide (a ≤ far t q.1 q.2) && decide (far t q.1 q.2 ≤ b)) = true) : fromK t a b (k + 1) = fromK t a b k ++ [q] := by
  unfold fromK
  rw [List.take_add_one, h, List.filter_append]
  congr 1
  show List.filter _ [q] = [q]
  rw [List.filter_cons, if_pos g]
  rfl
theorem fromK_no {k : Nat} (h : (allP t)[k]? = some q) (g : (decide (a ≤ far t q.1 q.2) && decide (far t q.1 q.2 ≤ b)) = false) : fromK t a b (k + 1) = fromK t a b k := by
  unfold fromK
  rw [List.take_add_one, h, List.filter_append]
  show _ ++ List.filter _ [q] = _
  rw [List.filter_cons, if_neg (by rw [g]; exact nofun)]
  simp
theorem pD_get {k : Nat} {d : D} (h : (l.map pairD)[k]? = some d) : ∃ q, l[k]? = some q ∧ d = .tup [.int (q.1 : Nat), .int (q.2 : Nat)] := by
  rw [List.getElem?_map] at h
  obtain ⟨q, hq, rfl⟩ := Option.map_eq_some_iff.mp h
  exact ⟨q, hq, rfl⟩
theorem from_all (h : q ∈ fromP t a b) : q ∈ allP t := (List.mem_filter.mp h).1
end
def preGreatest : List D → Sk → Prop := fun ds r => ∃ (t : T) (W : List Int) (a b : Int), TOk t ∧ WOk t W ∧ 0 ≤ a ∧ a ≤ b ∧ ds = [treeD t, .lst (W.map D.int), .int a, .int b] ∧ r = .im (bwD W (bwF W (fromP t a b)))
def preIsBw : List D → Sk → Prop := fun ds r => ∃ (W : List Int) (o : Option (Nat × Nat)), ds = [bwD W o, bwD W o] ∧ r = .im (.bl true)
/-! drawn bounds -/
def bsW (l : List Int) (far : Int) : Int := max 0 (far + [0, 0, 1, -1].getD (nx l % 4).toNat 0 * (if decide (far < 10 ^ 14) = true then 1 else 0))
def preBesideW : ResT → List D → Sk → ResT → Prop := fun R ds r R' => ∃ (l : List Int) (far : Int), R = rLst (l.map D.int) ∧ ds = [.int far] ∧ r = .im (.int (bsW l far)) ∧ R' = rLst (l.dropLast.map D.int)
theorem bsW_nn (l : List Int) (far : Int) : 0 ≤ bsW l far := by unfold bsW; omega
theorem more_at {l : List Int} : L2.atI [D.int 0, D.int 0, D.int 1, D.int (-1)] (nx l % 4) = some (.int ([0, 0, 1, -1].getD (nx l % 4).toNat 0)) := at_ints [0, 0, 1, -1] (by omega) (by show nx l % 4 < (4 : Int); omega)
theorem more_mul {X : Cx} {i : Int} {k : Bool} : BinD X .Mult (.int i) (.int (if k = true then 1 else 0)) (.int (i * if k = true then 1 else 0)) := bd_mul (.inr (by cases k <;> decide))
/-- the numbers that bounds are drawn of -/
def bnL (t : T) (l : List Int) : List Int := (allP t).map (fun q => far t q.1 q.2) ++ [0, 1, nx l % 40]
def bnAt (t : T) (l m : List Int) : Int := (bnL t l).getD (nx m % ((bnL t l).length : Nat)).toNat 0
theorem bnL_eq (t : T) (l : List Int) : ((allP t).filter fun _ => true).map (fun q => D.int (far t q.1 q.2)) ++ [D.int 0, D.int 1, D.int (nx l % 40)] = (bnL t l).map D.int := by
  rw [List.filter_eq_self.mpr (fun _ _ => rfl)]
  unfold bnL
  rw [List.map_append, List.map_map]
  rfl
theorem bnL_len {t : T} (h : TOk t) (l : List Int) : (bnL t l).length ≤ 3603 ∧ 0 < (bnL t l).length := by
  have := allP_len h
  unfold bnL
  rw [List.length_append, List.length_map]
  show _ + 3 ≤ _ ∧ 0 < _ + 3
  omega
theorem bnL_cat {t : T} (h : TOk t) (l : List Int) : (((allP t).filter fun _ => true).map fun q => D.int (far t q.1 q.2)).length + [D.int 0, D.int 1, D.int (nx l % 40)].length ≤ 100000 := by
  have := allP_len h
  rw [List.filter_eq_self.mpr (fun _ _ => rfl), List.length_map]
  show _ + 3 ≤ _
  omega
theorem bn_at {t : T} (h : TOk t) (l m : List Int) : L2.atI ((bnL t l).map D.int) (nx m % (((bnL t l).map D.int).length : Nat)) = some (.int (bnAt t l m)) := by
  rw [List.length_map]
  have := (bnL_len h l).2
  exact at_ints _ (Int.emod_nonneg _ (by omega)) (Int.emod_lt_of_pos _ (by omega))
/-- the two bounds, in the order told -/
def bnOne (t : T) (l : List Int) : Int := bnAt t l l.dropLast
def bnTwo (t : T) (l : List Int) : Int := bnAt t l l.dropLast.dropLast
def bnX (t : T) (l : List Int) : Int := bsW l.dropLast.dropLast.dropLast (bnOne t l)
def bnY (t : T) (l : List Int) : Int := bsW l.dropLast.dropLast.dropLast.dropLast (bnTwo t l)
def bnRest (l : List Int) : List Int := l.dropLast.dropLast.dropLast.dropLast.dropLast
def bnLo (t : T) (l : List Int) : Int := min (bnX t l) (bnY t l)
def bnHi (t : T) (l : List Int) : Int := max (bnX t l) (bnY t l)
def bnPairs (t : T) (l : List Int) : List (Int × Int) := [(bnLo t l, bnHi t l), (0, bnHi t l), (bnLo t l, max (bnLo t l) (10 ^ 15 - 1)), (bnOne t l, bnOne t l), (0, 10 ^ 14)]
def bounds (t : T) (l : List Int) : Int × Int := (bnPairs t l).getD (nx (bnRest l) % 5).toNat (0, 0)
theorem bnAt_nn {t : T} (h : TOk t) (l m : List Int) : 0 ≤ bnAt t l m := by
  unfold bnAt
  have hl := (bnL_len h l).2
  have h1 := Int.emod_nonneg (nx m) (show ((bnL t l).length : Int) ≠ 0 by omega)
  have h2 := Int.emod_lt_of_pos (nx m) (show (0 : Int) < (bnL t l).length by omega)
  have key : ∀ z ∈ bnL t l, 0 ≤ z := fun z hz => by
    unfold bnL at hz
    rcases List.mem_append.mp hz with g | g
    · obtain ⟨q, hq, rfl⟩ := List.mem_map.mp g
      exact fars_nn h hq
    · simp only [List.mem_cons, List.not_mem_nil, or_false] at g
      rcases g with g | g | g <;> rw [g] <;> omega
  generalize nx m % ((bnL t l).length : Nat) = w at h1 h2
  rw [List.getD_eq_getElem?_getD, List.getElem?_eq_getElem (show w.toNat < (bnL t l).length by omega)]
  exact key _ (List.getElem_mem _)
theorem bounds_ok {t : T} (h : TOk t) (l : List Int) : 0 ≤ (bounds t l).1 ∧ (bounds t l).1 ≤ (bounds t l).2 := by
  have x := bsW_nn l.dropLast.dropLast.dropLast (bnOne t l)
  have y := bsW_nn l.dropLast.dropLast.dropLast.dropLast (bnTwo t l)
  have o : 0 ≤ bnOne t l := bnAt_nn h _ _
  unfold bounds bnPairs bnLo bnHi bnX bnY
  have : nx (bnRest l) % 5 = 0 ∨ nx (bnRest l) % 5 = 1 ∨ nx (bnRest l) % 5 = 2 ∨ nx (bnRest l) % 5 = 3 ∨ nx (bnRest l) % 5 = 4 := by omega
  rcases this with e | e | e | e | e <;> rw [e]
  · show 0 ≤ min _ _ ∧ min _ _ ≤ max _ _; omega
  · show 0 ≤ (0 : Int) ∧ (0 : Int) ≤ max _ _; omega
  · show 0 ≤ min _ _ ∧ min _ _ ≤ max (min _ _) _; omega
  · exact ⟨o, Int.le_refl _⟩
  · show (0 : Int) ≤ 0 ∧ (0 : Int) ≤ 10 ^ 14; decide
def two (q : Int × Int) : D := .lst [.int q.1, .int q.2]
theorem bounds_at {t : T} {l : List Int} : L2.atI [D.lst [.int (bnLo t l), .int (bnHi t l)], D.lst [.int 0, .int (bnHi t l)], D.lst [.int (bnLo t l), .int (max (bnLo t l) (10 ^ 15 - 1))], D.lst [.int (bnOne t l), .int (bnOne t l)], D.lst [.int 0, .int (10 ^ 14)]] (nx (bnRest l) % 5) = some (two (bounds t l)) := by
  have : nx (bnRest l) % 5 = 0 ∨ nx (bnRest l) % 5 = 1 ∨ nx (bnRest l) % 5 = 2 ∨ nx (bnRest l) % 5 = 3 ∨ nx (bnRest l) % 5 = 4 := by omega
  unfold bounds bnPairs
  rcases this with e | e | e | e | e <;> rw [e] <;> rfl
def preBoundsW : ResT → List D → Sk → ResT → Prop := fun R ds r R' => ∃ (l : List Int) (t : T), TOk t ∧ R = rLst (l.map D.int) ∧ ds = [.lst ((allP t).map (prFar t))] ∧ r = .im (two (bounds t l)) ∧ R' = rLst ((bnRest l).dropLast.map D.int)
end DL
namespace DL
open PySem PySem.Spec PyProof.Rows L2
/-! M20: pairs by their number (k22) -/
theorem Room.units65 {k : Nat} {A : Around} (r : Room k A) : A.units + 65 < cLine := by
  have := r.un
  omega
def srtP (t : T) : List (Nat × Nat) := (allP t).mergeSort (PySem.W.dataLe false fun q => (prFar t q).py)
theorem srt_eq (t : T) : sortD ((allP t).map (prFar t)) = (srtP t).map (prFar t) := by
  unfold sortD srtP
  exact (List.map_mergeSort (f := prFar t) (r := PySem.W.dataLe false fun q => (prFar t q).py) (s := PySem.W.dataLe false D.py) fun a _ b _ => rfl).symm
theorem srt_perm (t : T) : (srtP t).Perm (allP t) := List.mergeSort_perm _ _
theorem srt_len (t : T) : (srtP t).length = (allP t).length := (srt_perm t).length_eq
theorem allP_nd (t : T) : (allP t).Nodup := by
  refine List.Pairwise.imp (fun {a b} h e => ?_) (ijs_lex (t.length + 1) (t.length + 1))
  subst e
  rcases h with h | ⟨_, h⟩ <;> omega
theorem srt_nd (t : T) : (srtP t).Nodup := (srt_perm t).nodup_iff.mpr (allP_nd t)
theorem srt_mem {t : T} {q : Nat × Nat} (h : q ∈ srtP t) : q ∈ allP t := (srt_perm t).mem_iff.mp h
theorem prFar_alike (t : T) (a b : Nat × Nat) : PySem.W.alike (prFar t a).py (prFar t b).py = true := by
  simp [prFar, D.py, D.pyA, PySem.W.alike, PySem.W.alikeAll]
theorem prFar_deep (t : T) (a : Nat × Nat) : (prFar t a).py.depth ≤ 60 := by
  simp [prFar, D.py, D.pyA, PyData.depth, PyData.depthAll]
theorem srt_ok (t : T) : SOk ((allP t).map (prFar t)) := by
  refine ⟨fun d hd => ?_, ?_, ?_, fun d hd => ?_⟩
  · obtain ⟨q, _, rfl⟩ := List.mem_map.mp hd
    rfl
  · rw [List.map_map]
    exact PySem.W.AllAlike.of (prFar_alike t)
  · rw [List.map_map]
    exact PySem.W.Sortable.tuples fun q => ⟨_, _, rfl⟩
  · obtain ⟨q, _, rfl⟩ := List.mem_map.mp hd
    exact prFar_deep t q
theorem cn_srt {X : Cx} {t : T} (hu : X.A.units + 64 < cLine) : CalN X (.builtin "sorted") [.lst ((allP t).map (prFar t))] ((srtP t).map (prFar t)) := by
  rw [← srt_eq]
  exact cn_sortD hu (srt_ok t)
theorem cn_srt' {X : Cx} {t : T} (hu : X.A.units + 64 < cLine) : CalN X (.builtin "sorted") [.lst (prs t (t.length + 1) (t.length + 1))] ((srtP t).map (prFar t)) := by
  rw [prs_all]
  exact cn_srt hu
theorem eqv_pair {a b : Nat × Nat} (h : a ≠ b) : (pairD a).eqv (pairD b) = false := by
  obtain ⟨a1, a2⟩ := a
  obtain ⟨b1, b2⟩ := b
  have e : (pairD (a1, a2)).eqv (pairD (b1, b2)) = ((a1 : Int) == (b1 : Int) && ((a2 : Int) == (b2 : Int) && true)) := by
    simp [D.eqv, pairD, D.py, D.pyA, PyData.eqv, PyData.eqvAll]
  rw [e]
  by_cases h1 : a1 = b1
  · have h2 : a2 ≠ b2 := fun z => h (by rw [h1, z])
    have : ((a2 : Int) == (b2 : Int)) = false := beq_false_of_ne fun z => h2 (by omega)
    rw [this]
    simp
  · have : ((a1 : Int) == (b1 : Int)) = false := beq_false_of_ne fun z => h1 (by omega)
    rw [this]
    rfl
theorem mt_number {X : Cx} {t : T} {n : Nat} {q : Nat × Nat} (hu : X.A.units + 65 < cLine) (h : (srtP t)[n]? = some q) : MtV X "list" "list.index" (.lst (((srtP t).filter fun _ => true).map pairD)) [pairD q] (.int (n : Nat)) := by
  rw [List.filter_eq_self.mpr (fun _ _ => rfl)]
  refine mt_idxD hu (gd_pairs _) rfl (by rw [List.getElem?_map, h]; rfl) (fun m y hm hy => ?_) (D.eqv_refl _)
  rw [List.getElem?_map] at hy
  obtain ⟨z, hz, rfl⟩ := Option.map_eq_some_iff.mp hy
  refine eqv_pair fun e => ?_
  subst e
  have hn := srt_nd t
  have := (List.getElem?_inj (List.getElem?_eq_some_iff.mp hz).1 hn).mp (hz.trans h.symm)
  omega
def preOneBy : List D → Sk → Prop := fun ds r => ∃ (t : T) (l : List (Nat × Nat)) (n : Nat) (q : Nat × Nat), l[n]? = some q ∧ ds = [.lst (l.map (prFar t)), .int (n : Nat)] ∧ r = .im (pairD q)
def preNth : List D → Sk → Prop := fun ds r => ∃ (t : T) (n : Nat) (q : Nat × Nat), TOk t ∧ (srtP t)[n]? = some q ∧ ds = [treeD t, .int (n : Nat)] ∧ r = .im (pairD q)
def preNumber : List D → Sk → Prop := fun ds r => ∃ (t : T) (n : Nat) (q : Nat × Nat), TOk t ∧ (srtP t)[n]? = some q ∧ ds = [treeD t, pairD q] ∧ r = .im (.int (n : Nat))
def preNeedPair : List D → Sk → Prop := fun ds r => ∃ (t : T) (q : Nat × Nat), TOk t ∧ q ∈ allP t ∧ ds = [treeD t, pairD q] ∧ r = .im .non
theorem prFar_at {t : T} {l : List (Nat × Nat)} {n : Nat} {q : Nat × Nat} (h : l[n]? = some q) : L2.atI (l.map (prFar t)) (n : Nat) = some (prFar t q) := by
  refine atI_nat ?_
  rw [List.getElem?_map, h]
  rfl
theorem pairD_at {l : List (Nat × Nat)} {n : Nat} {q : Nat × Nat} (h : l[n]? = some q) : L2.atI (l.map pairD) (n : Nat) = some (pairD q) := by
  refine atI_nat ?_
  rw [List.getElem?_map, h]
  rfl
/-- numbers drawn of a deck -/
def nxsR (m : Int) : Nat → List Int → List Int × List Int
  | 0, l => ([], l)
  | k + 1, l => ((nxsR m k l).1 ++ [nx (nxsR m k l).2 % m], (nxsR m k l).2.dropLast)
@[irreducible] def nxs (m : Int) (k : Nat) (l : List Int) : List Int × List Int := nxsR m k l
theorem nxs_zero (m : Int) (l : List Int) : nxs m 0 l = ([], l) := by unfold nxs; rfl
theorem nxs_succ (m : Int) (k : Nat) (l : List Int) : nxs m (k + 1) l = ((nxs m k l).1 ++ [nx (nxs m k l).2 % m], (nxs m k l).2.dropLast) := by unfold nxs; rfl
theorem nxs_snoc (m : Int) (k : Nat) (l : List Int) : (nxs m (k + 1) l).1.map D.int = (nxs m k l).1.map D.int ++ [.int (nx (nxs m k l).2 % m)] := by
  rw [nxs_succ, List.map_append]
  rfl
theorem nxs_deck (m : Int) (k : Nat) (l : List Int) : (nxs m (k + 1) l).2 = (nxs m k l).2.dropLast := by rw [nxs_succ]
theorem nxs_in {m : Int} (h : 1 ≤ m) (l : List Int) : ∀ (k : Nat) (z : Int), z ∈ (nxs m k l).1 → 0 ≤ z ∧ z < m
  | 0, z, hz => by rw [nxs_zero] at hz; cases hz
  | k + 1, z, hz => by
    rw [nxs_succ] at hz
    rcases List.mem_append.mp hz with hz | hz
    · exact nxs_in h l k z hz
    · rw [List.mem_singleton.mp hz]
      exact ⟨Int.emod_nonneg _ (by omega), Int.emod_lt_of_pos _ (by omega)⟩
theorem nxs_length (m : Int) (l : List Int) : ∀ k, (nxs m k l).1.length = k
  | 0 => by rw [nxs_zero]; rfl
  | k + 1 => by
    rw [nxs_succ, List.length_append, nxs_length m l k]
    rfl
/-- numbers, each of a pair that there is -/
def NumOk (t : T) (l : List Int) : Prop := l.length ≤ 16 ∧ ∀ z ∈ l, 0 ≤ z ∧ z < ((allP t).length : Int)
theorem NumOk.get {t : T} {l : List Int} (h : NumOk t l) {k : Nat} {d : D} (e : (l.map D.int)[k]? = some d) : ∃ (n : Nat) (q : Nat × Nat), (srtP t)[n]? = some q ∧ d = .int (n : Nat) := by
  obtain ⟨x, hx, rfl⟩ := ints_at e
  have b := h.2 x (List.mem_of_getElem? hx)
  have lt : x.toNat < (srtP t).length := by rw [srt_len]; omega
  exact ⟨x.toNat, _, List.getElem?_eq_getElem lt, by rw [Int.toNat_of_nonneg b.1]⟩
theorem NumOk.range {t : T} (h : (allP t).length ≤ 15) : NumOk t ((List.range (allP t).length).map fun k => ((k : Nat) : Int)) := by
  refine ⟨by rw [List.length_map, List.length_range]; omega, fun z hz => ?_⟩
  obtain ⟨k, hk, rfl⟩ := List.mem_map.mp hz
  have := List.mem_range.mp hk
  omega
theorem NumOk.drawn {t : T} (h : 15 < (allP t).length) (l : List Int) : NumOk t ([0, 1, ((allP t).length : Int) - 2, ((allP t).length : Int) - 1] ++ (nxs ((allP t).length : Nat) 10 l).1) := by
  refine ⟨by rw [List.length_append, nxs_length]; show 4 + 10 ≤ 16; decide, fun z hz => ?_⟩
  rcases List.mem_append.mp hz with g | g
  · simp only [List.mem_cons, List.not_mem_nil, or_false] at g
    omega
  · exact nxs_in (by omega) l 10 z g
theorem cutD_ints (l : List Int) (lo hi : Option Int) : ∃ m : List Int, cutD (l.map D.int) lo hi = m.map D.int := by
  unfold cutD
  exact ⟨(l.drop _).take _, by rw [← List.map_drop, ← List.map_take]⟩
theorem num_rng {t : T} {n : Nat} (h : n = (allP t).length) (hs : decide ((15 : Int) < (n : Nat)) = false) : ∃ nl, NumOk t nl ∧ ((List.range ((n : Nat) : Int).toNat).map fun k => D.int ((k : Nat) : Int)) = nl.map D.int := by
  have h' := of_decide_eq_false hs
  subst h
  exact ⟨_, NumOk.range (by omega), by rw [Int.toNat_natCast, List.map_map]; rfl⟩
theorem num_drw {t : T} {n : Nat} (h : n = (allP t).length) (hs : decide ((15 : Int) < (n : Nat)) = true) (l : List Int) : ∃ nl, NumOk t nl ∧ [D.int 0, D.int 1, D.int (((n : Nat) : Int) - 2), D.int (((n : Nat) : Int) - 1)] ++ (nxs ((n : Nat) : Int) 10 l).1.map D.int = nl.map D.int := by
  have h' := of_decide_eq_true hs
  subst h
  exact ⟨_, NumOk.drawn (by omega) l, by rw [List.map_append]; rfl⟩
theorem filt_all {α : Type} (l : List α) : (l.filter fun _ => true) = l := List.filter_eq_self.mpr (fun _ _ => rfl)
end DL
namespace DL
open PySem PySem.Spec PyProof.Rows L2
/-! M29: pairs sorted by a number ahead of the pair (k25) -/
def lexP (a b : Nat × Nat) : Prop := a.1 < b.1 ∨ (a.1 = b.1 ∧ a.2 < b.2)
def ltK (f : Nat × Nat → Int) (a b : Nat × Nat) : Prop := f a < f b ∨ (f a = f b ∧ lexP a b)
def prK (f : Nat × Nat → Int) (q : Nat × Nat) : D := .tup [.int (f q), .tup [.int (q.1 : Nat), .int (q.2 : Nat)]]
def farP (t : T) (q : Nat × Nat) : Int := far t q.1 q.2
def srtK (f : Nat × Nat → Int) (l : List (Nat × Nat)) : List (Nat × Nat) := l.mergeSort (PySem.W.dataLe false fun q => (prK f q).py)
theorem prK_py (f : Nat × Nat → Int) (q : Nat × Nat) : (prK f q).py = .tuple [.int (f q), .tuple [.int (q.1 : Nat), .int (q.2 : Nat)]] := by
  simp [prK, D.py, D.pyA]
theorem ltK_iff (f : Nat × Nat → Int) (a b : Nat × Nat) : PySem.W.dataLt (prK f a).py (prK f b).py = true ↔ ltK f a b := by
  rw [prK_py, prK_py, PySem.W.dataLt_pair (by simp [PySem.W.alike]) (by simp [PySem.W.alike, PySem.W.alikeAll]), PySem.W.dataLt_int, PySem.W.dataLt_ii]
  unfold ltK lexP
  simp only [PyData.eqv, PyData.eqvAll, Bool.and_true, beq_iff_eq, Bool.and_eq_true]
  by_cases h1 : f a = f b <;> by_cases h2 : a.1 = b.1 <;> by_cases h3 : a.2 = b.2 <;> simp [h1, h2, h3] <;> omega
theorem leK (f : Nat × Nat → Int) (a b : Nat × Nat) : PySem.W.dataLe false (fun q => (prK f q).py) a b = true ↔ ¬ ltK f b a := by
  show (!PySem.W.dataLt (prK f b).py (prK f a).py) = true ↔ _
  rw [← ltK_iff f b a]
  cases PySem.W.dataLt (prK f b).py (prK f a).py <;> simp
theorem ltK_tri {f : Nat × Nat → Int} {a b : Nat × Nat} (ne : a ≠ b) (h : ¬ ltK f b a) : ltK f a b := by
  unfold ltK lexP at *
  have : ¬ (a.1 = b.1 ∧ a.2 = b.2) := fun z => ne (Prod.ext z.1 z.2)
  omega
theorem ltK_as {f : Nat × Nat → Int} (a b : Nat × Nat) (h : ltK f a b) (h' : ltK f b a) : False := by
  unfold ltK lexP at *
  omega
theorem srtK_perm (f : Nat × Nat → Int) (l : List (Nat × Nat)) : (srtK f l).Perm l := List.mergeSort_perm _ _
theorem srtK_pw {f : Nat × Nat → Int} {l : List (Nat × Nat)} (nd : l.Nodup) : (srtK f l).Pairwise (ltK f) := by
  have h1 : (srtK f l).Pairwise fun a b => PySem.W.dataLe false (fun q => (prK f q).py) a b = true := by
    refine List.pairwise_mergeSort (fun a b c h1 h2 => ?_) (fun a b => ?_) l
    · rw [leK] at *
      unfold ltK lexP at *
      omega
    · rw [Bool.or_eq_true, leK, leK]
      by_cases h : ltK f b a
      · exact .inr fun h' => ltK_as _ _ h h'
      · exact .inl h
  have h2 : (srtK f l).Pairwise (· ≠ ·) := ((srtK_perm f l).nodup_iff).mpr nd
  exact List.Pairwise.imp (fun ⟨x, y⟩ => ltK_tri y ((leK f _ _).mp x)) (List.Pairwise.and h1 h2)
theorem sort_uniq {α : Type} {R : α → α → Prop} (as : ∀ a b, R a b → R b a → False) : ∀ {l1 l2 : List α}, l1.Pairwise R → l2.Pairwise R → l1.Perm l2 → l1 = l2
  | [], l2, _, _, p => (List.nil_perm.mp p).symm
  | a :: l1, [], _, _, p => by
    have := p.length_eq
    simp at this
  | a :: l1, b :: l2, h1, h2, p => by
    have q1 := List.pairwise_cons.mp h1
    have q2 := List.pairwise_cons.mp h2
    have m1 : a ∈ b :: l2 := p.mem_iff.mp (List.mem_cons_self ..)
    have m2 : b ∈ a :: l1 := p.mem_iff.mpr (List.mem_cons_self ..)
    have e : a = b := by
      rcases List.mem_cons.mp m1 with e | m1
      · exact e
      rcases List.mem_cons.mp m2 with e | m2
      · exact e.symm
      exact (as a b (q1.1 b m2) (q2.1 a m1)).elim
    subst e
    rw [sort_uniq as q1.2 q2.2 (List.Perm.cons_inv p)]
theorem split_mono {α : Type} {R : α → α → Prop} {p : α → Bool} (h : ∀ a b, R a b → p b = true → p a = true) : ∀ {l : List α}, l.Pairwise R → l = l.filter p ++ l.filter fun x => !p x
  | [], _ => rfl
  | a :: l, hl => by
    have q := List.pairwise_cons.mp hl
    have ih := split_mono h q.2
    cases e : p a with
    | true =>
      rw [List.filter_cons_of_pos e, List.filter_cons_of_neg (by rw [e]; simp), List.cons_append, ← ih]
    | false =>
      have none : ∀ b ∈ l, p b = false := fun b hb => by
        cases e' : p b with
        | false => rfl
        | true => rw [h a b (q.1 b hb) e'] at e; cases e
      have e1 : l.filter p = [] := List.filter_eq_nil_iff.mpr fun b hb => by rw [none b hb]; exact Bool.false_ne_true
      have e2 : l.filter (fun x => !p x) = l := List.filter_eq_self.mpr fun b hb => by rw [none b hb]; rfl
      rw [List.filter_cons_of_neg (by rw [e]; exact Bool.false_ne_true), List.filter_cons_of_pos (by rw [e]; rfl), e1, e2]
      rfl
theorem srtK_of {f : Nat × Nat → Int} {l : List (Nat × Nat)} (nd : l.Nodup) {m : List (Nat × Nat)} (p : m.Perm l) (h : m.Pairwise (ltK f)) : srtK f l = m := sort_uniq ltK_as (srtK_pw nd) h ((srtK_perm f l).trans p.symm)
theorem srtK_filter {f : Nat × Nat → Int} {l : List (Nat × Nat)} (nd : l.Nodup) (p : Nat × Nat → Bool) : srtK f (l.filter p) = (srtK f l).filter p := srtK_of (nd.filter _) ((srtK_perm f l).filter p) ((srtK_pw nd).filter _)
theorem srtK_twice {f : Nat × Nat → Int} {l : List (Nat × Nat)} (nd : l.Nodup) : srtK f (srtK f l) = srtK f l := srtK_of (((srtK_perm f l).nodup_iff).mpr nd) (.refl _) (srtK_pw nd)
theorem allP_lex (t : T) : (allP t).Pairwise lexP := ijs_lex _ _
theorem srtP_K (t : T) : srtP t = srtK (farP t) (allP t) := rfl
/-- pairs all alike far stay as they stand -/
theorem srtK_alike {f : Nat × Nat → Int} {t : T} {p : Nat × Nat → Bool} {c : Int} (h : ∀ q ∈ allP t, p q = true → f q = c) : srtK f ((allP t).filter p) = (allP t).filter p := by
  refine srtK_of ((allP_nd t).filter _) (.refl _) ?_
  have h1 : ((allP t).filter p).Pairwise lexP := (allP_lex t).filter _
  refine List.Pairwise.imp_of_mem (fun {a b} ma mb r => .inr ⟨?_, r⟩) h1
  have a1 := List.mem_filter.mp ma
  have b1 := List.mem_filter.mp mb
  rw [h a a1.1 a1.2, h b b1.1 b1.2]
/-- how many are nearer -/
def nearN (t : T) (a : Int) : Nat := ((allP t).filter fun q => decide (farP t q < a)).length
theorem near_srt (t : T) (a : Int) : ((srtP t).filter fun q => decide (farP t q < a)).length = nearN t a := ((srt_perm t).filter _).length_eq
theorem near_from {t : T} (h : TOk t) {x : Int} : (fromP t 0 (x - 1)).length = nearN t x := by
  unfold fromP nearN
  refine congrArg List.length (List.filter_congr fun q hq => ?_)
  have b := allP_lt hq
  have n : 0 ≤ far t q.1 q.2 := far_nn' h (by omega) (by omega)
  show (decide (0 ≤ far t q.1 q.2) && decide (far t q.1 q.2 ≤ x - 1)) = decide (far t q.1 q.2 < x)
  rw [decide_eq_true n, Bool.true_and]
  exact decide_eq_decide.mpr (by omega)
theorem near_none {t : T} (h : TOk t) {x : Int} (hx : x ≤ 0) : nearN t x = 0 := by
  unfold nearN
  rw [List.length_eq_zero_iff, List.filter_eq_nil_iff]
  intro q hq
  have b := allP_lt hq
  have n : 0 ≤ far t q.1 q.2 := far_nn' h (by omega) (by omega)
  show ¬ decide (far t q.1 q.2 < x) = true
  rw [decide_eq_true_eq]
  omega
theorem srtP_pw (t : T) : (srtP t).Pairwise (ltK (farP t)) := srtK_pw (allP_nd t)
theorem ltK_le {f : Nat × Nat → Int} {a b : Nat × Nat} (h : ltK f a b) : f a ≤ f b := by
  unfold ltK at h
  omega
/-- those from a on, of the sorted list -/
theorem srtP_cut (t : T) (a b : Int) (hab : a ≤ b) : srtP t = (srtP t).filter (fun q => decide (farP t q < a)) ++ ((srtP t).filter (fun q => (decide (a ≤ farP t q) && decide (farP t q ≤ b))) ++ (srtP t).filter (fun q => decide (b < farP t q))) := by
  have s1 := split_mono (R := ltK (farP t)) (p := fun q => decide (farP t q < a)) (fun x y r hy => by
    have := ltK_le r
    have hy := of_decide_eq_true hy
    exact decide_eq_true (by omega)) (srtP_pw t)
  have s2 := split_mono (R := ltK (farP t)) (p := fun q => decide (farP t q ≤ b)) (fun x y r hy => by
    have := ltK_le r
    have hy := of_decide_eq_true hy
    exact decide_eq_true (by omega)) ((srtP_pw t).filter fun q => !decide (farP t q < a))
  rw [List.filter_filter, List.filter_filter] at s2
  have e1 : ((srtP t).filter fun q => (decide (farP t q ≤ b) && !decide (farP t q < a))) = (srtP t).filter fun q => (decide (a ≤ farP t q) && decide (farP t q ≤ b)) := List.filter_congr fun q _ => by
    rw [Bool.and_comm]
    congr 1
    by_cases h : farP t q < a
    · rw [decide_eq_true h, decide_eq_false (by omega)]; rfl
    · rw [decide_eq_false h, decide_eq_true (by omega)]; rfl
  have e2 : ((srtP t).filter fun q => (!decide (farP t q ≤ b) && !decide (farP t q < a))) = (srtP t).filter fun q => decide (b < farP t q) := List.filter_congr fun q _ => by
    by_cases h : b < farP t q
    · rw [decide_eq_true h, decide_eq_false (by omega), decide_eq_false (by omega)]; rfl
    · rw [decide_eq_false h, decide_eq_true (p := farP t q ≤ b) (by omega)]; rfl
  rw [e1, e2] at s2
  rw [← s2]
  exact s1
theorem srtP_from (t : T) (a b : Int) : (srtP t).filter (fun q => (decide (a ≤ farP t q) && decide (farP t q ≤ b))) = srtK (farP t) (fromP t a b) := (srtK_filter (allP_nd t) _).symm
theorem srtP_at (t : T) (x : Int) : (srtP t).filter (fun q => (decide (x ≤ farP t q) && decide (farP t q ≤ x))) = atP t x := by
  rw [srtP_from]
  have e : fromP t x x = atP t x := List.filter_congr fun q _ => by
    by_cases h : far t q.1 q.2 = x
    · rw [h]; simp
    · rw [decide_eq_false h]
      by_cases h2 : x ≤ far t q.1 q.2
      · rw [decide_eq_true h2, decide_eq_false (by omega)]; rfl
      · rw [decide_eq_false h2]; rfl
  rw [e]
  exact srtK_alike (c := x) fun q _ h => of_decide_eq_true h
/-- the pair of a number among those as far -/
theorem srtP_get {t : T} {n : Nat} {q : Nat × Nat} (h : (srtP t)[n]? = some q) : ∃ k, n = nearN t (farP t q) + k ∧ (atP t (farP t q))[k]? = some q := by
  have c := srtP_cut t (farP t q) (farP t q) (Int.le_refl _)
  rw [srtP_at] at c
  have hn := near_srt t (farP t q)
  have m := List.getElem?_of_mem (show q ∈ atP t (farP t q) from List.mem_filter.mpr ⟨srt_mem (List.mem_of_getElem? h), decide_eq_true rfl⟩)
  obtain ⟨k, hk⟩ := m
  have hkl := (List.getElem?_eq_some_iff.mp hk).1
  have e : (srtP t)[nearN t (farP t q) + k]? = some q := by
    rw [c, List.getElem?_append_right (by omega), hn, Nat.add_sub_cancel_left, List.getElem?_append_left hkl]
    exact hk
  have := (List.getElem?_inj (List.getElem?_eq_some_iff.mp h).1 (srt_nd t)).mp (h.trans e.symm)
  exact ⟨k, this, hk⟩
/-- the n-th of those from a to b -/
theorem srtP_nth {t : T} {a b : Int} (hab : a ≤ b) {n : Nat} (hn : n < (fromP t a b).length) : ∃ q, (srtK (farP t) (fromP t a b))[n]? = some q ∧ (srtP t)[nearN t a + n]? = some q := by
  have hl : n < (srtK (farP t) (fromP t a b)).length := by rw [(srtK_perm _ _).length_eq]; exact hn
  refine ⟨_, List.getElem?_eq_getElem hl, ?_⟩
  rw [srtP_cut t a b hab, srtP_from, List.getElem?_append_right (by rw [near_srt]; omega), near_srt, Nat.add_sub_cancel_left, List.getElem?_append_left hl]
  exact List.getElem?_eq_getElem hl
/-- the list that nth_from takes its pair of -/
def nfK (t : T) (fl : Bool) (q : Nat × Nat) : Int := if fl then 0 - farP t q else farP t q
def nfL (t : T) (a b : Int) (fl : Bool) : List (Nat × Nat) := srtK (nfK t fl) (fromP t a b)
theorem from_nd (t : T) (a b : Int) : (fromP t a b).Nodup := (allP_nd t).filter _
theorem nfL_at (t : T) (x : Int) (fl : Bool) : nfL t x x fl = atP t x := by
  unfold nfL
  have e : fromP t x x = atP t x := by
    refine List.filter_congr fun q _ => ?_
    by_cases h : far t q.1 q.2 = x
    · rw [h]; simp
    · rw [decide_eq_false h]
      by_cases h2 : x ≤ far t q.1 q.2
      · rw [decide_eq_true h2, decide_eq_false (by omega)]; rfl
      · rw [decide_eq_false h2]; rfl
  rw [e]
  refine srtK_alike (c := if fl then 0 - x else x) fun q _ h => ?_
  have h : farP t q = x := of_decide_eq_true h
  unfold nfK
  rw [h]
/-- the farthest ones lead, if the far ones are asked first -/
theorem nfL_last {t : T} {a b : Int} (hab : a ≤ b) {n : Nat} (hn : n + 1 = (fromP t a b).length) {q : Nat × Nat} (h : (srtP t)[nearN t a + n]? = some q) {k : Nat} {z : Nat × Nat} (hz : (atP t (farP t q))[k]? = some z) : (nfL t a b true)[k]? = some z := by
  obtain ⟨q', h1, h2⟩ := srtP_nth (t := t) hab (n := n) (by omega)
  rw [h] at h2
  cases h2
  have hql : q ∈ fromP t a b := (srtK_perm _ _).mem_iff.mp (List.mem_of_getElem? h1)
  have hqi := List.mem_filter.mp hql
  have hqb := Bool.and_eq_true_iff.mp hqi.2
  have hq1 : a ≤ farP t q := of_decide_eq_true hqb.1
  have hq2 : farP t q ≤ b := of_decide_eq_true hqb.2
  have top : ∀ y ∈ fromP t a b, farP t y ≤ farP t q := fun y hy => by
    obtain ⟨j, hj⟩ := List.getElem?_of_mem ((srtK_perm (farP t) _).mem_iff.mpr hy)
    have hjl := (List.getElem?_eq_some_iff.mp hj).1
    rw [(srtK_perm _ _).length_eq] at hjl
    have pw := srtK_pw (f := farP t) (from_nd t a b)
    by_cases e : j = n
    · subst e
      rw [hj] at h1
      cases h1
      exact Int.le_refl _
    · obtain ⟨l1, e1⟩ := List.getElem?_eq_some_iff.mp hj
      obtain ⟨l2, e2⟩ := List.getElem?_eq_some_iff.mp h1
      have := List.pairwise_iff_getElem.mp pw j n l1 l2 (by omega)
      rw [e1, e2] at this
      exact ltK_le this
  have s := split_mono (R := ltK (nfK t true)) (p := fun y => decide (nfK t true y ≤ nfK t true q)) (fun x y r hy => by
    have := ltK_le r
    have hy := of_decide_eq_true hy
    exact decide_eq_true (by omega)) (srtK_pw (from_nd t a b))
  have e : (nfL t a b true).filter (fun y => decide (nfK t true y ≤ nfK t true q)) = atP t (farP t q) := by
    unfold nfL
    rw [← srtK_filter (from_nd t a b)]
    have e2 : (fromP t a b).filter (fun y => decide (nfK t true y ≤ nfK t true q)) = (allP t).filter fun y => decide (farP t y = farP t q) := by
      unfold fromP
      rw [List.filter_filter]
      refine List.filter_congr fun y hy => ?_
      have hw : ∀ y, nfK t true y = 0 - farP t y := fun y => rfl
      rw [hw, hw]
      by_cases c : farP t y = farP t q
      · have c1 : (decide (a ≤ far t y.1 y.2) && decide (far t y.1 y.2 ≤ b)) = true := by
          have : far t y.1 y.2 = farP t q := c
          rw [this, decide_eq_true hq1, decide_eq_true hq2]
          rfl
        rw [c1, c, decide_eq_true (by omega), decide_eq_true rfl]
        rfl
      · rw [decide_eq_false c]
        cases c1 : (decide (a ≤ far t y.1 y.2) && decide (far t y.1 y.2 ≤ b)) with
        | false => rw [Bool.and_false]
        | true =>
          have := top y (List.mem_filter.mpr ⟨hy, c1⟩)
          rw [decide_eq_false (by omega)]
          rfl
    rw [e2]
    refine srtK_alike (c := nfK t true q) fun y _ h => ?_
    have h : farP t y = farP t q := of_decide_eq_true h
    show 0 - farP t y = 0 - farP t q
    rw [h]
  show (srtK (nfK t true) (fromP t a b))[k]? = some z
  rw [s]
  change (nfL t a b true).filter _ = _ at e
  unfold nfL at e
  rw [e, List.getElem?_append_left (List.getElem?_eq_some_iff.mp hz).1]
  exact hz
/-! ### lengths made shorter, made longer -/
def modT (t : T) : T := t.map fun q => (q.1, q.2 % 10 ^ 13)
def tenT (t : T) : T := t.map fun q => (q.1, q.2 / 10)
def longT (c : Int) (t : T) : T := t.map fun q => (q.1, q.2 / 10 * c)
theorem mapT_ok {t : T} (h : TOk t) {g : Int → Int} (hg : ∀ z, 0 ≤ z → 0 ≤ g z) : TOk (t.map fun q => (q.1, g q.2)) := by
  refine ⟨by rw [List.length_map]; exact h.few, fun i q e => ?_, fun i q e => ?_⟩
  · rw [List.getElem?_map] at e
    obtain ⟨y, hy, rfl⟩ := Option.map_eq_some_iff.mp e
    exact h.ups i y hy
  · rw [List.getElem?_map] at e
    obtain ⟨y, hy, rfl⟩ := Option.map_eq_some_iff.mp e
    exact hg _ (h.lns i y hy)
theorem modT_ok {t : T} (h : TOk t) : TOk (modT t) := mapT_ok h (g := fun z => z % 10 ^ 13) fun z _ => Int.emod_nonneg _ (by decide)
theorem tenT_ok {t : T} (h : TOk t) : TOk (tenT t) := mapT_ok h (g := fun z => z / 10) fun z hz => Int.ediv_nonneg hz (by decide)
theorem longT_ok {t : T} (h : TOk t) {c : Int} (hc : 0 ≤ c) : TOk (longT c t) := mapT_ok h (g := fun z => z / 10 * c) fun z hz => Int.mul_nonneg (Int.ediv_nonneg hz (by decide)) hc
theorem mapT_len (t : T) (g : Int → Int) : (t.map fun q => (q.1, g q.2)).length = t.length := List.length_map _
theorem mapT_up (t : T) (g : Int → Int) (p : Nat) : up (t.map fun q => (q.1, g q.2)) p = up t p := by
  unfold up
  rw [List.getD_eq_getElem?_getD, List.getD_eq_getElem?_getD, List.getElem?_map]
  cases t[p - 1]? <;> rfl
theorem mapT_ln {t : T} (g : Int → Int) {p : Nat} (h1 : 0 < p) (h2 : p ≤ t.length) : ln (t.map fun q => (q.1, g q.2)) p = g (ln t p) := by
  unfold ln
  rw [List.getD_eq_getElem?_getD, List.getD_eq_getElem?_getD, List.getElem?_map, List.getElem?_eq_getElem (show p - 1 < t.length by omega)]
  rfl
/-- all lengths so many times: all so many times as far -/
theorem far_times {t : T} (h : TOk t) {c : Int} (hc : 0 ≤ c) : ∀ (n a b : Nat), a + b ≤ n → a ≤ t.length → b ≤ t.length → far (longT c t) a b = c * far (tenT t) a b := by
  intro n
  induction n with
  | zero =>
    intro a b hab ha hb
    have e1 : a = 0 := by omega
    have e2 : b = 0 := by omega
    subst e1 e2
    rw [far_self, far_self, Int.mul_zero]
  | succ n ih =>
    intro a b hab ha hb
    have hL := longT_ok h hc
    have hT := tenT_ok h
    have lL : (longT c t).length = t.length := mapT_len t fun z => z / 10 * c
    have lT : (tenT t).length = t.length := mapT_len t fun z => z / 10
    rcases Nat.lt_trichotomy a b with g | g | g
    · have hu := h.up_lt (p := b) (by omega) hb
      rw [far_lt hL (by omega) g, far_lt hT (by omega) g]
      have u1 : up (longT c t) b = up t b := mapT_up t (fun z => z / 10 * c) b
      have u2 : up (tenT t) b = up t b := mapT_up t (fun z => z / 10) b
      have l1 : ln (longT c t) b = ln t b / 10 * c := mapT_ln (fun z => z / 10 * c) (by omega) hb
      have l2 : ln (tenT t) b = ln t b / 10 := mapT_ln (fun z => z / 10) (by omega) hb
      rw [u1, u2, l1, l2, ih a (up t b) (by omega) ha (by omega), Int.mul_add, Int.mul_comm c (ln t b / 10)]
    · subst g
      rw [far_self, far_self, Int.mul_zero]
    · have hu := h.up_lt (p := a) (by omega) ha
      rw [far_gt hL (by omega) g, far_gt hT (by omega) g]
      have u1 : up (longT c t) a = up t a := mapT_up t (fun z => z / 10 * c) a
      have u2 : up (tenT t) a = up t a := mapT_up t (fun z => z / 10) a
      have l1 : ln (longT c t) a = ln t a / 10 * c := mapT_ln (fun z => z / 10 * c) (by omega) ha
      have l2 : ln (tenT t) a = ln t a / 10 := mapT_ln (fun z => z / 10) (by omega) ha
      rw [u1, u2, l1, l2, ih (up t a) b (by omega) (by omega) hb, Int.mul_add, Int.mul_comm c (ln t a / 10)]
theorem allP_of_len {t t' : T} (h : t.length = t'.length) : allP t = allP t' := by unfold allP; rw [h]
theorem srt_times {t : T} (h : TOk t) {c : Int} (hc : 1 ≤ c) : srtP (longT c t) = srtP (tenT t) := by
  have lL : (longT c t).length = t.length := mapT_len t fun z => z / 10 * c
  have lT : (tenT t).length = t.length := mapT_len t fun z => z / 10
  rw [srtP_K, srtP_K, allP_of_len (lL.trans lT.symm)]
  refine srtK_of (allP_nd _) (srtK_perm _ _) ?_
  refine List.Pairwise.imp_of_mem (fun {a b} ma mb r => ?_) (srtK_pw (f := farP (tenT t)) (allP_nd (tenT t)))
  have ba := allP_lt ((srtK_perm _ _).mem_iff.mp ma)
  have bb := allP_lt ((srtK_perm _ _).mem_iff.mp mb)
  have ea : farP (longT c t) a = c * farP (tenT t) a := far_times h (by omega) _ _ _ (Nat.le_refl _) (by omega) (by omega)
  have eb : farP (longT c t) b = c * farP (tenT t) b := far_times h (by omega) _ _ _ (Nat.le_refl _) (by omega) (by omega)
  rcases r with r | ⟨r1, r2⟩
  · refine .inl ?_
    rw [ea, eb]
    exact Int.mul_lt_mul_of_pos_left r (by omega)
  · refine .inr ⟨?_, r2⟩
    rw [ea, eb, r1]
/-- no farther than so many roads -/
theorem far_bdM {t : T} (h : TOk t) {L : Int} (h0 : 0 ≤ L) (hL : ∀ p, 0 < p → p ≤ t.length → ln t p ≤ L) : ∀ (n a b : Nat), a + b ≤ n → a ≤ t.length → b ≤ t.length → far t a b ≤ ((max a b : Nat) : Int) * L := by
  intro n
  induction n with
  | zero =>
    intro a b hab ha hb
    have e1 : a = 0 := by omega
    have e2 : b = 0 := by omega
    subst e1 e2
    rw [far_self]
    exact Int.mul_nonneg (by omega) h0
  | succ n ih =>
    intro a b hab ha hb
    rcases Nat.lt_trichotomy a b with g | g | g
    · have hu := h.up_lt (p := b) (by omega) hb
      rw [far_lt h hb g]
      have i := ih a (up t b) (by omega) ha (by omega)
      have l := hL b (by omega) hb
      have m : ((max a (up t b) : Nat) : Int) * L ≤ ((b - 1 : Nat) : Int) * L := Int.mul_le_mul_of_nonneg_right (by omega) h0
      have e : ((max a b : Nat) : Int) * L = ((b - 1 : Nat) : Int) * L + L := by
        have : ((max a b : Nat) : Int) = ((b - 1 : Nat) : Int) + 1 := by omega
        rw [this, Int.add_mul, Int.one_mul]
      omega
    · subst g
      rw [far_self]
      exact Int.mul_nonneg (by omega) h0
    · have hu := h.up_lt (p := a) (by omega) ha
      rw [far_gt h ha g]
      have i := ih (up t a) b (by omega) (by omega) hb
      have l := hL a (by omega) ha
      have m : ((max (up t a) b : Nat) : Int) * L ≤ ((a - 1 : Nat) : Int) * L := Int.mul_le_mul_of_nonneg_right (by omega) h0
      have e : ((max a b : Nat) : Int) * L = ((a - 1 : Nat) : Int) * L + L := by
        have : ((max a b : Nat) : Int) = ((a - 1 : Nat) : Int) + 1 := by omega
        rw [this, Int.add_mul, Int.one_mul]
      omega
theorem modT_far {t : T} (h : TOk t) {q : Nat × Nat} (hq : q ∈ allP (modT t)) : farP (modT t) q ≤ 10 ^ 15 - 1 := by
  have hm := modT_ok h
  have lm : (modT t).length = t.length := mapT_len t fun z => z % 10 ^ 13
  have b := allP_lt hq
  have := far_bdM hm (L := 10 ^ 13) (by decide) (fun p h1 h2 => by
    have e : ln (modT t) p = ln t p % 10 ^ 13 := mapT_ln (fun z => z % 10 ^ 13) h1 (by omega)
    rw [e]
    have := Int.emod_lt_of_pos (ln t p) (show (0 : Int) < 10 ^ 13 by decide)
    omega) _ q.1 q.2 (Nat.le_refl _) (by omega) (by omega)
  have few := h.few
  have m : ((max q.1 q.2 : Nat) : Int) * 10 ^ 13 ≤ 59 * 10 ^ 13 := Int.mul_le_mul_of_nonneg_right (by omega) (by decide)
  show far (modT t) q.1 q.2 ≤ 10 ^ 15 - 1
  have : (59 : Int) * 10 ^ 13 ≤ 10 ^ 15 - 1 := by decide
  omega
theorem nfL_all {t : T} (h : TOk t) (hf : ∀ q ∈ allP t, farP t q ≤ 10 ^ 15 - 1) : nfL t 0 (10 ^ 15 - 1) false = srtP t := by
  unfold nfL
  have e : fromP t 0 (10 ^ 15 - 1) = allP t := List.filter_eq_self.mpr fun q hq => by
    have b := allP_lt hq
    have n : 0 ≤ far t q.1 q.2 := far_nn' h (by omega) (by omega)
    have f : far t q.1 q.2 ≤ 10 ^ 15 - 1 := hf q hq
    rw [decide_eq_true n, decide_eq_true f]
    rfl
  rw [e]
  rfl
/-! ### the promises -/
def preOneByK : List D → Sk → Prop := fun ds r => ∃ (f : Nat × Nat → Int) (l : List (Nat × Nat)) (n : Nat) (q : Nat × Nat), l[n]? = some q ∧ ds = [.lst (l.map (prK f)), .int (n : Nat)] ∧ r = .im (pairD q)
theorem prK_at {f : Nat × Nat → Int} {l : List (Nat × Nat)} {n : Nat} {q : Nat × Nat} (h : l[n]? = some q) : L2.atI (l.map (prK f)) (n : Nat) = some (prK f q) := by
  refine atI_nat ?_
  rw [List.getElem?_map, h]
  rfl
def preNthFrom : List D → Sk → Prop := fun ds r => ∃ (t : T) (a b : Int) (n : Nat) (fl : Bool) (q : Nat × Nat), TOk t ∧ 0 ≤ a ∧ a ≤ b ∧ (nfL t a b fl)[n]? = some q ∧ ds = [treeD t, .int a, .int b, .int (n : Nat), .bl fl] ∧ r = .im (pairD q)
def preOneRight : List D → Sk → Prop := fun ds r => ∃ (t : T) (n : Nat), TOk t ∧ n < (allP t).length ∧ ds = [treeD t, .int (n : Nat)] ∧ r = .im (.bl true)
def brR (t : T) (a b : Int) (l : List Int) : List Int := if (fromP t a b).length = 0 then l else l.dropLast.dropLast
def preBoundsRight : ResT → List D → Sk → ResT → Prop := fun R ds r R' => ∃ (l : List Int) (t : T) (a b : Int), TOk t ∧ 0 ≤ a ∧ a ≤ b ∧ R = rLst (l.map D.int) ∧ ds = [treeD t, .int a, .int b] ∧ r = .im (.bl true) ∧ R' = rLst ((brR t a b l).map D.int)
theorem prK_alike (f : Nat × Nat → Int) (a b : Nat × Nat) : PySem.W.alike (prK f a).py (prK f b).py = true := by
  rw [prK_py, prK_py]
  simp [PySem.W.alike, PySem.W.alikeAll]
theorem srtK_ok (f : Nat × Nat → Int) (l : List (Nat × Nat)) : SOk (l.map (prK f)) := by
  refine ⟨fun d hd => ?_, ?_, ?_, fun d hd => ?_⟩
  · obtain ⟨q, _, rfl⟩ := List.mem_map.mp hd
    rfl
  · rw [List.map_map]
    exact PySem.W.AllAlike.of (prK_alike f)
  · rw [List.map_map]
    exact PySem.W.Sortable.tuples fun q => ⟨_, _, prK_py f q⟩
  · obtain ⟨q, _, rfl⟩ := List.mem_map.mp hd
    rw [prK_py]
    simp [PyData.depth, PyData.depthAll]
theorem srtK_eq (f : Nat × Nat → Int) (l : List (Nat × Nat)) : sortD (l.map (prK f)) = (srtK f l).map (prK f) := by
  unfold sortD srtK
  exact (List.map_mergeSort (f := prK f) (r := PySem.W.dataLe false fun q => (prK f q).py) (s := PySem.W.dataLe false D.py) fun a _ b _ => rfl).symm
theorem cn_srtK {X : Cx} {f : Nat × Nat → Int} {l : List (Nat × Nat)} (hu : X.A.units + 64 < cLine) : CalN X (.builtin "sorted") [.lst (l.map (prK f))] ((srtK f l).map (prK f)) := by
  rw [← srtK_eq]
  exact cn_sortD hu (srtK_ok f l)
theorem cn_srtF {X : Cx} {t : T} {a b : Int} (hu : X.A.units + 64 < cLine) : CalN X (.builtin "sorted") [.lst (((fromP t a b).filter fun _ => true).map (prK (nfK t true)))] ((srtK (nfK t true) (fromP t a b)).map (prK (nfK t true))) := by
  rw [filt_all]
  exact cn_srtK hu
theorem mt_alike {X : Cx} {t : T} {x : Int} {k : Nat} {q : Nat × Nat} (hu : X.A.units + 65 < cLine) (h : (atP t x)[k]? = some q) : MtV X "list" "list.index" (.lst ((atP t x).map pairD)) [pairD q] (.int (k : Nat)) := by
  refine mt_idxD hu (gd_pairs _) rfl (by rw [List.getElem?_map, h]; rfl) (fun m y hm hy => ?_) (D.eqv_refl _)
  rw [List.getElem?_map] at hy
  obtain ⟨z, hz, rfl⟩ := Option.map_eq_some_iff.mp hy
  refine eqv_pair fun e => ?_
  subst e
  have hn : (atP t x).Nodup := (allP_nd t).filter _
  have := (List.getElem?_inj (List.getElem?_eq_some_iff.mp hz).1 hn).mp (hz.trans h.symm)
  omega
theorem any_alike {t : T} {x : Int} {k : Nat} {q : Nat × Nat} (h : (atP t x)[k]? = some q) : (((atP t x).map pairD).any fun z => z.eqv (pairD q)) = true :=
  List.any_eq_true.mpr ⟨pairD q, List.mem_map_of_mem (List.mem_of_getElem? h), D.eqv_refl _⟩
theorem mod_nat {x : Int} {m : Nat} (h : 0 < m) : ∃ n : Nat, x % (m : Nat) = (n : Nat) ∧ n < m := by
  have h1 := Int.emod_nonneg x (show ((m : Nat) : Int) ≠ 0 by omega)
  have h2 := Int.emod_lt_of_pos x (show (0 : Int) < (m : Nat) by omega)
  exact ⟨(x % (m : Nat)).toNat, (Int.toNat_of_nonneg h1).symm, by omega⟩
theorem at_pos {t : T} {q : Nat × Nat} (h : q ∈ allP t) : 0 < (atP t (far t q.1 q.2)).length := List.length_pos_of_mem (List.mem_filter.mpr ⟨h, decide_eq_true rfl⟩)
theorem nat_zero {n : Nat} (h : decide (((n : Nat) : Int) = 0) = true) : n = 0 := by
  have := of_decide_eq_true h
  omega
theorem nat_pos {n : Nat} (h : decide (((n : Nat) : Int) = 0) = false) : 0 < n := by
  have := of_decide_eq_false h
  omega
theorem ijs_cnt (n : Nat) : ∀ k, k ≤ n → 2 * (ijs n k).length + k * (k + 1) = 2 * (k * n)
  | 0, _ => by simp [ijs]
  | k + 1, h => by
    have ih := ijs_cnt n k (by omega)
    rw [ijs_succ, List.length_append, List.length_map, List.length_range]
    have e1 : (k + 1) * (k + 1 + 1) = k * (k + 1) + 2 * (k + 1) := by
      rw [Nat.add_mul, Nat.mul_add k (k + 1) 1, Nat.one_mul, Nat.mul_one]
      omega
    have e2 : (k + 1) * n = k * n + n := by rw [Nat.add_mul, Nat.one_mul]
    rw [e1, e2]
    omega
theorem many_len (t : T) : (((t.length : Nat) : Int) + 1) * ((t.length : Nat) : Int) / 2 = ((allP t).length : Nat) := by
  have h := ijs_cnt (t.length + 1) (t.length + 1) (Nat.le_refl _)
  have e : (allP t).length = (ijs (t.length + 1) (t.length + 1)).length := rfl
  rw [← e] at h
  have e1 : (t.length + 1) * (t.length + 1 + 1) = (t.length + 1) * t.length + 2 * (t.length + 1) := by
    rw [Nat.mul_add, Nat.mul_add, Nat.mul_one]
    omega
  have e2 : (t.length + 1) * (t.length + 1) = (t.length + 1) * t.length + (t.length + 1) := by rw [Nat.mul_add, Nat.mul_one]
  rw [e1, e2] at h
  have h2 : (t.length + 1) * t.length = 2 * (allP t).length := by omega
  have h3 : (((t.length : Nat) : Int) + 1) * ((t.length : Nat) : Int) = (((t.length + 1) * t.length : Nat) : Int) := by rw [Int.natCast_mul]; rfl
  rw [h3, h2]
  omega
theorem mod_D (t : T) : D.lst ((t.filter fun _ => true).map fun q => tupD (q.1, q.2 % 10 ^ 13)) = treeD (modT t) := by
  rw [filt_all]
  unfold treeD modT
  rw [List.map_map]
  rfl
theorem ten_D (t : T) : D.lst ((t.filter fun _ => true).map fun q => tupD (q.1, q.2 / 10)) = treeD (tenT t) := by
  rw [filt_all]
  unfold treeD tenT
  rw [List.map_map]
  rfl
theorem long_D (t : T) (c : Int) : D.lst ((t.filter fun _ => true).map fun q => tupD (q.1, q.2 / 10 * c)) = treeD (longT c t) := by
  rw [filt_all]
  unfold treeD longT
  rw [List.map_map]
  rfl
/-- the numbers asked for -/
def numL (m : Nat) (l : List Int) : List Int := [0, ((m : Nat) : Int) - 1] ++ (nxs (m : Nat) 4 l).1
theorem numL_D (m : Nat) (l : List Int) : [D.int 0, D.int (((m : Nat) : Int) - 1)] ++ (nxs (m : Nat) 4 l).1.map D.int = (numL m l).map D.int := by
  unfold numL
  rw [List.map_append]
  rfl
theorem numL_len (m : Nat) (l : List Int) : (numL m l).length = 6 := by
  unfold numL
  rw [List.length_append, nxs_length]
  rfl
theorem numL_in {m : Nat} (hm : 0 < m) {l : List Int} {z : Int} (h : z ∈ setI (numL m l)) : ∃ n : Nat, z = (n : Nat) ∧ n < m := by
  have h := setI_mem.mp h
  have b : 0 ≤ z ∧ z < (m : Int) := by
    rcases List.mem_append.mp h with g | g
    · simp only [List.mem_cons, List.not_mem_nil, or_false] at g
      omega
    · exact nxs_in (by omega) l 4 z g
  exact ⟨z.toNat, by omega, by omega⟩
theorem numL_pos (m : Nat) (l : List Int) : 0 < (setI (numL m l)).length := setI_ne (by unfold numL; exact nofun)
theorem numL_few (m : Nat) (l : List Int) : (setI (numL m l)).length ≤ 6 := by
  rw [← numL_len m l]
  exact setI_len
theorem nat_lt {n : Nat} (h : decide ((0 : Int) < (n : Nat)) = true) : 0 < n := by
  have := of_decide_eq_true h
  omega
theorem num_at {m : Nat} (hm : 0 < m) (l : List Int) (x : Int) : ∃ n : Nat, n < m ∧ L2.atI ((setI (numL m l)).map D.int) (x % ((((setI (numL m l)).map D.int).length : Nat) : Int)) = some (.int (n : Nat)) := by
  have hp := numL_pos m l
  obtain ⟨k, hk, hkl⟩ := mod_nat (x := x) (m := ((setI (numL m l)).map D.int).length) (by rw [List.length_map]; exact hp)
  rw [List.length_map] at hkl
  obtain ⟨n, hn, hnm⟩ := numL_in hm (List.getElem_mem hkl)
  refine ⟨n, hnm, ?_⟩
  rw [hk]
  refine atI_nat ?_
  rw [List.getElem?_map, List.getElem?_eq_getElem hkl, hn]
  rfl
end DL
namespace DL
open PySem PySem.Spec PyProof.Rows L2
/-! M30: numbers beyond the pairs (k23) -/
def preOneByX : List D → Prop := fun ds => ∃ (f : Nat × Nat → Int) (l : List (Nat × Nat)) (n : Nat), l.length ≤ n ∧ ds = [.lst (l.map (prK f)), .int (n : Nat)]
def preNthFromX : List D → Prop := fun ds => ∃ (t : T) (a b : Int) (n : Nat) (fl : Bool), TOk t ∧ 0 ≤ a ∧ a ≤ b ∧ (nfL t a b fl).length ≤ n ∧ ds = [treeD t, .int a, .int b, .int (n : Nat), .bl fl]
/-- what is told of a number -/
def optP (o : Option (Nat × Nat)) : D := o.elim .non pairD
def toldD (o : Option (Nat × Nat)) : D := .tup [.bl o.isNone, optP o]
def preTold : List D → Sk → Prop := fun ds r => ∃ (t : T) (a b : Int) (n : Nat) (fl : Bool), TOk t ∧ 0 ≤ a ∧ a ≤ b ∧ ds = [treeD t, .int a, .int b, .int (n : Nat), .bl fl] ∧ r = .im (toldD ((nfL t a b fl)[n]?))
def preToldY : List D → Sk → Prop := fun ds r => ∃ (t : T) (a b : Int) (n : Nat) (fl : Bool) (q : Nat × Nat), TOk t ∧ 0 ≤ a ∧ a ≤ b ∧ (nfL t a b fl)[n]? = some q ∧ ds = [treeD t, .int a, .int b, .int (n : Nat), .bl fl] ∧ r = .im (toldD (some q))
def preToldN : List D → Sk → Prop := fun ds r => ∃ (t : T) (a b : Int) (n : Nat) (fl : Bool), TOk t ∧ 0 ≤ a ∧ a ≤ b ∧ (nfL t a b fl).length ≤ n ∧ ds = [treeD t, .int a, .int b, .int (n : Nat), .bl fl] ∧ r = .im (toldD none)
theorem told_split (ds : List D) (r : Sk) (h : preTold ds r) : preToldY ds r ∨ preToldN ds r := by
  obtain ⟨t, a, b, n, fl, ht, ha, hab, e1, e2⟩ := h
  cases e : (nfL t a b fl)[n]? with
  | some q => exact .inl ⟨t, a, b, n, fl, q, ht, ha, hab, e, e1, by rw [e2, e]⟩
  | none => exact .inr ⟨t, a, b, n, fl, ht, ha, hab, List.getElem?_eq_none_iff.mp e, e1, by rw [e2, e]⟩
def preInOrder : List D → Sk → Prop := fun ds r => ∃ (t : T) (a b : Int) (fl : Bool), TOk t ∧ ds = [.lst ((allP t).map (prFar t)), .int a, .int b, .bl fl] ∧ r = .ow none (rLst ((nfL t a b fl).map pairD))
def preIsPair : List D → Sk → Prop := fun ds r => ∃ q : Nat × Nat, ds = [pairD q] ∧ r = .im (.bl true)
theorem nf_len (t : T) (a b : Int) (fl : Bool) : (nfL t a b fl).length = (fromP t a b).length := (srtK_perm _ _).length_eq
theorem two_bl {k : Nat} {d : D} (h : [D.bl true, D.bl false][k]? = some d) : ∃ fl, d = .bl fl := by
  match k, h with
  | 0, h => exact ⟨true, (Option.some.inj h).symm⟩
  | 1, h => exact ⟨false, (Option.some.inj h).symm⟩
theorem optP_at {l : List (Nat × Nat)} {n : Nat} (h : n ≤ l.length) : L2.atI (l.map pairD ++ [.non]) (n : Nat) = some (optP (l[n]?)) := by
  refine atI_nat ?_
  by_cases e : n < l.length
  · rw [List.getElem?_append_left (by rw [List.length_map]; exact e), List.getElem?_map, List.getElem?_eq_getElem e]
    rfl
  · have e2 : n = l.length := by omega
    rw [List.getElem?_append_right (by rw [List.length_map]; omega), List.length_map, e2, Nat.sub_self, List.getElem?_eq_none (Nat.le_refl _)]
    rfl
theorem optP_good (o : Option (Nat × Nat)) : (optP o).good = true := by cases o <;> rfl
theorem optP_isN (o : Option (Nat × Nat)) : (optP o).isN = o.isNone := by cases o <;> rfl
theorem optP_clear (o : Option (Nat × Nat)) : (optP o).clear = true := by cases o <;> rfl
theorem toldD_good (o : Option (Nat × Nat)) : (toldD o).good = true := by cases o <;> rfl
theorem ref_eq {l : List (Nat × Nat)} {n : Nat} (h : n ≤ l.length) : ((D.bl (l[n]?).isNone).eqv (.bl (decide (((n : Nat) : Int) = ((l.map pairD).length : Nat))))) = true := by
  have e : (l[n]?).isNone = decide (((n : Nat) : Int) = ((l.map pairD).length : Nat)) := by
    rw [List.length_map]
    by_cases c : n < l.length
    · rw [List.getElem?_eq_getElem c, decide_eq_false (by omega)]
      rfl
    · rw [List.getElem?_eq_none (by omega), decide_eq_true (by omega)]
      rfl
  rw [e]
  exact D.eqv_refl _
theorem opt_some {o : Option (Nat × Nat)} (h : (!o.isNone) = true) : ∃ q, o = some q := by
  cases o with
  | none => cases h
  | some q => exact ⟨q, rfl⟩
/-- the numbers asked of one list -/
def askL (m : Nat) (x : Int) : List Int := [0, max 0 ((m : Int) - 1), x % ((m : Int) + 1), (m : Int)]
theorem askL_in {m : Nat} {x z : Int} (h : z ∈ setI (askL m x)) : ∃ n : Nat, z = (n : Nat) ∧ n ≤ m := by
  have h := setI_mem.mp h
  have h1 := Int.emod_nonneg x (show ((m : Nat) : Int) + 1 ≠ 0 by omega)
  have h2 := Int.emod_lt_of_pos x (show (0 : Int) < (m : Nat) + 1 by omega)
  unfold askL at h
  simp only [List.mem_cons, List.not_mem_nil, or_false] at h
  exact ⟨z.toNat, by omega, by omega⟩
theorem ask_get {m : Nat} {x : Int} {k : Nat} {d : D} (h : ((setI (askL m x)).map D.int)[k]? = some d) : ∃ n : Nat, n ≤ m ∧ d = .int (n : Nat) := by
  rw [List.getElem?_map] at h
  obtain ⟨z, hz, rfl⟩ := Option.map_eq_some_iff.mp h
  obtain ⟨n, rfl, hn⟩ := askL_in (List.mem_of_getElem? hz)
  exact ⟨n, hn, rfl⟩
theorem nf_few {t : T} (ht : TOk t) (a b : Int) (fl : Bool) : (nfL t a b fl).length ≤ 3600 := by
  rw [nf_len]
  exact Nat.le_trans (List.length_filter_le _ _) (allP_len ht)
theorem told_good2 (o : Option (Nat × Nat)) : (D.tup [.bl (optP o).isN, optP o]).good = true := by cases o <;> rfl
theorem told_eqv (o : Option (Nat × Nat)) : (toldD o).eqv (.tup [.bl (optP o).isN, optP o]) = true := by
  rw [optP_isN]
  exact D.eqv_refl _
end DL
namespace DL
open PySem PySem.Spec PyProof.Rows L2
local macro_rules | `(tactic| walk_at "sd") => `(tactic| first | omega | assumption | rfl | decide | (simp only [natsD_length, aboveD_length, rowD_length, rowsD_length, List.length_map, List.length_append, List.length_range, List.length_cons, List.length_nil, List.length_singleton] at *; omega) | (rw [Zd, List.length_map]; omega))
local macro_rules | `(tactic| walk_at "bin") => `(tactic| first | exact bd_add | exact bd_sub | (apply bd_mod; walk_at "sd") | (apply bd_mul; walk_at "sd") | (apply bd_fdiv; walk_at "sd") | (apply bd_pow; walk_at "sd") | (apply bd_addS; walk_at "sd"))
local macro_rules | `(tactic| walk_at "binN") => `(tactic| first | (with_reducible exact bd_cat (pairs2_catl _ (by assumption) _)) | (apply bd_cat; walk_at "sd") | (apply bd_rep <;> walk_at "sd"))
local macro_rules | `(tactic| walk_at "cmp") => `(tactic| first | exact cd_noneEq (Room.units (by assumption)) | exact cd_noneNe (Room.units (by assumption)) | with_reducible exact cd_ninN | exact cd_eq | exact cd_lt | exact cd_le | exact cd_gt | exact cd_ge | exact cd_ne | exact cd_is rfl | exact cd_isnot rfl | (apply cd_eqD (Room.units (by assumption)) <;> walk_at "good") | (apply cd_neD (Room.units (by assumption)) <;> walk_at "good"))
local macro_rules | `(tactic| walk_at "good") => `(tactic| first | assumption | with_reducible exact gd_nats _ | with_reducible exact gd_pairs _ | with_reducible exact gd_ints _ | with_reducible exact tree_good _ | rfl)
local macro_rules | `(tactic| walk_at "at") => `(tactic| first | assumption | with_reducible exact pairD_at (by assumption) | with_reducible exact at_rows (by omega) | with_reducible exact at_row (by omega) | with_reducible exact at_rowsL (by omega) | with_reducible exact at_above (by omega) | with_reducible exact at_tree' (by assumption) (by omega) (by omega) | with_reducible exact at_last | exact at_tree' (by assumption) (by omega) (by omega) | exact at_last | exact atI_nat (j := 0) rfl | exact atI_nat (j := 1) rfl | exact atI_nat (j := 2) rfl)
local macro_rules | `(tactic| walk_at "ix") => `(tactic| first | (apply ix_l; walk_at "at") | (apply ix_t; walk_at "at") | (apply ix_r; walk_at "at") | (apply ix_rt; walk_at "at"))
local macro_rules | `(tactic| walk_at "look") => `(tactic| first | (apply Look.ki; first | rfl | assumption) | (apply Look.kp; first | rfl | assumption) | (apply Look.ks; first | rfl | assumption))
local macro_rules | `(tactic| walk_at "mt") => `(tactic| first | (apply mt_app; walk_at "sd") | (apply mt_ext; walk_at "sd") | (exact mt_idxN (by assumption) (by assumption)) | exact mt_rev | exact mt_clr)
local macro_rules | `(tactic| walk_at "call") => `(tactic| first | exact len_above | exact ca_lenL | exact ca_lenT | exact ca_lenR | exact ca_max2 rfl | exact ca_min2 rfl | exact ca_intB | exact ca_intI | exact ca_sum rfl | exact cn_listL | exact cn_listT | exact ca_isi rfl (D.kI _ rfl) | exact ca_isi rfl (D.kB _ rfl) | exact ca_isi rfl (D.kT _ rfl) | exact ca_isi rfl (D.kL _ rfl) | exact ca_isi (T := "dict") (b := true) rfl rfl | exact cn_sort2)
local macro_rules | `(tactic| walk_at "fz") => `(tactic| first | exact Fz.nil | (apply Fz.im; walk_at "fz") | (apply Fz.un; walk_at "fz") | (apply Fz.ow frz_lst; walk_at "fz") | (apply Fz.ow frz_dk; walk_at "fz") | (apply Fz.ow frz_dt; walk_at "fz") | (apply Fz.ow frz_ll; walk_at "fz") | (apply Fz.ow frz_tl; walk_at "fz") | (apply Fz.dr; walk_at "fz"))
local macro_rules | `(tactic| walk_at "ret") => `(tactic| first | rfl | exact ⟨rfl, rfl⟩ | (simp only [treeD, List.length_map]; first | rfl | exact ⟨rfl, rfl⟩))
local macro_rules | `(tactic| walk_at "kn") => `(tactic| first | rfl | assumption | (simp only [D.whole, Bool.not_true, Bool.false_or, decide_eq_false_iff_not]; omega) | (simp only [Bool.not_eq_false', Bool.and_eq_true, decide_eq_true_eq]; omega))
local macro_rules | `(tactic| walk_at "pre") => `(tactic| first | exact ⟨_, rfl, rfl⟩ | exact ⟨_, rfl, by assumption, rfl⟩)
local macro_rules | `(tactic| walk_at "pb") => `(tactic| exact PB.le (by walk_at "pb1") (by omega))
local macro_rules | `(tactic| walk_at "pb1") => `(tactic| first | assumption | (apply take_pb; walk_at "pb1") | (apply length_pb; walk_at "pb1") | (apply treeF_pb; walk_at "pb1") | (apply h5_pb; walk_at "pb1"))
local macro_rules | `(tactic| walk_at "binT") => `(tactic| first | exact bd_catT (by simp) (by simp) (by simp [cutD, HT.sIx]) | (apply bd_catT <;> first | (intro z; cases z; done) | (exact Nat.le_of_ble_eq_true rfl)))
local macro_rules | `(tactic| walk_at "slw") => `(tactic| first | decide | (intro z; cases z.2; done) | (intro z; exact absurd z.2 (by simp [HT.sIx])))
local macro_rules | `(tactic| walk_at "atLL") => `(tactic| first | assumption | exact at_rowsLL (by omega))
def topS (i : Nat) : Stmt := PySem.Challenge.pw_pairsfar_k23_numbers_within_bounds.main.body.getD i (.Pass ⟨0, 0, 0, 0⟩)
section
variable {P : Program} {w : World} {K : PySem.W.Frag} {mg : Str → Option Value} {base : Heap}
abbrev s_l_stir : Stmt := topS 20
theorem sc_l_stir : FnScope ["cell", "k", "one"] ["cell", "k"] (defScope s_l_stir) := ⟨rfl, rfl, rfl, by decide +kernel, rfl, by decide +kernel, by decide +kernel⟩
theorem ok_l_stir {f : Addr} {fd : FuncData} (F : Fun K "_law_stir" "_law_stir" s_l_stir f fd)  : FnOk P w K mg base CX0 1 f fd ["cell", "k"] (Sp0 K 2 preStir) := by
  refine fn0 (lv := 0) (N := ["cell", "k", "one"]) (ps := ["cell", "k"]) F sc_l_stir fun cdv A outer s H E hr ds r hp hl => ?_
  obtain ⟨cell, k, rfl, rfl⟩ := hp
  refine' (show DSs _ _ [_, _, .un] _ from ?_)
  refine' dss_cons ?s1
  case s1 =>
    refine' ds_set 2 ?e2 ?q3 sc_l_stir.nd rfl (.inl rfl)
    case e2 =>
      refine' de_bin ?e4 ?e5 ?o6
      case e4 =>
        refine' de_bin ?e7 ?e8 ?o9
        case e7 =>
          refine' de_bin ?e10 ?e11 ?o12
          case e10 =>
            refine' de_bin ?e13 ?e14 ?o15
            case e13 =>
              refine' de_bin ?e16 ?e17 ?o18
              case e16 =>
                exact de_nm 0 rfl rfl (.inl rfl)
              case e17 =>
                exact de_int
              case o18 => walk_at "bin"
            case e14 =>
              refine' de_bin ?e19 ?e20 ?o21
              case e19 =>
                exact de_int
              case e20 =>
                exact de_nm 1 rfl rfl (.inl rfl)
              case o21 => walk_at "bin"
            case o15 => walk_at "bin"
          case e11 =>
            exact de_int
          case o12 => walk_at "bin"
        case e8 =>
          exact de_int
        case o9 => walk_at "bin"
      case e5 =>
        exact de_int
      case o6 => walk_at "bin"
    case q3 =>
      refine' dss_cons ?s22
      case s22 =>
        refine' ds_set 2 ?e23 ?q24 sc_l_stir.nd rfl (.inl rfl)
        case e23 =>
          refine' de_bin ?e25 ?e26 ?o27
          case e25 =>
            refine' de_bin ?e28 ?e29 ?o30
            case e28 =>
              exact de_nm 2 rfl rfl (.inl rfl)
            case e29 =>
              exact de_nm 2 rfl rfl (.inl rfl)
            case o30 => walk_at "bin"
          case e26 =>
            exact de_int
          case o27 => walk_at "bin"
        case q24 =>
          refine' dss_cons ?s31
          case s31 =>
            refine' ds_ret ?e32 ?q33
            case e32 =>
              refine' de_bin ?e34 ?e35 ?o36
              case e34 =>
                refine' de_bin ?e37 ?e38 ?o39
                case e37 =>
                  refine' de_bin ?e40 ?e41 ?o42
                  case e40 =>
                    refine' de_bin ?e43 ?e44 ?o45
                    case e43 =>
                      exact de_nm 2 rfl rfl (.inl rfl)
                    case e44 =>
                      refine' de_bin ?e46 ?e47 ?o48
                      case e46 =>
                        exact de_int
                      case e47 =>
                        exact de_nm 1 rfl rfl (.inl rfl)
                      case o48 => walk_at "bin"
                    case o45 => walk_at "bin"
                  case e41 =>
                    exact de_int
                  case o42 => walk_at "bin"
                case e38 =>
                  exact de_int
                case o39 => walk_at "bin"
              case e35 =>
                exact de_int
              case o36 => walk_at "bin"
            case q33 =>
              show _ = _
              walk_at "ret"
abbrev s_l_deck : Stmt := topS 21
theorem sc_l_deck : FnScope ["cell", "many", "found", "digits", "k", "number"] ["cell", "many"] (defScope s_l_deck) := ⟨rfl, rfl, rfl, by decide +kernel, rfl, by decide +kernel, by decide +kernel⟩
theorem ok_l_deck {f : Addr} {fd : FuncData} (F : Fun K "_law_deck" "_law_deck" s_l_deck f fd) (c_l_stir : Cal P w K mg base CX0 1 "_law_stir" ["cell", "k"] (Sp0 K 2 preStir)) (m_range : mg "range" = none) : FnOk P w K mg base CX0 2 f fd ["cell", "many"] (Sp0 K 2 preDeck) := by
  refine fn0 (lv := 1) (N := ["cell", "many", "found", "digits", "k", "number"]) (ps := ["cell", "many"]) F sc_l_deck fun cdv A outer s H E hr ds r hp hl => ?_
  obtain ⟨cell, many, hm, rfl, rfl⟩ := hp
  refine' (show DSs _ _ [_, _, .un, .un, .un, .un] _ from ?_)
  refine' dss_cons ?s1
  case s1 =>
    refine' ds_set 2 ?e2 ?q3 sc_l_deck.nd rfl (.inl rfl)
    case e2 =>
      refine' de_lst ?a4 ?l5
      case a4 =>
        exact da_nil
      case l5 => rfl
    case q3 =>
      refine' dss_cons ?s6
      case s6 =>
        refine' ds_set 3 ?e7 ?q8 sc_l_deck.nd rfl (.inl rfl)
        case e7 =>
          exact de_nm 0 rfl rfl (.inl rfl)
        case q8 =>
          refine' dss_cons ?s9
          case s9 =>
            refine' ds_for (fun k Δ => ∃ y4 y5, Δ = [.im (.int cell), .im (.int (many : Nat)), .ow none (rLst ((deckN cell k).1.map D.int)), .im (.int (deckN cell k).2), y4, y5]) ?i10 ?s11 PassesOwn.never rfl ?h12 ?d13
            case i10 =>
              refine' di_rngN m_range ?a14 ?b15
              case a14 =>
                refine' da_cons ?e16 ?a17
                case e16 =>
                  exact de_nm 1 rfl rfl (.inl rfl)
                case a17 =>
                  exact da_nil
              case b15 => walk_at "sd"
            case s11 => 
              rw [deckN_zero]
              exact ⟨_, _, rfl⟩
            case h12 =>
              rintro k d Δi hd ⟨y4, y5, rfl⟩
              obtain ⟨hk, rfl⟩ := rngN_get hd
              have hl := deck_len cell k
              refine' ⟨_, _, dg_nm 4 sc_l_deck.nd rfl (.inl rfl), ?b18⟩
              case b18 =>
                refine' dss_cons ?s19
                case s19 =>
                  refine' ds_set 5 ?e20 ?q21 sc_l_deck.nd rfl (.inl rfl)
                  case e20 =>
                    refine' de_call c_l_stir hr pass0 ?a22 ?p23 ?n24
                    case a22 =>
                      refine' da_cons ?e25 ?a26
                      case e25 =>
                        exact de_nm 0 rfl rfl (.inl rfl)
                      case a26 =>
                        refine' da_cons ?e27 ?a28
                        case e27 =>
                          exact de_nm 4 rfl rfl (.inl rfl)
                        case a28 =>
                          exact da_nil
                    case p23 => exact ⟨_, _, rfl, rfl⟩
                    case n24 => rfl
                  case q21 =>
                    refine' dss_cons ?s29
                    case s29 =>
                      refine' ds_if ?c30 ?b31 ?b32
                      case c30 =>
                        refine' dt_cmp ?e33 ?e34 ?o35
                        case e33 =>
                          exact de_nm 0 rfl rfl (.inl rfl)
                        case e34 =>
                          refine' de_bin ?e36 ?e37 ?o38
                          case e36 =>
                            exact de_int
                          case e37 =>
                            exact de_int
                          case o38 => walk_at "bin"
                        case o35 => walk_at "cmp"
                      case b31 =>
                        intro hb31
                        have hI1 := hb31
                        refine' dss_cons ?s39
                        case s39 =>
                          refine' ds_set 5 ?e40 ?q41 sc_l_deck.nd rfl (.inl rfl)
                          case e40 =>
                            refine' de_bin ?e42 ?e43 ?o44
                            case e42 =>
                              exact de_nm 3 rfl rfl (.inl rfl)
                            case e43 =>
                              exact de_int
                            case o44 => walk_at "bin"
                          case q41 =>
                            refine' dss_nil ?_
                            refine' dss_cons ?s45
                            case s45 =>
                              refine' ds_set 3 ?e46 ?q47 sc_l_deck.nd rfl (.inl rfl)
                              case e46 =>
                                refine' de_bin ?e48 ?e49 ?o50
                                case e48 =>
                                  exact de_nm 3 rfl rfl (.inl rfl)
                                case e49 =>
                                  exact de_int
                                case o50 => walk_at "bin"
                              case q47 =>
                                refine' dss_cons ?s51
                                case s51 =>
                                  refine' ds_expr ?e52 ?q53
                                  case e52 =>
                                    refine' de_mt (T := "list") 2 PySem.F.plainAttrs_list PySem.F.slot_list_append PySem.F.type_list_append rfl (.inl rfl) ?a55 ⟨_, _, rfl⟩ ?ra55 ?o54
                                    case a55 =>
                                      refine' da_cons ?e56 ?a57
                                      case e56 =>
                                        exact de_nm 5 rfl rfl (.inl rfl)
                                      case a57 =>
                                        exact da_nil
                                    case ra55 => rfl
                                    case o54 => walk_at "mt"
                                  case q53 =>
                                    refine' dss_nil ?_
                                    first
                                    | exact ⟨_, _, by rw [deck_yes k hI1, deck_dig]; rfl⟩
                                    | exact ⟨_, _, by rw [deck_no k hI1, deck_dig]; rfl⟩
                      case b32 =>
                        intro hb32
                        have hI1 := hb32
                        refine' dss_nil ?_
                        refine' dss_cons ?s58
                        case s58 =>
                          refine' ds_set 3 ?e59 ?q60 sc_l_deck.nd rfl (.inl rfl)
                          case e59 =>
                            refine' de_bin ?e61 ?e62 ?o63
                            case e61 =>
                              exact de_nm 3 rfl rfl (.inl rfl)
                            case e62 =>
                              exact de_int
                            case o63 => walk_at "bin"
                          case q60 =>
                            refine' dss_cons ?s64
                            case s64 =>
                              refine' ds_expr ?e65 ?q66
                              case e65 =>
                                refine' de_mt (T := "list") 2 PySem.F.plainAttrs_list PySem.F.slot_list_append PySem.F.type_list_append rfl (.inl rfl) ?a68 ⟨_, _, rfl⟩ ?ra68 ?o67
                                case a68 =>
                                  refine' da_cons ?e69 ?a70
                                  case e69 =>
                                    exact de_nm 5 rfl rfl (.inl rfl)
                                  case a70 =>
                                    exact da_nil
                                case ra68 => rfl
                                case o67 => walk_at "mt"
                              case q66 =>
                                refine' dss_nil ?_
                                first
                                | exact ⟨_, _, by rw [deck_yes k hI1, deck_dig]; rfl⟩
                                | exact ⟨_, _, by rw [deck_no k hI1, deck_dig]; rfl⟩
            case d13 =>
              rintro Δn ⟨y4, y5, rfl⟩
              rw [rngN_length]
              refine' dss_cons ?s71
              case s71 =>
                refine' ds_ret ?e72 ?q73
                case e72 =>
                  refine' de_rev ?e74
                  case e74 =>
                    exact de_nmF 2 rfl frz_lst rfl (.inl rfl)
                case q73 =>
                  show _ = _
                  rw [deck_ret]
abbrev s_l_next : Stmt := topS 22
theorem sc_l_next : FnScope ["deck"] ["deck"] (defScope s_l_next) := ⟨rfl, rfl, rfl, by decide +kernel, rfl, by decide +kernel, by decide +kernel⟩
theorem ok_l_next {f : Addr} {fd : FuncData} (F : Fun K "_law_next" "_law_next" s_l_next f fd)  : FnOk P w K mg base CX0 1 f fd ["deck"] (Sp1 K 1 preNext) := by
  refine fn1 (lv := 0) (N := ["deck"]) (ps := ["deck"]) F sc_l_next fun cdv A outer s H E hr R ds r R' v0 hp hl => ?_
  obtain ⟨l, rfl, rfl, rfl, rfl⟩ := hp
  refine' (show DSs _ _ [_] _ from ?_)
  refine' dss_cons ?s1
  case s1 =>
    refine' ds_if ?c2 ?b3 ?b4
    case c2 =>
      refine' dt_peek ?z5 ?e6
      case z5 => walk_at "fz"
      case e6 =>
        refine' dt_cmp ?e7 ?e8 ?o9
        case e7 =>
          exact de_nm 0 rfl rfl (.inl rfl)
        case e8 =>
          refine' de_frz ?e10 frz_lst
          case e10 =>
            refine' de_lst ?a11 ?l12
            case a11 =>
              exact da_nil
            case l12 => rfl
        case o9 => exact cd_eqNil hr.units
    case b3 =>
      intro hb3
      have hI1 := hb3
      refine' dss_cons ?s13
      case s13 =>
        refine' ds_ret ?e14 ?q15
        case e14 =>
          exact de_int
        case q15 =>
          show _ ∧ _
          exact next_nil hI1
    case b4 =>
      intro hb4
      have hI1 := hb4
      refine' dss_nil ?_
      refine' dss_cons ?s16
      case s16 =>
        refine' ds_ret ?e17 ?q18
        case e17 =>
          refine' de_mt0 0 PySem.F.plainAttrs_list PySem.F.slot_list_pop PySem.F.type_list_pop rfl (.inl rfl) rfl ?o19
          case o19 => exact mt_popL (nx_at hI1)
        case q18 =>
          show _ ∧ _
          exact next_pop
abbrev s_l_far : Stmt := topS 23
theorem sc_l_far : FnScope ["deck", "found", "turn"] ["deck"] (defScope s_l_far) := ⟨rfl, rfl, rfl, by decide +kernel, rfl, by decide +kernel, by decide +kernel⟩
theorem ok_l_far {f : Addr} {fd : FuncData} (F : Fun K "_law_far" "_law_far" s_l_far f fd) (c_l_next : Cal P w K mg base CX0 1 "_law_next" ["deck"] (Sp1 K 1 preNext)) (m_range : mg "range" = none) : FnOk P w K mg base CX0 2 f fd ["deck"] (Sp1 K 1 preFarW) := by
  refine fn1 (lv := 1) (N := ["deck", "found", "turn"]) (ps := ["deck"]) F sc_l_far fun cdv A outer s H E hr R ds r R' v0 hp hl => ?_
  obtain ⟨l, rfl, rfl, rfl, rfl⟩ := hp
  refine' (show DSs _ _ [_, .un, .un] _ from ?_)
  refine' dss_cons ?s1
  case s1 =>
    refine' ds_set 1 ?e2 ?q3 sc_l_far.nd rfl (.inl rfl)
    case e2 =>
      exact de_int
    case q3 =>
      refine' dss_cons ?s4
      case s4 =>
        refine' ds_for (fun k Δ => ∃ y2, Δ = [.ow (some v0) (rLst ((farW k l).2.map D.int)), .im (.int (farW k l).1), y2]) ?i5 ?s6 PassesOwn.never rfl ?h7 ?d8
        case i5 =>
          refine' di_rngT m_range ?a9 ?b101 ?b102
          case a9 =>
            refine' da_cons ?e11 ?a12
            case e11 =>
              exact de_int
            case a12 =>
              exact da_nil
          case b101 => walk_at "sd"
          case b102 => walk_at "sd"
        case s6 => exact ⟨_, rfl⟩
        case h7 =>
          rintro k d Δi hd ⟨y2, rfl⟩
          obtain ⟨hk, rfl⟩ := rngN_get hd
          refine' ⟨_, _, dg_nm 2 sc_l_far.nd rfl (.inl rfl), ?b13⟩
          case b13 =>
            refine' dss_cons ?s14
            case s14 =>
              refine' ds_set 1 ?e15 ?q16 sc_l_far.nd rfl (.inl rfl)
              case e15 =>
                refine' de_bin ?e17 ?e18 ?o19
                case e17 =>
                  refine' de_bin ?e20 ?e21 ?o22
                  case e20 =>
                    exact de_nm 1 rfl rfl (.inl rfl)
                  case e21 =>
                    refine' de_bin ?e23 ?e24 ?o25
                    case e23 =>
                      exact de_int
                    case e24 =>
                      exact de_int
                    case o25 => walk_at "bin"
                  case o22 => exact bd_mul (.inr ⟨by decide, by decide⟩)
                case e18 =>
                  refine' de_bin ?e26 ?e27 ?o28
                  case e26 =>
                    refine' de_call1 0 c_l_next hr pass0 rfl (.inl rfl) ?a29 ?ra29 ⟨_, _, rfl⟩ ?p30 ?n31
                    case a29 =>
                      exact da_nil
                    case ra29 => rfl
                    case p30 => exact ⟨_, rfl, rfl, rfl, rfl⟩
                    case n31 => rfl
                  case e27 =>
                    refine' de_bin ?e32 ?e33 ?o34
                    case e32 =>
                      exact de_int
                    case e33 =>
                      exact de_int
                    case o34 => walk_at "bin"
                  case o28 => walk_at "bin"
                case o19 => walk_at "bin"
              case q16 =>
                refine' dss_nil ?_
                exact ⟨_, rfl⟩
        case d8 =>
          rintro Δn ⟨y2, rfl⟩
          rw [rngN_length]
          refine' dss_cons ?s35
          case s35 =>
            refine' ds_ret ?e36 ?q37
            case e36 =>
              exact de_nm 1 rfl rfl (.inl rfl)
            case q37 =>
              show _ ∧ _
              walk_at "ret"
abbrev s_l_up : Stmt := topS 24
theorem sc_l_up : FnScope ["deck", "shape", "i", "many"] ["deck", "shape", "i", "many"] (defScope s_l_up) := ⟨rfl, rfl, rfl, by decide +kernel, rfl, by decide +kernel, by decide +kernel⟩
theorem ok_l_up {f : Addr} {fd : FuncData} (F : Fun K "_law_up" "_law_up" s_l_up f fd) (c_l_next : Cal P w K mg base CX0 1 "_law_next" ["deck"] (Sp1 K 1 preNext)) (m_max : mg "max" = none) (m_min : mg "min" = none) : FnOk P w K mg base CX0 2 f fd ["deck", "shape", "i", "many"] (Sp1 K 4 preUpW) := by
  refine fn1 (lv := 1) (N := ["deck", "shape", "i", "many"]) (ps := ["deck", "shape", "i", "many"]) F sc_l_up fun cdv A outer s H E hr R ds r R' v0 hp hl => ?_
  obtain ⟨l, shape, i, many, hi, rfl, rfl, rfl, rfl⟩ := hp
  refine' (show DSs _ _ [_, _, _, _] _ from ?_)
  refine' dss_cons ?s1
  case s1 =>
    refine' ds_if ?c2 ?b3 ?b4
    case c2 =>
      refine' dt_cmp ?e5 ?e6 ?o7
      case e5 =>
        exact de_nm 1 rfl rfl (.inl rfl)
      case e6 =>
        exact de_int
      case o7 => walk_at "cmp"
    case b3 =>
      intro hb3
      have hI1 := hb3
      refine' dss_cons ?s8
      case s8 =>
        refine' ds_ret ?e9 ?q10
        case e9 =>
          exact de_nm 2 rfl rfl (.inl rfl)
        case q10 =>
          show _ ∧ _
          exact up_ret rfl (upW_0 hI1)
    case b4 =>
      intro hb4
      have hI1 := hb4
      refine' dss_nil ?_
      refine' dss_cons ?s11
      case s11 =>
        refine' ds_if ?c12 ?b13 ?b14
        case c12 =>
          refine' dt_cmp ?e15 ?e16 ?o17
          case e15 =>
            exact de_nm 1 rfl rfl (.inl rfl)
          case e16 =>
            exact de_int
          case o17 => walk_at "cmp"
        case b13 =>
          intro hb13
          have hI2 := hb13
          refine' dss_cons ?s18
          case s18 =>
            refine' ds_ret ?e19 ?q20
            case e19 =>
              exact de_int
            case q20 =>
              show _ ∧ _
              exact up_ret rfl (upW_1 hI1 hI2)
        case b14 =>
          intro hb14
          have hI2 := hb14
          refine' dss_nil ?_
          refine' dss_cons ?s21
          case s21 =>
            refine' ds_if ?c22 ?b23 ?b24
            case c22 =>
              refine' dt_cmp ?e25 ?e26 ?o27
              case e25 =>
                exact de_nm 1 rfl rfl (.inl rfl)
              case e26 =>
                exact de_int
              case o27 => walk_at "cmp"
            case b23 =>
              intro hb23
              have hI3 := hb23
              refine' dss_cons ?s28
              case s28 =>
                refine' ds_ret ?e29 ?q30
                case e29 =>
                  refine' de_b (id := "max") m_max ?a31 ?o32
                  case a31 =>
                    refine' da_cons ?e33 ?a34
                    case e33 =>
                      exact de_int
                    case a34 =>
                      refine' da_cons ?e35 ?a36
                      case e35 =>
                        refine' de_bin ?e37 ?e38 ?o39
                        case e37 =>
                          exact de_nm 2 rfl rfl (.inl rfl)
                        case e38 =>
                          refine' de_bin ?e40 ?e41 ?o42
                          case e40 =>
                            refine' de_call1 0 c_l_next hr pass0 rfl (.inl rfl) ?a43 ?ra43 ⟨_, _, rfl⟩ ?p44 ?n45
                            case a43 =>
                              exact da_nil
                            case ra43 => rfl
                            case p44 => exact ⟨_, rfl, rfl, rfl, rfl⟩
                            case n45 => rfl
                          case e41 =>
                            exact de_int
                          case o42 => walk_at "bin"
                        case o39 => walk_at "bin"
                      case a36 =>
                        exact da_nil
                  case o32 => walk_at "call"
                case q30 =>
                  show _ ∧ _
                  exact up_ret rfl (upW_3 hI1 hI2 hI3)
            case b24 =>
              intro hb24
              have hI3 := hb24
              refine' dss_nil ?_
              refine' dss_cons ?s46
              case s46 =>
                refine' ds_if ?c47 ?b48 ?b49
                case c47 =>
                  refine' dt_cmp ?e50 ?e51 ?o52
                  case e50 =>
                    exact de_nm 1 rfl rfl (.inl rfl)
                  case e51 =>
                    exact de_int
                  case o52 => walk_at "cmp"
                case b48 =>
                  intro hb48
                  have hI4 := hb48
                  refine' dss_cons ?s53
                  case s53 =>
                    refine' ds_ret ?e54 ?q55
                    case e54 =>
                      refine' de_bin ?e56 ?e57 ?o58
                      case e56 =>
                        exact de_nm 2 rfl rfl (.inl rfl)
                      case e57 =>
                        exact de_int
                      case o58 => walk_at "bin"
                    case q55 =>
                      show _ ∧ _
                      exact up_ret rfl (upW_4 hI1 hI2 hI3 hI4)
                case b49 =>
                  intro hb49
                  have hI4 := hb49
                  refine' dss_nil ?_
                  refine' dss_cons ?s59
                  case s59 =>
                    refine' ds_if ?c60 ?b61 ?b62
                    case c60 =>
                      refine' dt_cmp ?e63 ?e64 ?o65
                      case e63 =>
                        exact de_nm 1 rfl rfl (.inl rfl)
                      case e64 =>
                        exact de_int
                      case o65 => walk_at "cmp"
                    case b61 =>
                      intro hb61
                      have hI5 := hb61
                      refine' dss_cons ?s66
                      case s66 =>
                        refine' ds_ret ?e67 ?q68
                        case e67 =>
                          refine' de_b (id := "min") m_min ?a69 ?o70
                          case a69 =>
                            refine' da_cons ?e71 ?a72
                            case e71 =>
                              exact de_nm 2 rfl rfl (.inl rfl)
                            case a72 =>
                              refine' da_cons ?e73 ?a74
                              case e73 =>
                                refine' de_bin ?e75 ?e76 ?o77
                                case e75 =>
                                  exact de_nm 3 rfl rfl (.inl rfl)
                                case e76 =>
                                  exact de_int
                                case o77 => walk_at "bin"
                              case a74 =>
                                exact da_nil
                          case o70 => walk_at "call"
                        case q68 =>
                          show _ ∧ _
                          exact up_ret rfl (upW_5 hI1 hI2 hI3 hI4 hI5)
                    case b62 =>
                      intro hb62
                      have hI5 := hb62
                      refine' dss_nil ?_
                      refine' dss_cons ?s78
                      case s78 =>
                        refine' ds_if ?c79 ?b80 ?b81
                        case c79 =>
                          refine' dt_cmp ?e82 ?e83 ?o84
                          case e82 =>
                            exact de_nm 1 rfl rfl (.inl rfl)
                          case e83 =>
                            exact de_int
                          case o84 => walk_at "cmp"
                        case b80 =>
                          intro hb80
                          have hI6 := hb80
                          refine' dss_cons ?s85
                          case s85 =>
                            refine' ds_ret ?e86 ?q87
                            case e86 =>
                              refine' de_b (id := "max") m_max ?a88 ?o89
                              case a88 =>
                                refine' da_cons ?e90 ?a91
                                case e90 =>
                                  exact de_int
                                case a91 =>
                                  refine' da_cons ?e92 ?a93
                                  case e92 =>
                                    refine' de_bin ?e94 ?e95 ?o96
                                    case e94 =>
                                      exact de_nm 2 rfl rfl (.inl rfl)
                                    case e95 =>
                                      refine' de_bin ?e97 ?e98 ?o99
                                      case e97 =>
                                        exact de_nm 2 rfl rfl (.inl rfl)
                                      case e98 =>
                                        exact de_int
                                      case o99 => walk_at "bin"
                                    case o96 => walk_at "bin"
                                  case a93 =>
                                    exact da_nil
                              case o89 => walk_at "call"
                            case q87 =>
                              show _ ∧ _
                              exact up_ret rfl (upW_6 hI1 hI2 hI3 hI4 hI5 hI6)
                        case b81 =>
                          intro hb81
                          have hI6 := hb81
                          refine' dss_nil ?_
                          refine' dss_cons ?s100
                          case s100 =>
                            refine' ds_ret ?e101 ?q102
                            case e101 =>
                              refine' de_bin ?e103 ?e104 ?o105
                              case e103 =>
                                refine' de_call1 0 c_l_next hr pass0 rfl (.inl rfl) ?a106 ?ra106 ⟨_, _, rfl⟩ ?p107 ?n108
                                case a106 =>
                                  exact da_nil
                                case ra106 => rfl
                                case p107 => exact ⟨_, rfl, rfl, rfl, rfl⟩
                                case n108 => rfl
                              case e104 =>
                                refine' de_bin ?e109 ?e110 ?o111
                                case e109 =>
                                  exact de_nm 2 rfl rfl (.inl rfl)
                                case e110 =>
                                  exact de_int
                                case o111 => walk_at "bin"
                              case o105 => walk_at "bin"
                            case q102 =>
                              show _ ∧ _
                              exact up_ret rfl (upW_7 hI1 hI2 hI3 hI4 hI5 hI6)
abbrev s_l_tree : Stmt := topS 25
theorem sc_l_tree : FnScope ["deck", "most", "many", "shape", "kind", "found", "i", "some"] ["deck", "most"] (defScope s_l_tree) := ⟨rfl, rfl, rfl, by decide +kernel, rfl, by decide +kernel, by decide +kernel⟩
theorem ok_l_tree {f : Addr} {fd : FuncData} (F : Fun K "_law_tree" "_law_tree" s_l_tree f fd) (c_l_next : Cal P w K mg base CX0 1 "_law_next" ["deck"] (Sp1 K 1 preNext)) (c_l_far : Cal P w K mg base CX0 2 "_law_far" ["deck"] (Sp1 K 1 preFarW)) (c_l_up : Cal P w K mg base CX0 2 "_law_up" ["deck", "shape", "i", "many"] (Sp1 K 4 preUpW)) (m_range : mg "range" = none) (m_min : mg "min" = none) : FnOk P w K mg base CX0 3 f fd ["deck", "most"] (Sp1 K 2 preTreeW) := by
  refine fn1 (lv := 2) (N := ["deck", "most", "many", "shape", "kind", "found", "i", "some"]) (ps := ["deck", "most"]) F sc_l_tree fun cdv A outer s H E hr R ds r R' v0 hp hl => ?_
  obtain ⟨l, most, h0, h1, rfl, rfl, rfl, rfl⟩ := hp
  have hmb := manyW_bd l h0
  have hkb := kindW_bd l
  refine' (show DSs _ _ [_, _, .un, .un, .un, .un, .un, .un] _ from ?_)
  refine' dss_cons ?s1
  case s1 =>
    refine' ds_set 2 ?e2 ?q3 sc_l_tree.nd rfl (.inl rfl)
    case e2 =>
      refine' de_ix ?e4 ?e5 ?o6
      case e4 =>
        refine' de_frz ?e7 frz_lst
        case e7 =>
          refine' de_lst ?a8 ?l9
          case a8 =>
            refine' da_cons ?e10 ?a11
            case e10 =>
              refine' de_bin ?e12 ?e13 ?o14
              case e12 =>
                refine' de_call1 0 c_l_next hr pass0 rfl (.inl rfl) ?a15 ?ra15 ⟨_, _, rfl⟩ ?p16 ?n17
                case a15 =>
                  exact da_nil
                case ra15 => rfl
                case p16 => exact ⟨_, rfl, rfl, rfl, rfl⟩
                case n17 => rfl
              case e13 =>
                refine' de_bin ?e18 ?e19 ?o20
                case e18 =>
                  exact de_nm 1 rfl rfl (.inl rfl)
                case e19 =>
                  exact de_int
                case o20 => walk_at "bin"
              case o14 => walk_at "bin"
            case a11 =>
              refine' da_cons ?e21 ?a22
              case e21 =>
                exact de_nm 1 rfl rfl (.inl rfl)
              case a22 =>
                refine' da_cons ?e23 ?a24
                case e23 =>
                  refine' de_bin ?e25 ?e26 ?o27
                  case e25 =>
                    refine' de_call1 0 c_l_next hr pass0 rfl (.inl rfl) ?a28 ?ra28 ⟨_, _, rfl⟩ ?p29 ?n30
                    case a28 =>
                      exact da_nil
                    case ra28 => rfl
                    case p29 => exact ⟨_, rfl, rfl, rfl, rfl⟩
                    case n30 => rfl
                  case e26 =>
                    refine' de_bin ?e31 ?e32 ?o33
                    case e31 =>
                      refine' de_b (id := "min") m_min ?a34 ?o35
                      case a34 =>
                        refine' da_cons ?e36 ?a37
                        case e36 =>
                          exact de_nm 1 rfl rfl (.inl rfl)
                        case a37 =>
                          refine' da_cons ?e38 ?a39
                          case e38 =>
                            exact de_int
                          case a39 =>
                            exact da_nil
                      case o35 => walk_at "call"
                    case e32 =>
                      exact de_int
                    case o33 => walk_at "bin"
                  case o27 => walk_at "bin"
                case a24 =>
                  exact da_nil
          case l9 => rfl
      case e5 =>
        refine' de_bin ?e40 ?e41 ?o42
        case e40 =>
          refine' de_call1 0 c_l_next hr pass0 rfl (.inl rfl) ?a43 ?ra43 ⟨_, _, rfl⟩ ?p44 ?n45
          case a43 =>
            exact da_nil
          case ra43 => rfl
          case p44 => exact ⟨_, rfl, rfl, rfl, rfl⟩
          case n45 => rfl
        case e41 =>
          exact de_int
        case o42 => walk_at "bin"
      case o6 => exact ix_l manyW_at
    case q3 =>
      refine' dss_cons ?s46
      case s46 =>
        refine' ds_set 3 ?e47 ?q48 sc_l_tree.nd rfl (.inl rfl)
        case e47 =>
          refine' de_bin ?e49 ?e50 ?o51
          case e49 =>
            refine' de_call1 0 c_l_next hr pass0 rfl (.inl rfl) ?a52 ?ra52 ⟨_, _, rfl⟩ ?p53 ?n54
            case a52 =>
              exact da_nil
            case ra52 => rfl
            case p53 => exact ⟨_, rfl, rfl, rfl, rfl⟩
            case n54 => rfl
          case e50 =>
            exact de_int
          case o51 => walk_at "bin"
        case q48 =>
          refine' dss_cons ?s55
          case s55 =>
            refine' ds_set 4 ?e56 ?q57 sc_l_tree.nd rfl (.inl rfl)
            case e56 =>
              refine' de_bin ?e58 ?e59 ?o60
              case e58 =>
                refine' de_call1 0 c_l_next hr pass0 rfl (.inl rfl) ?a61 ?ra61 ⟨_, _, rfl⟩ ?p62 ?n63
                case a61 =>
                  exact da_nil
                case ra61 => rfl
                case p62 => exact ⟨_, rfl, rfl, rfl, rfl⟩
                case n63 => rfl
              case e59 =>
                exact de_int
              case o60 => walk_at "bin"
            case q57 =>
              refine' dss_cons ?s64
              case s64 =>
                refine' ds_set 5 ?e65 ?q66 sc_l_tree.nd rfl (.inl rfl)
                case e65 =>
                  refine' de_lst ?a67 ?l68
                  case a67 =>
                    exact da_nil
                  case l68 => rfl
                case q66 =>
                  refine' dss_cons ?s69
                  case s69 =>
                    refine' ds_for (fun i Δ => ∃ y6 y7, Δ = [.ow (some v0) (rLst ((treeWN (shapeW l) (kindW l) (manyW most l) i (l5W l)).2.map D.int)), .im (.int most), .im (.int (manyW most l)), .im (.int (shapeW l)), .im (.int (kindW l)), .ow none (rLst ((treeWN (shapeW l) (kindW l) (manyW most l) i (l5W l)).1.map tupD)), y6, y7]) ?i70 ?s71 PassesOwn.never rfl ?h72 ?d73
                    case i70 =>
                      refine' di_rngT m_range ?a74 ?b751 ?b752
                      case a74 =>
                        refine' da_cons ?e76 ?a77
                        case e76 =>
                          exact de_nm 2 rfl rfl (.inl rfl)
                        case a77 =>
                          exact da_nil
                      case b751 => walk_at "sd"
                      case b752 => walk_at "sd"
                    case s71 => exact ⟨_, _, rfl⟩
                    case h72 =>
                      rintro i d Δi hd ⟨y6, y7, rfl⟩
                      obtain ⟨hlt, rfl⟩ := rngN_get hd
                      have hln := treeWN_length (shapeW l) (kindW l) (manyW most l) (l5W l) i
                      refine' ⟨_, _, dg_nm 6 sc_l_tree.nd rfl (.inl rfl), ?b78⟩
                      case b78 =>
                        refine' dss_cons ?s79
                        case s79 =>
                          refine' ds_set 7 ?e80 ?q81 sc_l_tree.nd rfl (.inl rfl)
                          case e80 =>
                            refine' de_lst ?a82 ?l83
                            case a82 =>
                              refine' da_cons ?e84 ?a85
                              case e84 =>
                                refine' de_bin ?e86 ?e87 ?o88
                                case e86 =>
                                  exact de_int
                                case e87 =>
                                  refine' de_bin ?e89 ?e90 ?o91
                                  case e89 =>
                                    exact de_nm 4 rfl rfl (.inl rfl)
                                  case e90 =>
                                    exact de_int
                                  case o91 => walk_at "bin"
                                case o88 => walk_at "bin"
                              case a85 =>
                                refine' da_cons ?e92 ?a93
                                case e92 =>
                                  refine' de_bin ?e94 ?e95 ?o96
                                  case e94 =>
                                    refine' de_call1 0 c_l_next hr pass0 rfl (.inl rfl) ?a97 ?ra97 ⟨_, _, rfl⟩ ?p98 ?n99
                                    case a97 =>
                                      exact da_nil
                                    case ra97 => rfl
                                    case p98 => exact ⟨_, rfl, rfl, rfl, rfl⟩
                                    case n99 => rfl
                                  case e95 =>
                                    exact de_int
                                  case o96 => walk_at "bin"
                                case a93 =>
                                  refine' da_cons ?e100 ?a101
                                  case e100 =>
                                    refine' de_bin ?e102 ?e103 ?o104
                                    case e102 =>
                                      refine' de_call1 0 c_l_next hr pass0 rfl (.inl rfl) ?a105 ?ra105 ⟨_, _, rfl⟩ ?p106 ?n107
                                      case a105 =>
                                        exact da_nil
                                      case ra105 => rfl
                                      case p106 => exact ⟨_, rfl, rfl, rfl, rfl⟩
                                      case n107 => rfl
                                    case e103 =>
                                      exact de_int
                                    case o104 => walk_at "bin"
                                  case a101 =>
                                    refine' da_cons ?e108 ?a109
                                    case e108 =>
                                      refine' de_call1 0 c_l_far hr pass0 rfl (.inl rfl) ?a110 ?ra110 ⟨_, _, rfl⟩ ?p111 ?n112
                                      case a110 =>
                                        exact da_nil
                                      case ra110 => rfl
                                      case p111 => exact ⟨_, rfl, rfl, rfl, rfl⟩
                                      case n112 => rfl
                                    case a109 =>
                                      refine' da_cons ?e113 ?a114
                                      case e113 =>
                                        exact de_int
                                      case a114 =>
                                        exact da_nil
                            case l83 => rfl
                          case q81 =>
                            refine' dss_cons ?s115
                            case s115 =>
                              refine' ds_if ?c116 ?b117 ?b118
                              case c116 =>
                                refine' dt_cmp ?e119 ?e120 ?o121
                                case e119 =>
                                  exact de_nm 4 rfl rfl (.inl rfl)
                                case e120 =>
                                  exact de_int
                                case o121 => walk_at "cmp"
                              case b117 =>
                                intro hb117
                                have hI1 := hb117
                                refine' dss_cons ?s122
                                case s122 =>
                                  refine' ds_setIx 7 ?e123 ?e124 ?re124 ?re123 ?o125 ?q126 rfl (.inl rfl)
                                  case e123 =>
                                    refine' de_ixO 7 ?e127 rfl ?re127 ?o128 rfl (.inl rfl)
                                    case e127 =>
                                      refine' de_bin ?e129 ?e130 ?o131
                                      case e129 =>
                                        refine' de_call1 0 c_l_next hr pass0 rfl (.inl rfl) ?a132 ?ra132 ⟨_, _, rfl⟩ ?p133 ?n134
                                        case a132 =>
                                          exact da_nil
                                        case ra132 => rfl
                                        case p133 => exact ⟨_, rfl, rfl, rfl, rfl⟩
                                        case n134 => rfl
                                      case e130 =>
                                        exact de_int
                                      case o131 => walk_at "bin"
                                    case re127 => rfl
                                    case o128 => exact someW_at (by omega) (by omega)
                                  case e124 =>
                                    exact de_int
                                  case re124 => rfl
                                  case re123 => rfl
                                  case o125 => rfl
                                  case q126 =>
                                    refine' dss_nil ?_
                                    refine' dss_cons ?s135
                                    case s135 =>
                                      refine' ds_expr ?e136 ?q137
                                      case e136 =>
                                        refine' de_mt (T := "list") 5 PySem.F.plainAttrs_list PySem.F.slot_list_append PySem.F.type_list_append rfl (.inl rfl) ?a139 ⟨_, _, rfl⟩ ?ra139 ?o138
                                        case a139 =>
                                          refine' da_cons ?e140 ?a141
                                          case e140 =>
                                            refine' de_tup ?a142 ?l143
                                            case a142 =>
                                              refine' da_cons ?e144 ?a145
                                              case e144 =>
                                                refine' de_call1 0 c_l_up hr pass0 rfl (.inl rfl) ?a146 ?ra146 ⟨_, _, rfl⟩ ?p147 ?n148
                                                case a146 =>
                                                  refine' da_cons ?e149 ?a150
                                                  case e149 =>
                                                    exact de_nm 3 rfl rfl (.inl rfl)
                                                  case a150 =>
                                                    refine' da_cons ?e151 ?a152
                                                    case e151 =>
                                                      exact de_nm 6 rfl rfl (.inl rfl)
                                                    case a152 =>
                                                      refine' da_cons ?e153 ?a154
                                                      case e153 =>
                                                        exact de_nm 2 rfl rfl (.inl rfl)
                                                      case a154 =>
                                                        exact da_nil
                                                case ra146 => rfl
                                                case p147 => exact ⟨_, _, _, _, by omega, rfl, rfl, rfl, rfl⟩
                                                case n148 => rfl
                                              case a145 =>
                                                refine' da_cons ?e155 ?a156
                                                case e155 =>
                                                  refine' de_ixO 7 ?e157 rfl ?re157 ?o158 rfl (.inl rfl)
                                                  case e157 =>
                                                    exact de_nm 4 rfl rfl (.inl rfl)
                                                  case re157 => rfl
                                                  case o158 => exact at_four hI1
                                                case a156 =>
                                                  exact da_nil
                                            case l143 => rfl
                                          case a141 =>
                                            exact da_nil
                                        case ra139 => rfl
                                        case o138 => walk_at "mt"
                                      case q137 =>
                                        refine' dss_nil ?_
                                        first
                                        | exact ⟨_, _, by rw [treeWN_snoc hmb.1, treeWN_deck, lnW_yes hI1]; rfl⟩
                                        | exact ⟨_, _, by rw [treeWN_snoc hmb.1, treeWN_deck, lnW_no hI1]; rfl⟩
                              case b118 =>
                                intro hb118
                                have hI1 := hb118
                                refine' dss_nil ?_
                                refine' dss_cons ?s159
                                case s159 =>
                                  refine' ds_expr ?e160 ?q161
                                  case e160 =>
                                    refine' de_mt (T := "list") 5 PySem.F.plainAttrs_list PySem.F.slot_list_append PySem.F.type_list_append rfl (.inl rfl) ?a163 ⟨_, _, rfl⟩ ?ra163 ?o162
                                    case a163 =>
                                      refine' da_cons ?e164 ?a165
                                      case e164 =>
                                        refine' de_tup ?a166 ?l167
                                        case a166 =>
                                          refine' da_cons ?e168 ?a169
                                          case e168 =>
                                            refine' de_call1 0 c_l_up hr pass0 rfl (.inl rfl) ?a170 ?ra170 ⟨_, _, rfl⟩ ?p171 ?n172
                                            case a170 =>
                                              refine' da_cons ?e173 ?a174
                                              case e173 =>
                                                exact de_nm 3 rfl rfl (.inl rfl)
                                              case a174 =>
                                                refine' da_cons ?e175 ?a176
                                                case e175 =>
                                                  exact de_nm 6 rfl rfl (.inl rfl)
                                                case a176 =>
                                                  refine' da_cons ?e177 ?a178
                                                  case e177 =>
                                                    exact de_nm 2 rfl rfl (.inl rfl)
                                                  case a178 =>
                                                    exact da_nil
                                            case ra170 => rfl
                                            case p171 => exact ⟨_, _, _, _, by omega, rfl, rfl, rfl, rfl⟩
                                            case n172 => rfl
                                          case a169 =>
                                            refine' da_cons ?e179 ?a180
                                            case e179 =>
                                              refine' de_ixO 7 ?e181 rfl ?re181 ?o182 rfl (.inl rfl)
                                              case e181 =>
                                                exact de_nm 4 rfl rfl (.inl rfl)
                                              case re181 => rfl
                                              case o182 => exact someW_at hkb.1 (by omega)
                                            case a180 =>
                                              exact da_nil
                                        case l167 => rfl
                                      case a165 =>
                                        exact da_nil
                                    case ra163 => rfl
                                    case o162 => walk_at "mt"
                                  case q161 =>
                                    refine' dss_nil ?_
                                    first
                                    | exact ⟨_, _, by rw [treeWN_snoc hmb.1, treeWN_deck, lnW_yes hI1]; rfl⟩
                                    | exact ⟨_, _, by rw [treeWN_snoc hmb.1, treeWN_deck, lnW_no hI1]; rfl⟩
                    case d73 =>
                      rintro Δn ⟨y6, y7, rfl⟩
                      rw [rngN_length]
                      refine' dss_cons ?s183
                      case s183 =>
                        refine' ds_ret ?e184 ?q185
                        case e184 =>
                          exact de_nmM 5 rfl rfl (.inl rfl)
                        case q185 =>
                          show _ ∧ _
                          walk_at "ret"
abbrev s_l_table : Stmt := topS 26
theorem sc_l_table : FnScope ["tree", "beside", "i", "one", "found", "place", "row", "waiting", "here", "there", "length"] ["tree"] (defScope s_l_table) := ⟨rfl, rfl, rfl, by decide +kernel, rfl, by decide +kernel, by decide +kernel⟩
theorem ok_l_table {f : Addr} {fd : FuncData} (F : Fun K "_law_table" "_law_table" s_l_table f fd) (m_enumerate : mg "enumerate" = none) (m_range : mg "range" = none) (m_len : mg "len" = none) : FnOk P w K mg base CX0 1 f fd ["tree"] (Sp0 K 1 preLawTable) := by
  refine fn0 (lv := 0) (N := ["tree", "beside", "i", "one", "found", "place", "row", "waiting", "here", "there", "length"]) (ps := ["tree"]) F sc_l_table fun cdv A outer s H E hr ds r hp hl => ?_
  obtain ⟨t, ht, rfl, rfl⟩ := hp
  have hfew := ht.few
  refine' (show DSs _ _ [_, .un, .un, .un, .un, .un, .un, .un, .un, .un, .un] _ from ?_)
  refine' dss_cons ?s1
  case s1 =>
    refine' ds_setLcR 1 (dl_lcL (own := [("place", 5)]) (fun _ => []) ?ie2 rfl sc_l_table.nd (blkOk_by (N := ["tree", "beside", "i", "one", "found", "place", "row", "waiting", "here", "there", "length"]) (sc := defScope s_l_table) (by decide +kernel)) ?le2 ?te2 ?we2) ?q3 rfl rfl (sw_true rfl rfl rfl rfl)
    case ie2 =>
      refine' di_rngT m_range ?a4 ?b51 ?b52
      case a4 =>
        refine' da_cons ?e6 ?a7
        case e6 =>
          refine' de_bin ?e8 ?e9 ?o10
          case e8 =>
            refine' de_b (id := "len") m_len ?a11 ?o12
            case a11 =>
              refine' da_cons ?e13 ?a14
              case e13 =>
                exact de_nm 0 rfl rfl (.inl rfl)
              case a14 =>
                exact da_nil
            case o12 => walk_at "call"
          case e9 =>
            exact de_int
          case o10 => walk_at "bin"
        case a7 =>
          exact da_nil
      case b51 => walk_at "sd"
      case b52 => walk_at "sd"
    case le2 => rw [rngN_length, List.length_map]; omega
    case te2 =>
      intro i d hd
      refine' ⟨_, _, _, fun s H C cl fp => dg_nm 5 sc_l_table.nd rfl (.inl rfl), ?je2, fun s H C cl fp => ?ee2, ?ze2⟩
      case je2 => decide
      case ee2 =>
        refine' de_lst ?a15 ?l16
        case a15 =>
          exact da_nil
        case l16 => rfl
      case ze2 => rfl
    case we2 => exact hide_ok rfl
    case q3 =>
      rw [besL_start]
      refine' dss_cons ?s17
      case s17 =>
        refine' ds_for (fun k Δ => ∃ y2 y3, Δ = [.im (treeD t), .ow none (rLL (besL t k)), y2, y3, .un, .un, .un, .un, .un, .un, .un]) ?i18 ?s19 PassesOwn.never rfl ?h20 ?d21
        case i18 =>
          refine' di_enum m_enumerate ?a22
          case a22 =>
            refine' da_cons ?e24 ?a25
            case e24 =>
              exact de_nm 0 rfl rfl (.inl rfl)
            case a25 =>
              exact da_nil
        case s19 => exact ⟨_, _, rfl⟩
        case h20 =>
          rintro k d Δi hd ⟨y2, y3, rfl⟩
          obtain ⟨hk, rfl⟩ := enum_tup hd
          have hu := ht.up_lt (p := k + 1) (by omega) (by omega)
          have hl1 := bes_len (t := t) (up t (k + 1)) k
          have hl2 := bes_len (t := t) (k + 1) k
          refine' ⟨_, _, dg_tup rfl (dgs_cons (dg_nm 2 sc_l_table.nd rfl (.inl rfl)) (dgs_cons (dg_nm 3 sc_l_table.nd rfl (.inl rfl)) (dgs_nil))) rfl, ?b26⟩
          case b26 =>
            refine' dss_cons ?s27
            case s27 =>
              refine' ds_openLL 1 rfl fun l as hla => ?o28
              case o28 =>
                obtain ⟨q, hq⟩ : ∃ q, as[up t (k + 1)]? = some q := ⟨_, List.getElem?_eq_getElem (by rw [hla]; rw [besL_length]; omega)⟩
                refine' ds_expr ?e29 ?q30
                case e29 =>
                  refine' de_mtAl 1 PySem.F.plainAttrs_list PySem.F.slot_list_append PySem.F.type_list_append (de_ixAl 1 ?e31 rfl ?ie31 (atI_nat hq) rfl (.inl rfl)) ?ke31 ?a32 ?ka32 hq ?xa32 ?ma32
                  case e31 =>
                    refine' de_ix ?e33 ?e34 ?o35
                    case e33 =>
                      exact de_nm 3 rfl rfl (.inl rfl)
                    case e34 =>
                      exact de_int
                    case o35 => walk_at "ix"
                  case ie31 => rfl
                  case ke31 => rfl
                  case a32 =>
                    refine' da_cons ?e36 ?a37
                    case e36 =>
                      refine' de_tup ?a38 ?l39
                      case a38 =>
                        refine' da_cons ?e40 ?a41
                        case e40 =>
                          refine' de_bin ?e42 ?e43 ?o44
                          case e42 =>
                            exact de_nm 2 rfl rfl (.inl rfl)
                          case e43 =>
                            exact de_int
                          case o44 => walk_at "bin"
                        case a41 =>
                          refine' da_cons ?e45 ?a46
                          case e45 =>
                            refine' de_ix ?e47 ?e48 ?o49
                            case e47 =>
                              exact de_nm 3 rfl rfl (.inl rfl)
                            case e48 =>
                              exact de_int
                            case o49 => walk_at "ix"
                          case a46 =>
                            exact da_nil
                      case l39 => rfl
                    case a37 =>
                      exact da_nil
                  case ka32 => rfl
                  case xa32 => exact besL_get (by omega)
                  case ma32 => exact mt_app (by rw [List.length_map]; omega)
                case q30 =>
                  refine' ⟨_, rfl, ?_⟩
                  refine' dss_cons ?s50
                  case s50 =>
                    refine' ds_openLL 1 rfl fun l as hla => ?o51
                    case o51 =>
                      obtain ⟨q, hq⟩ : ∃ q, as[k + 1]? = some q := ⟨_, List.getElem?_eq_getElem (by rw [hla]; rw [List.length_set, besL_length]; omega)⟩
                      refine' ds_expr ?e52 ?q53
                      case e52 =>
                        refine' de_mtAl 1 PySem.F.plainAttrs_list PySem.F.slot_list_append PySem.F.type_list_append (de_ixAl 1 ?e54 rfl ?ie54 (atI_nat hq) rfl (.inl rfl)) ?ke54 ?a55 ?ka55 hq ?xa55 ?ma55
                        case e54 =>
                          refine' de_bin ?e56 ?e57 ?o58
                          case e56 =>
                            exact de_nm 2 rfl rfl (.inl rfl)
                          case e57 =>
                            exact de_int
                          case o58 => walk_at "bin"
                        case ie54 => rfl
                        case ke54 => rfl
                        case a55 =>
                          refine' da_cons ?e59 ?a60
                          case e59 =>
                            exact de_nm 3 rfl rfl (.inl rfl)
                          case a60 =>
                            exact da_nil
                        case ka55 => rfl
                        case xa55 => (rw [List.getElem?_set_ne (by omega)]; exact besL_get (by omega))
                        case ma55 => exact mt_app (by rw [List.length_map]; omega)
                      case q53 =>
                        refine' ⟨_, rfl, ?_⟩
                        refine' dss_nil ?_
                        exact ⟨_, _, by rw [← besL_step ht hk]; rfl⟩
        case d21 =>
          rintro Δn ⟨y2, y3, rfl⟩
          rw [enum_tup_len]
          refine' dss_frz 1 rfl frz_ll ?_
          refine' dss_cons ?s61
          case s61 =>
            refine' ds_set 4 ?e62 ?q63 sc_l_table.nd rfl (.inl rfl)
            case e62 =>
              refine' de_lst ?a64 ?l65
              case a64 =>
                exact da_nil
              case l65 => rfl
            case q63 =>
              refine' dss_cons ?s66
              case s66 =>
                refine' ds_for (fun k Δ => ∃ y5 y6 y7 y8 y9 y10, Δ = [.im (treeD t), .im (.lst ((besL t t.length).map D.lst)), y2, y3, .ow none (rLst (rowsD t k (t.length + 1))), y5, y6, y7, y8, y9, y10]) ?i67 ?s68 PassesOwn.never rfl ?h69 ?d70
                case i67 =>
                  refine' di_rngT m_range ?a71 ?b721 ?b722
                  case a71 =>
                    refine' da_cons ?e73 ?a74
                    case e73 =>
                      refine' de_bin ?e75 ?e76 ?o77
                      case e75 =>
                        refine' de_b (id := "len") m_len ?a78 ?o79
                        case a78 =>
                          refine' da_cons ?e80 ?a81
                          case e80 =>
                            exact de_nm 0 rfl rfl (.inl rfl)
                          case a81 =>
                            exact da_nil
                        case o79 => walk_at "call"
                      case e76 =>
                        exact de_int
                      case o77 => walk_at "bin"
                    case a74 =>
                      exact da_nil
                  case b721 => walk_at "sd"
                  case b722 => walk_at "sd"
                case s68 => exact ⟨_, _, _, _, _, _, rfl⟩
                case h69 =>
                  rintro p d Δi hd ⟨y5, y6, y7, y8, y9, y10, rfl⟩
                  obtain ⟨hp, rfl⟩ := rngN_get hd
                  rw [List.length_map] at hp
                  have hp : p ≤ t.length := by omega
                  refine' ⟨_, _, dg_nm 5 sc_l_table.nd rfl (.inl rfl), ?b82⟩
                  case b82 =>
                    refine' dss_cons ?s83
                    case s83 =>
                      refine' ds_set 6 ?e84 ?q85 sc_l_table.nd rfl (.inl rfl)
                      case e84 =>
                        refine' de_binN ?e86 ?e87 ?o88
                        case e86 =>
                          refine' de_frz ?e89 frz_lst
                          case e89 =>
                            refine' de_lst ?a90 ?l91
                            case a90 =>
                              refine' da_cons ?e92 ?a93
                              case e92 =>
                                exact de_non
                              case a93 =>
                                exact da_nil
                            case l91 => rfl
                        case e87 =>
                          refine' de_bin ?e94 ?e95 ?o96
                          case e94 =>
                            refine' de_b (id := "len") m_len ?a97 ?o98
                            case a97 =>
                              refine' da_cons ?e99 ?a100
                              case e99 =>
                                exact de_nm 0 rfl rfl (.inl rfl)
                              case a100 =>
                                exact da_nil
                            case o98 => walk_at "call"
                          case e95 =>
                            exact de_int
                          case o96 => walk_at "bin"
                        case o88 => walk_at "binN"
                      case q85 =>
                        rw [rowO_none]
                        refine' dss_cons ?s101
                        case s101 =>
                          refine' ds_setIx 6 ?e102 ?e103 ?re103 ?re102 ?o104 ?q105 rfl (.inl rfl)
                          case e102 =>
                            exact de_int
                          case e103 =>
                            exact de_nm 5 rfl rfl (.inl rfl)
                          case re103 => rfl
                          case re102 => rfl
                          case o104 => (rw [rowO_length]; exact ixN_nat (by omega))
                          case q105 =>
                            refine' dss_cons ?s106
                            case s106 =>
                              refine' ds_set 7 ?e107 ?q108 sc_l_table.nd rfl (.inl rfl)
                              case e107 =>
                                refine' de_lst ?a109 ?l110
                                case a109 =>
                                  refine' da_cons ?e111 ?a112
                                  case e111 =>
                                    exact de_nm 5 rfl rfl (.inl rfl)
                                  case a112 =>
                                    exact da_nil
                                case l110 => rfl
                              case q108 =>
                                refine' dss_cons ?s113
                                case s113 =>
                                  refine' ds_while (fun m Δ => ∃ (r : Nat → Option Int) (wl U : List Nat) (y8 y9 y10 : Sk), m = 2 * U.length + wl.length ∧ Wk t p r wl U (fun _ => False) ∧ Δ = [.im (treeD t), .im (.lst ((besL t t.length).map D.lst)), y2, y3, .ow none (rLst (rowsD t p (t.length + 1))), .im (.int (p : Nat)), .ow none (rLst (rowO t r)), .ow none (rLst (natsD wl)), y8, y9, y10]) (m0 := 2 * ((List.range (t.length + 1)).erase p).length + 1) ?s114 PassesOwn.never ?h115
                                  case s114 => exact ⟨_, [p], _, _, _, _, rfl, Wk.start ht hp, by rw [← rowO_set hp]; rfl⟩
                                  case h115 =>
                                    rintro m Δi ⟨r, wl, U, y8, y9, y10, rfl, hw, rfl⟩
                                    refine' ⟨_, _, ?c116, ?b117, ?b118⟩
                                    case c116 =>
                                      refine' dt_peek ?z119 ?e120
                                      case z119 => walk_at "fz"
                                      case e120 =>
                                        refine' dt_cmp ?e121 ?e122 ?o123
                                        case e121 =>
                                          exact de_nm 7 rfl rfl (.inl rfl)
                                        case e122 =>
                                          refine' de_frz ?e124 frz_lst
                                          case e124 =>
                                            refine' de_lst ?a125 ?l126
                                            case a125 =>
                                              exact da_nil
                                            case l126 => rfl
                                        case o123 => exact cd_neNilN hr.units
                                    case b117 =>
                                      intro hb
                                      obtain ⟨ws, v, rfl⟩ := cons_end hb
                                      obtain ⟨hw, hv, hr⟩ := hw.pop
                                      refine' dss_cons ?s127
                                      case s127 =>
                                        refine' ds_set 8 ?e128 ?q129 sc_l_table.nd rfl (.inl rfl)
                                        case e128 =>
                                          refine' de_mt0 7 PySem.F.plainAttrs_list PySem.F.slot_list_pop PySem.F.type_list_pop rfl (.inl rfl) rfl ?o130
                                          case o130 => exact mt_popL pop_nat
                                        case q129 =>
                                          rw [natsD_drop]
                                          refine' dss_cons ?s131
                                          case s131 =>
                                            refine' ds_for (fun k Δ => ∃ (r2 : Nat → Option Int) (w2 U2 : List Nat) (y9 y10 : Sk), 2 * U2.length + w2.length ≤ 2 * U.length + ws.length ∧ Wk t p r2 w2 U2 (fun w => w = v) ∧ r2 v ≠ none ∧ (∀ (j : Nat) q, j < k → (bes t t.length v)[j]? = some q → r2 q.1 ≠ none) ∧
      Δ = [.im (treeD t), .im (.lst ((besL t t.length).map D.lst)), y2, y3, .ow none (rLst (rowsD t p (t.length + 1))), .im (.int (p : Nat)), .ow none (rLst (rowO t r2)), .ow none (rLst (natsD w2)), .im (.int (v : Nat)), y9, y10]) ?i132 ?s133 PassesOwn.never rfl ?h134 ?d135
                                            case i132 =>
                                              refine' di_list ?e136
                                              case e136 =>
                                                refine' de_ix ?e137 ?e138 ?o139
                                                case e137 =>
                                                  exact de_nm 1 rfl rfl (.inl rfl)
                                                case e138 =>
                                                  exact de_nm 8 rfl rfl (.inl rfl)
                                                case o139 => exact ix_l (besL_at hv)
                                            case s133 => exact ⟨r, ws, U, _, _, Nat.le_refl _, hw, hr, fun j q hj => absurd hj (Nat.not_lt_zero j), rfl⟩
                                            case h134 =>
                                              rintro k d Δi hd ⟨r2, w2, U2, y9, y10, hm2, hw2, hr2, hs2, rfl⟩
                                              obtain ⟨q, hq, rfl⟩ := bes_get hd
                                              have hqm := List.mem_of_getElem? hq
                                              have hrv := hw2.dfs.val v hv
                                              have hq1 : q.1 ≤ t.length := bes_le ht hv hqm
                                              refine' ⟨_, _, dg_tup rfl (dgs_cons (dg_nm 9 sc_l_table.nd rfl (.inl rfl)) (dgs_cons (dg_nm 10 sc_l_table.nd rfl (.inl rfl)) (dgs_nil))) rfl, ?b140⟩
                                              case b140 =>
                                                refine' dss_cons ?s141
                                                case s141 =>
                                                  refine' ds_if ?c142 ?b143 ?b144
                                                  case c142 =>
                                                    refine' dt_peek ?z145 ?e146
                                                    case z145 => walk_at "fz"
                                                    case e146 =>
                                                      refine' dt_cmp ?e147 ?e148 ?o149
                                                      case e147 =>
                                                        refine' de_ix ?e150 ?e151 ?o152
                                                        case e150 =>
                                                          exact de_nm 6 rfl rfl (.inl rfl)
                                                        case e151 =>
                                                          exact de_nm 9 rfl rfl (.inl rfl)
                                                        case o152 => exact ix_l (at_rowO hq1)
                                                      case e148 =>
                                                        exact de_non
                                                      case o149 => exact cd_is oD_clear
                                                  case b143 =>
                                                    intro hb143
                                                    have hI1 := hb143
                                                    refine' dss_cons ?s153
                                                    case s153 =>
                                                      refine' ds_setIx 6 ?e154 ?e155 ?re155 ?re154 ?o156 ?q157 rfl (.inl rfl)
                                                      case e154 =>
                                                        refine' de_peek ?z158 ?e159 ?fe159
                                                        case z158 => walk_at "fz"
                                                        case e159 =>
                                                          refine' de_bin ?e160 ?e161 ?o162
                                                          case e160 =>
                                                            refine' de_ix ?e163 ?e164 ?o165
                                                            case e163 =>
                                                              exact de_nm 6 rfl rfl (.inl rfl)
                                                            case e164 =>
                                                              exact de_nm 8 rfl rfl (.inl rfl)
                                                            case o165 => exact ix_l (at_rowV hv hr2 hrv)
                                                          case e161 =>
                                                            exact de_nm 10 rfl rfl (.inl rfl)
                                                          case o162 => walk_at "bin"
                                                        case fe159 => rfl
                                                      case e155 =>
                                                        exact de_nm 9 rfl rfl (.inl rfl)
                                                      case re155 => rfl
                                                      case re154 => rfl
                                                      case o156 => (rw [rowO_length]; exact ixN_nat (by omega))
                                                      case q157 =>
                                                        refine' dss_cons ?s166
                                                        case s166 =>
                                                          refine' ds_expr ?e167 ?q168
                                                          case e167 =>
                                                            refine' de_mt (T := "list") 7 PySem.F.plainAttrs_list PySem.F.slot_list_append PySem.F.type_list_append rfl (.inl rfl) ?a170 ⟨_, _, rfl⟩ ?ra170 ?o169
                                                            case a170 =>
                                                              refine' da_cons ?e171 ?a172
                                                              case e171 =>
                                                                exact de_nm 9 rfl rfl (.inl rfl)
                                                              case a172 =>
                                                                exact da_nil
                                                            case ra170 => rfl
                                                            case o169 => exact mt_app (by have := hw2.few; rw [natsD_length]; omega)
                                                          case q168 =>
                                                            refine' dss_nil ?_
                                                            refine' dss_nil ?_
                                                            first
                                                            | (obtain ⟨z1, z2, z3, z4⟩ := hw2.look ht hp hv hr2 hqm (oD_yes hI1)
                                                               exact ⟨_, _, _, _, _, by omega, z1, see_ne hr2, fun j y hj hy => by
                                                                 by_cases e : j = k
                                                                 · rw [e, hq] at hy
                                                                   rw [← Option.some.inj hy, see_self]
                                                                   exact nofun
                                                                 · exact see_ne (hs2 j y (by omega) hy), by rw [natsD_snoc, ← rowO_set hq1]; rfl⟩)
                                                            | exact ⟨_, _, _, _, _, hm2, hw2, hr2, fun j y hj hy => by
                                                                 by_cases e : j = k
                                                                 · rw [e, hq] at hy
                                                                   rw [← Option.some.inj hy]
                                                                   exact oD_no hI1
                                                                 · exact hs2 j y (by omega) hy, rfl⟩
                                                  case b144 =>
                                                    intro hb144
                                                    have hI1 := hb144
                                                    refine' dss_nil ?_
                                                    refine' dss_nil ?_
                                                    first
                                                    | (obtain ⟨z1, z2, z3, z4⟩ := hw2.look ht hp hv hr2 hqm (oD_yes hI1)
                                                       exact ⟨_, _, _, _, _, by omega, z1, see_ne hr2, fun j y hj hy => by
                                                         by_cases e : j = k
                                                         · rw [e, hq] at hy
                                                           rw [← Option.some.inj hy, see_self]
                                                           exact nofun
                                                         · exact see_ne (hs2 j y (by omega) hy), by rw [natsD_snoc, ← rowO_set hq1]; rfl⟩)
                                                    | exact ⟨_, _, _, _, _, hm2, hw2, hr2, fun j y hj hy => by
                                                         by_cases e : j = k
                                                         · rw [e, hq] at hy
                                                           rw [← Option.some.inj hy]
                                                           exact oD_no hI1
                                                         · exact hs2 j y (by omega) hy, rfl⟩
                                            case d135 =>
                                              rintro Δn ⟨r2, w2, U2, y9, y10, hm2, hw2, hr2, hs2, rfl⟩
                                              have hw2 := hw2.close fun q hq => by
                                                obtain ⟨j, hj⟩ := List.getElem?_of_mem hq
                                                exact hs2 j q (by rw [List.length_map]; exact (List.getElem?_eq_some_iff.mp hj).1) hj
                                              refine' dss_nil ?_
                                              exact ⟨2 * U2.length + w2.length, by rw [List.length_append]; show _ < _ + (_ + 1); omega, r2, w2, U2, _, _, _, rfl, hw2, rfl⟩
                                    case b118 =>
                                      intro hb
                                      have hb : wl = [] := by simpa using hb
                                      subst hb
                                      rw [hw.done ht hp]
                                      refine' dss_cons ?s173
                                      case s173 =>
                                        refine' ds_expr ?e174 ?q175
                                        case e174 =>
                                          refine' de_mt (T := "list") 4 PySem.F.plainAttrs_list PySem.F.slot_list_append PySem.F.type_list_append rfl (.inl rfl) ?a177 ⟨_, _, rfl⟩ ?ra177 ?o176
                                          case a177 =>
                                            refine' da_cons ?e178 ?a179
                                            case e178 =>
                                              exact de_nmF 6 rfl frz_lst rfl (.inl rfl)
                                            case a179 =>
                                              exact da_nil
                                          case ra177 => rfl
                                          case o176 => walk_at "mt"
                                        case q175 =>
                                          refine' dss_nil ?_
                                          exact ⟨_, _, _, _, _, _, by rw [rowsD_snoc]; rfl⟩
                case d70 =>
                  rintro Δn ⟨y5, y6, y7, y8, y9, y10, rfl⟩
                  rw [rngN_length, List.length_map, show (((t.length : Nat) : Int) + 1).toNat = t.length + 1 by omega]
                  refine' dss_cons ?s180
                  case s180 =>
                    refine' ds_ret ?e181 ?q182
                    case e181 =>
                      exact de_nmM 4 rfl rfl (.inl rfl)
                    case q182 =>
                      show _ = _
                      walk_at "ret"
abbrev s_l_pairs : Stmt := topS 27
theorem sc_l_pairs : FnScope ["tree", "table", "found", "i", "j"] ["tree"] (defScope s_l_pairs) := ⟨rfl, rfl, rfl, by decide +kernel, rfl, by decide +kernel, by decide +kernel⟩
theorem ok_l_pairs {f : Addr} {fd : FuncData} (F : Fun K "_law_pairs" "_law_pairs" s_l_pairs f fd) (c_l_table : Cal P w K mg base CX0 1 "_law_table" ["tree"] (Sp0 K 1 preLawTable)) (m_range : mg "range" = none) (m_len : mg "len" = none) : FnOk P w K mg base CX0 2 f fd ["tree"] (Sp0 K 1 preLawPairs) := by
  refine fn0 (lv := 1) (N := ["tree", "table", "found", "i", "j"]) (ps := ["tree"]) F sc_l_pairs fun cdv A outer s H E hr ds r hp hl => ?_
  obtain ⟨t, ht, rfl, rfl⟩ := hp
  have hfew := ht.few
  refine' (show DSs _ _ [_, .un, .un, .un, .un] _ from ?_)
  refine' dss_cons ?s1
  case s1 =>
    refine' ds_set 1 ?e2 ?q3 sc_l_pairs.nd rfl (.inr rfl)
    case e2 =>
      refine' de_frz ?e4 frz_lst
      case e4 =>
        refine' de_call c_l_table hr pass0 ?a5 ?p6 ?n7
        case a5 =>
          refine' da_cons ?e8 ?a9
          case e8 =>
            exact de_nm 0 rfl rfl (.inl rfl)
          case a9 =>
            exact da_nil
        case p6 => exact ⟨_, by assumption, rfl, rfl⟩
        case n7 => rfl
    case q3 =>
      refine' dss_cons ?s10
      case s10 =>
        refine' ds_set 2 ?e11 ?q12 sc_l_pairs.nd rfl (.inl rfl)
        case e11 =>
          refine' de_lst ?a13 ?l14
          case a13 =>
            exact da_nil
          case l14 => rfl
        case q12 =>
          refine' dss_cons ?s15
          case s15 =>
            refine' ds_for (fun k Δ => ∃ y3, Δ = [.im (treeD t), .im (.lst (rowsD t (t.length + 1) (t.length + 1))), .ow none (rLst ((ijs (t.length + 1) k).map (prFar t))), y3, .un]) ?i16 ?s17 PassesOwn.never rfl ?h18 ?d19
            case i16 =>
              refine' di_rngT m_range ?a20 ?b211 ?b212
              case a20 =>
                refine' da_cons ?e22 ?a23
                case e22 =>
                  refine' de_bin ?e24 ?e25 ?o26
                  case e24 =>
                    refine' de_b (id := "len") m_len ?a27 ?o28
                    case a27 =>
                      refine' da_cons ?e29 ?a30
                      case e29 =>
                        exact de_nm 0 rfl rfl (.inl rfl)
                      case a30 =>
                        exact da_nil
                    case o28 => walk_at "call"
                  case e25 =>
                    exact de_int
                  case o26 => walk_at "bin"
                case a23 =>
                  exact da_nil
              case b211 => walk_at "sd"
              case b212 => walk_at "sd"
            case s17 => exact ⟨_, rfl⟩
            case h18 =>
              rintro k d Δi hd ⟨y3, rfl⟩
              obtain ⟨hk, rfl⟩ := rngN_get hd
              rw [List.length_map] at hk
              have hk : k < t.length + 1 := by omega
              refine' ⟨_, _, dg_nm 3 sc_l_pairs.nd rfl (.inr rfl), ?b31⟩
              case b31 =>
                refine' dss_cons ?s32
                case s32 =>
                  refine' ds_expr ?e33 ?q34
                  case e33 =>
                    refine' de_mt (T := "list") 2 PySem.F.plainAttrs_list PySem.F.slot_list_extend PySem.F.type_list_extend rfl (.inl rfl) ?a36 ⟨_, _, rfl⟩ ?ra36 ?o35
                    case a36 =>
                      refine' da_cons ?e37 ?a38
                      case e37 =>
                        refine' de_frz ?e39 frz_lst
                        case e39 =>
                          refine' DLc.de ?e40
                          case e40 =>
                            refine' dl_lcM (List.range (t.length + 1 - (k + 1))) (fun j => .int ((k + 1 + j : Nat) : Int)) (fun _ => true) (fun j => prFar t (k, k + 1 + j)) (own := [("j", 4)]) ?i41 rfl sc_l_pairs.nd (blkOk_by (N := ["tree", "table", "found", "i", "j"]) (sc := defScope s_l_pairs) (by decide +kernel)) ?lh42 ?h42
                            case i41 =>
                              refine' DI.cast ?ci41 (rng_from_tree t k)
                              case ci41 =>
                                refine' di_rng2 m_range ?a43 ?b44
                                case a43 =>
                                  refine' da_cons ?e45 ?a46
                                  case e45 =>
                                    refine' de_bin ?e47 ?e48 ?o49
                                    case e47 =>
                                      exact de_nm 3 rfl rfl (.inr (.inl rfl))
                                    case e48 =>
                                      exact de_int
                                    case o49 => walk_at "bin"
                                  case a46 =>
                                    refine' da_cons ?e50 ?a51
                                    case e50 =>
                                      refine' de_bin ?e52 ?e53 ?o54
                                      case e52 =>
                                        refine' de_b (id := "len") m_len ?a55 ?o56
                                        case a55 =>
                                          refine' da_cons ?e57 ?a58
                                          case e57 =>
                                            exact de_nm 0 rfl rfl (.inl rfl)
                                          case a58 =>
                                            exact da_nil
                                        case o56 => walk_at "call"
                                      case e53 =>
                                        exact de_int
                                      case o54 => walk_at "bin"
                                    case a51 =>
                                      exact da_nil
                                case b44 => walk_at "sd"
                            case lh42 => walk_at "sd"
                            case h42 =>
                              intro x hx
                              have hxl := List.mem_range.mp hx
                              refine' ⟨_, _, fun s H C cl fp => dg_nm 4 sc_l_pairs.nd rfl (.inl rfl), ?jh59, fun s H C cl fp => ?th59, ?yh59, ?nh59⟩
                              case jh59 => decide
                              case th59 =>
                                exact dts_nil
                              case yh59 =>
                                intro hy s H C cl fp
                                refine' de_tup ?a60 ?l61
                                case a60 =>
                                  refine' da_cons ?e62 ?a63
                                  case e62 =>
                                    refine' de_ix ?e64 ?e65 ?o66
                                    case e64 =>
                                      refine' de_ix ?e67 ?e68 ?o69
                                      case e67 =>
                                        exact de_nm 1 rfl rfl (.inr (.inl rfl))
                                      case e68 =>
                                        exact de_nm 3 rfl rfl (.inr (.inl rfl))
                                      case o69 => walk_at "ix"
                                    case e65 =>
                                      exact de_nm 4 rfl rfl (.inl rfl)
                                    case o66 => walk_at "ix"
                                  case a63 =>
                                    refine' da_cons ?e70 ?a71
                                    case e70 =>
                                      refine' de_tup ?a72 ?l73
                                      case a72 =>
                                        refine' da_cons ?e74 ?a75
                                        case e74 =>
                                          exact de_nm 3 rfl rfl (.inr (.inl rfl))
                                        case a75 =>
                                          refine' da_cons ?e76 ?a77
                                          case e76 =>
                                            exact de_nm 4 rfl rfl (.inl rfl)
                                          case a77 =>
                                            exact da_nil
                                      case l73 => rfl
                                    case a71 =>
                                      exact da_nil
                                case l61 => rfl
                              case nh59 => rfl
                      case a38 =>
                        exact da_nil
                    case ra36 => rfl
                    case o35 => exact mt_ext (fars_ext ht hk)
                  case q34 =>
                    refine' dss_nil ?_
                    exact ⟨_, by rw [← fars_step]; rfl⟩
            case d19 =>
              rintro Δn ⟨y3, rfl⟩
              rw [rngN_length, List.length_map, show (((t.length : Nat) : Int) + 1).toNat = t.length + 1 by omega]
              refine' dss_cons ?s78
              case s78 =>
                refine' ds_ret ?e79 ?q80
                case e79 =>
                  exact de_nmM 2 rfl rfl (.inl rfl)
                case q80 =>
                  show _ = _
                  walk_at "ret"
abbrev s_l_cell_at : Stmt := topS 19
theorem sc_l_cell_at : FnScope ["script", "k"] ["script", "k"] (defScope s_l_cell_at) := ⟨rfl, rfl, rfl, by decide +kernel, rfl, by decide +kernel, by decide +kernel⟩
theorem ok_l_cell_at {f : Addr} {fd : FuncData} (F : Fun K "_law_cell_at" "_law_cell_at" s_l_cell_at f fd) (m_len : mg "len" = none) : FnOk P w K mg base CX0 1 f fd ["script", "k"] (Sp0 K 2 preCellAt) := by
  refine fn0 (lv := 0) (N := ["script", "k"]) (ps := ["script", "k"]) F sc_l_cell_at fun cdv A outer s H E hr ds r hp hl => ?_
  obtain ⟨ns, k, rfl, rfl⟩ := hp
  refine' (show DSs _ _ [_, _] _ from ?_)
  refine' dss_cons ?s1
  case s1 =>
    refine' ds_if ?c2 ?b3 ?b4
    case c2 =>
      refine' dt_cmp ?e5 ?e6 ?o7
      case e5 =>
        exact de_nm 1 rfl rfl (.inl rfl)
      case e6 =>
        refine' de_b (id := "len") m_len ?a8 ?o9
        case a8 =>
          refine' da_cons ?e10 ?a11
          case e10 =>
            exact de_nm 0 rfl rfl (.inl rfl)
          case a11 =>
            exact da_nil
        case o9 => walk_at "call"
      case o7 => walk_at "cmp"
    case b3 =>
      intro hb3
      have hI1 := hb3
      refine' dss_cons ?s12
      case s12 =>
        refine' ds_ret ?e13 ?q14
        case e13 =>
          refine' de_ix ?e15 ?e16 ?o17
          case e15 =>
            exact de_nm 0 rfl rfl (.inl rfl)
          case e16 =>
            exact de_nm 1 rfl rfl (.inl rfl)
          case o17 => exact ix_r (at_in hI1)
        case q14 =>
          show _ = _
          walk_at "ret"
    case b4 =>
      intro hb4
      have hI1 := hb4
      refine' dss_nil ?_
      refine' dss_cons ?s18
      case s18 =>
        refine' ds_ret ?e19 ?q20
        case e19 =>
          exact de_int
        case q20 =>
          show _ = _
          rw [← getD_out hI1]
abbrev s_l_beside : Stmt := topS 29
theorem sc_l_beside : FnScope ["deck", "far", "more"] ["deck", "far"] (defScope s_l_beside) := ⟨rfl, rfl, rfl, by decide +kernel, rfl, by decide +kernel, by decide +kernel⟩
theorem ok_l_beside {f : Addr} {fd : FuncData} (F : Fun K "_law_beside" "_law_beside" s_l_beside f fd) (c_l_next : Cal P w K mg base CX0 1 "_law_next" ["deck"] (Sp1 K 1 preNext)) (m_max : mg "max" = none) (m_int : mg "int" = none) : FnOk P w K mg base CX0 2 f fd ["deck", "far"] (Sp1 K 2 preBesideW) := by
  refine fn1 (lv := 1) (N := ["deck", "far", "more"]) (ps := ["deck", "far"]) F sc_l_beside fun cdv A outer s H E hr R ds r R' v0 hp hl => ?_
  obtain ⟨l, far, rfl, rfl, rfl, rfl⟩ := hp
  refine' (show DSs _ _ [_, _, .un] _ from ?_)
  refine' dss_cons ?s1
  case s1 =>
    refine' ds_set 2 ?e2 ?q3 sc_l_beside.nd rfl (.inl rfl)
    case e2 =>
      refine' de_ix ?e4 ?e5 ?o6
      case e4 =>
        refine' de_frz ?e7 frz_lst
        case e7 =>
          refine' de_lst ?a8 ?l9
          case a8 =>
            refine' da_cons ?e10 ?a11
            case e10 =>
              exact de_int
            case a11 =>
              refine' da_cons ?e12 ?a13
              case e12 =>
                exact de_int
              case a13 =>
                refine' da_cons ?e14 ?a15
                case e14 =>
                  exact de_int
                case a15 =>
                  refine' da_cons ?e16 ?a17
                  case e16 =>
                    refine' de_neg ?e18
                    case e18 =>
                      exact de_int
                  case a17 =>
                    exact da_nil
          case l9 => rfl
      case e5 =>
        refine' de_bin ?e19 ?e20 ?o21
        case e19 =>
          refine' de_call1 0 c_l_next hr pass0 rfl (.inl rfl) ?a22 ?ra22 ⟨_, _, rfl⟩ ?p23 ?n24
          case a22 =>
            exact da_nil
          case ra22 => rfl
          case p23 => exact ⟨_, rfl, rfl, rfl, rfl⟩
          case n24 => rfl
        case e20 =>
          exact de_int
        case o21 => walk_at "bin"
      case o6 => exact ix_l more_at
    case q3 =>
      refine' dss_cons ?s25
      case s25 =>
        refine' ds_ret ?e26 ?q27
        case e26 =>
          refine' de_b (id := "max") m_max ?a28 ?o29
          case a28 =>
            refine' da_cons ?e30 ?a31
            case e30 =>
              exact de_int
            case a31 =>
              refine' da_cons ?e32 ?a33
              case e32 =>
                refine' de_bin ?e34 ?e35 ?o36
                case e34 =>
                  exact de_nm 1 rfl rfl (.inl rfl)
                case e35 =>
                  refine' de_bin ?e37 ?e38 ?o39
                  case e37 =>
                    exact de_nm 2 rfl rfl (.inl rfl)
                  case e38 =>
                    refine' de_t (T := "int") m_int ?a40 ?o41
                    case a40 =>
                      refine' da_cons ?e42 ?a43
                      case e42 =>
                        refine' de_cmp ?e44 ?e45 ?o46
                        case e44 =>
                          exact de_nm 1 rfl rfl (.inl rfl)
                        case e45 =>
                          refine' de_bin ?e47 ?e48 ?o49
                          case e47 =>
                            exact de_int
                          case e48 =>
                            exact de_int
                          case o49 => walk_at "bin"
                        case o46 => walk_at "cmp"
                      case a43 =>
                        exact da_nil
                    case o41 => walk_at "call"
                  case o39 => exact more_mul
                case o36 => walk_at "bin"
              case a33 =>
                exact da_nil
          case o29 => walk_at "call"
        case q27 =>
          show _ ∧ _
          walk_at "ret"
abbrev s_l_bounds : Stmt := topS 30
theorem sc_l_bounds : FnScope ["deck", "pairs", "some", "one", "other", "ends", "far", "pair"] ["deck", "pairs"] (defScope s_l_bounds) := ⟨rfl, rfl, rfl, by decide +kernel, rfl, by decide +kernel, by decide +kernel⟩
theorem ok_l_bounds {f : Addr} {fd : FuncData} (F : Fun K "_law_bounds" "_law_bounds" s_l_bounds f fd) (c_l_next : Cal P w K mg base CX0 1 "_law_next" ["deck"] (Sp1 K 1 preNext)) (c_l_beside : Cal P w K mg base CX0 2 "_law_beside" ["deck", "far"] (Sp1 K 2 preBesideW)) (m_sorted : mg "sorted" = none) (m_max : mg "max" = none) (m_len : mg "len" = none) : FnOk P w K mg base CX0 3 f fd ["deck", "pairs"] (Sp1 K 2 preBoundsW) := by
  refine fn1 (lv := 2) (N := ["deck", "pairs", "some", "one", "other", "ends", "far", "pair"]) (ps := ["deck", "pairs"]) F sc_l_bounds fun cdv A outer s H E hr R ds r R' v0 hp hl => ?_
  obtain ⟨l, t, ht, rfl, rfl, rfl, rfl⟩ := hp
  have hlen := allP_len ht
  have hbl := bnL_len ht l
  have hbm : ((bnL t l).map D.int).length ≤ 3603 ∧ 0 < ((bnL t l).map D.int).length := by rw [List.length_map]; exact hbl
  refine' (show DSs _ _ [_, _, .un, .un, .un, .un, .un, .un] _ from ?_)
  refine' dss_cons ?s1
  case s1 =>
    refine' ds_set 2 ?e2 ?q3 sc_l_bounds.nd rfl (.inl rfl)
    case e2 =>
      refine' de_frz ?e4 frz_lst
      case e4 =>
        refine' de_binN ?e5 ?e6 ?o7
        case e5 =>
          refine' de_frz ?e8 frz_lst
          case e8 =>
            refine' DLc.de ?e9
            case e9 =>
              refine' dl_lcM (allP t) (prFar t) (fun _ => true) (fun q => .int (far t q.1 q.2)) (own := [("far", 6), ("pair", 7)]) ?i10 rfl sc_l_bounds.nd (blkOk_by (N := ["deck", "pairs", "some", "one", "other", "ends", "far", "pair"]) (sc := defScope s_l_bounds) (by decide +kernel)) ?lh11 ?h11
              case i10 =>
                refine' di_list ?e12
                case e12 =>
                  exact de_nm 1 rfl rfl (.inl rfl)
              case lh11 => exact Nat.le_trans hlen (by decide)
              case h11 =>
                intro q hq
                refine' ⟨_, _, fun s H C cl fp => dg_tup rfl (dgs_cons (dg_nm 6 sc_l_bounds.nd rfl (.inl rfl)) (dgs_cons (dg_nm 7 sc_l_bounds.nd rfl (.inl rfl)) (dgs_nil))) rfl, ?jh13, fun s H C cl fp => ?th13, ?yh13, ?nh13⟩
                case jh13 => decide
                case th13 =>
                  exact dts_nil
                case yh13 =>
                  intro hy s H C cl fp
                  exact de_nm 6 rfl rfl (.inl rfl)
                case nh13 => rfl
        case e6 =>
          refine' de_frz ?e14 frz_lst
          case e14 =>
            refine' de_lst ?a15 ?l16
            case a15 =>
              refine' da_cons ?e17 ?a18
              case e17 =>
                exact de_int
              case a18 =>
                refine' da_cons ?e19 ?a20
                case e19 =>
                  exact de_int
                case a20 =>
                  refine' da_cons ?e21 ?a22
                  case e21 =>
                    refine' de_bin ?e23 ?e24 ?o25
                    case e23 =>
                      refine' de_call1 0 c_l_next hr pass0 rfl (.inl rfl) ?a26 ?ra26 ⟨_, _, rfl⟩ ?p27 ?n28
                      case a26 =>
                        exact da_nil
                      case ra26 => rfl
                      case p27 => exact ⟨_, rfl, rfl, rfl, rfl⟩
                      case n28 => rfl
                    case e24 =>
                      exact de_int
                    case o25 => walk_at "bin"
                  case a22 =>
                    exact da_nil
            case l16 => rfl
        case o7 => exact bd_cat (bnL_cat ht l)
    case q3 =>
      rw [bnL_eq]
      refine' dss_cons ?s29
      case s29 =>
        refine' ds_set 3 ?e30 ?q31 sc_l_bounds.nd rfl (.inl rfl)
        case e30 =>
          refine' de_ix ?e32 ?e33 ?o34
          case e32 =>
            exact de_nm 2 rfl rfl (.inl rfl)
          case e33 =>
            refine' de_bin ?e35 ?e36 ?o37
            case e35 =>
              refine' de_call1 0 c_l_next hr pass0 rfl (.inl rfl) ?a38 ?ra38 ⟨_, _, rfl⟩ ?p39 ?n40
              case a38 =>
                exact da_nil
              case ra38 => rfl
              case p39 => exact ⟨_, rfl, rfl, rfl, rfl⟩
              case n40 => rfl
            case e36 =>
              refine' de_b (id := "len") m_len ?a41 ?o42
              case a41 =>
                refine' da_cons ?e43 ?a44
                case e43 =>
                  exact de_nm 2 rfl rfl (.inl rfl)
                case a44 =>
                  exact da_nil
              case o42 => walk_at "call"
            case o37 => walk_at "bin"
          case o34 => exact ix_l (bn_at ht l _)
        case q31 =>
          refine' dss_cons ?s45
          case s45 =>
            refine' ds_set 4 ?e46 ?q47 sc_l_bounds.nd rfl (.inl rfl)
            case e46 =>
              refine' de_ix ?e48 ?e49 ?o50
              case e48 =>
                exact de_nm 2 rfl rfl (.inl rfl)
              case e49 =>
                refine' de_bin ?e51 ?e52 ?o53
                case e51 =>
                  refine' de_call1 0 c_l_next hr pass0 rfl (.inl rfl) ?a54 ?ra54 ⟨_, _, rfl⟩ ?p55 ?n56
                  case a54 =>
                    exact da_nil
                  case ra54 => rfl
                  case p55 => exact ⟨_, rfl, rfl, rfl, rfl⟩
                  case n56 => rfl
                case e52 =>
                  refine' de_b (id := "len") m_len ?a57 ?o58
                  case a57 =>
                    refine' da_cons ?e59 ?a60
                    case e59 =>
                      exact de_nm 2 rfl rfl (.inl rfl)
                    case a60 =>
                      exact da_nil
                  case o58 => walk_at "call"
                case o53 => walk_at "bin"
              case o50 => exact ix_l (bn_at ht l _)
            case q47 =>
              refine' dss_cons ?s61
              case s61 =>
                refine' ds_set 5 ?e62 ?q63 sc_l_bounds.nd rfl (.inl rfl)
                case e62 =>
                  refine' de_frz ?e64 frz_lst
                  case e64 =>
                    refine' de_bN (id := "sorted") m_sorted ?a65 ?o66
                    case a65 =>
                      refine' da_cons ?e67 ?a68
                      case e67 =>
                        refine' de_frz ?e69 frz_lst
                        case e69 =>
                          refine' de_lst ?a70 ?l71
                          case a70 =>
                            refine' da_cons ?e72 ?a73
                            case e72 =>
                              refine' de_call1 0 c_l_beside hr pass0 rfl (.inl rfl) ?a74 ?ra74 ⟨_, _, rfl⟩ ?p75 ?n76
                              case a74 =>
                                refine' da_cons ?e77 ?a78
                                case e77 =>
                                  exact de_nm 3 rfl rfl (.inl rfl)
                                case a78 =>
                                  exact da_nil
                              case ra74 => rfl
                              case p75 => exact ⟨_, _, rfl, rfl, rfl, rfl⟩
                              case n76 => rfl
                            case a73 =>
                              refine' da_cons ?e79 ?a80
                              case e79 =>
                                refine' de_call1 0 c_l_beside hr pass0 rfl (.inl rfl) ?a81 ?ra81 ⟨_, _, rfl⟩ ?p82 ?n83
                                case a81 =>
                                  refine' da_cons ?e84 ?a85
                                  case e84 =>
                                    exact de_nm 4 rfl rfl (.inl rfl)
                                  case a85 =>
                                    exact da_nil
                                case ra81 => rfl
                                case p82 => exact ⟨_, _, rfl, rfl, rfl, rfl⟩
                                case n83 => rfl
                              case a80 =>
                                exact da_nil
                          case l71 => rfl
                      case a68 =>
                        exact da_nil
                    case o66 => walk_at "call"
                case q63 =>
                  refine' dss_cons ?s86
                  case s86 =>
                    refine' ds_set 6 ?e87 ?q88 sc_l_bounds.nd rfl (.inl rfl)
                    case e87 =>
                      refine' de_b (id := "max") m_max ?a89 ?o90
                      case a89 =>
                        refine' da_cons ?e91 ?a92
                        case e91 =>
                          refine' de_ix ?e93 ?e94 ?o95
                          case e93 =>
                            exact de_nm 5 rfl rfl (.inl rfl)
                          case e94 =>
                            exact de_int
                          case o95 => walk_at "ix"
                        case a92 =>
                          refine' da_cons ?e96 ?a97
                          case e96 =>
                            refine' de_bin ?e98 ?e99 ?o100
                            case e98 =>
                              refine' de_bin ?e101 ?e102 ?o103
                              case e101 =>
                                exact de_int
                              case e102 =>
                                exact de_int
                              case o103 => walk_at "bin"
                            case e99 =>
                              exact de_int
                            case o100 => walk_at "bin"
                          case a97 =>
                            exact da_nil
                      case o90 => walk_at "call"
                    case q88 =>
                      refine' dss_cons ?s104
                      case s104 =>
                        refine' ds_ret ?e105 ?q106
                        case e105 =>
                          refine' de_ix ?e107 ?e108 ?o109
                          case e107 =>
                            refine' de_frz ?e110 frz_lst
                            case e110 =>
                              refine' de_lst ?a111 ?l112
                              case a111 =>
                                refine' da_cons ?e113 ?a114
                                case e113 =>
                                  exact de_nm 5 rfl rfl (.inl rfl)
                                case a114 =>
                                  refine' da_cons ?e115 ?a116
                                  case e115 =>
                                    refine' de_frz ?e117 frz_lst
                                    case e117 =>
                                      refine' de_lst ?a118 ?l119
                                      case a118 =>
                                        refine' da_cons ?e120 ?a121
                                        case e120 =>
                                          exact de_int
                                        case a121 =>
                                          refine' da_cons ?e122 ?a123
                                          case e122 =>
                                            refine' de_ix ?e124 ?e125 ?o126
                                            case e124 =>
                                              exact de_nm 5 rfl rfl (.inl rfl)
                                            case e125 =>
                                              exact de_int
                                            case o126 => walk_at "ix"
                                          case a123 =>
                                            exact da_nil
                                      case l119 => rfl
                                  case a116 =>
                                    refine' da_cons ?e127 ?a128
                                    case e127 =>
                                      refine' de_frz ?e129 frz_lst
                                      case e129 =>
                                        refine' de_lst ?a130 ?l131
                                        case a130 =>
                                          refine' da_cons ?e132 ?a133
                                          case e132 =>
                                            refine' de_ix ?e134 ?e135 ?o136
                                            case e134 =>
                                              exact de_nm 5 rfl rfl (.inl rfl)
                                            case e135 =>
                                              exact de_int
                                            case o136 => walk_at "ix"
                                          case a133 =>
                                            refine' da_cons ?e137 ?a138
                                            case e137 =>
                                              exact de_nm 6 rfl rfl (.inl rfl)
                                            case a138 =>
                                              exact da_nil
                                        case l131 => rfl
                                    case a128 =>
                                      refine' da_cons ?e139 ?a140
                                      case e139 =>
                                        refine' de_frz ?e141 frz_lst
                                        case e141 =>
                                          refine' de_lst ?a142 ?l143
                                          case a142 =>
                                            refine' da_cons ?e144 ?a145
                                            case e144 =>
                                              exact de_nm 3 rfl rfl (.inl rfl)
                                            case a145 =>
                                              refine' da_cons ?e146 ?a147
                                              case e146 =>
                                                exact de_nm 3 rfl rfl (.inl rfl)
                                              case a147 =>
                                                exact da_nil
                                          case l143 => rfl
                                      case a140 =>
                                        refine' da_cons ?e148 ?a149
                                        case e148 =>
                                          refine' de_frz ?e150 frz_lst
                                          case e150 =>
                                            refine' de_lst ?a151 ?l152
                                            case a151 =>
                                              refine' da_cons ?e153 ?a154
                                              case e153 =>
                                                exact de_int
                                              case a154 =>
                                                refine' da_cons ?e155 ?a156
                                                case e155 =>
                                                  refine' de_bin ?e157 ?e158 ?o159
                                                  case e157 =>
                                                    exact de_int
                                                  case e158 =>
                                                    exact de_int
                                                  case o159 => walk_at "bin"
                                                case a156 =>
                                                  exact da_nil
                                            case l152 => rfl
                                        case a149 =>
                                          exact da_nil
                              case l112 => rfl
                          case e108 =>
                            refine' de_bin ?e160 ?e161 ?o162
                            case e160 =>
                              refine' de_call1 0 c_l_next hr pass0 rfl (.inl rfl) ?a163 ?ra163 ⟨_, _, rfl⟩ ?p164 ?n165
                              case a163 =>
                                exact da_nil
                              case ra163 => rfl
                              case p164 => exact ⟨_, rfl, rfl, rfl, rfl⟩
                              case n165 => rfl
                            case e161 =>
                              exact de_int
                            case o162 => walk_at "bin"
                          case o109 => exact ix_l bounds_at
                        case q106 =>
                          show _ ∧ _
                          walk_at "ret"
abbrev s_l_in_order : Stmt := topS 31
theorem sc_l_in_order : FnScope ["pairs", "a", "b", "far", "some", "one", "distance", "pair"] ["pairs", "a", "b", "far"] (defScope s_l_in_order) := ⟨rfl, rfl, rfl, by decide +kernel, rfl, by decide +kernel, by decide +kernel⟩
theorem ok_l_in_order {f : Addr} {fd : FuncData} (F : Fun K "_law_in_order" "_law_in_order" s_l_in_order f fd) (m_sorted : mg "sorted" = none) : FnOk P w K mg base CX0 1 f fd ["pairs", "a", "b", "far"] (Sp0 K 4 preInOrder) := by
  refine fn0 (lv := 0) (N := ["pairs", "a", "b", "far", "some", "one", "distance", "pair"]) (ps := ["pairs", "a", "b", "far"]) F sc_l_in_order fun cdv A outer s H E hr ds r hp hl => ?_
  obtain ⟨t, a, b, fl, ht, rfl, rfl⟩ := hp
  have hlen := allP_len ht
  refine' (show DSs _ _ [_, _, _, _, .un, .un, .un, .un] _ from ?_)
  refine' dss_cons ?s1
  case s1 =>
    refine' ds_setLcF 4 ?e2 ?q3 rfl rfl (sw_true rfl rfl rfl rfl)
    case e2 =>
      refine' dl_lcM (allP t) (prFar t) (fun q => (decide (a ≤ far t q.1 q.2) && decide (far t q.1 q.2 ≤ b))) (prFar t) (own := [("one", 5)]) ?i4 rfl sc_l_in_order.nd (blkOk_by (N := ["pairs", "a", "b", "far", "some", "one", "distance", "pair"]) (sc := defScope s_l_in_order) (by decide +kernel)) ?lh5 ?h5
      case i4 =>
        refine' di_list ?e6
        case e6 =>
          exact de_nm 0 rfl rfl (.inl rfl)
      case lh5 => exact Nat.le_trans hlen (by decide)
      case h5 =>
        intro q hq
        refine' ⟨_, _, fun s H C cl fp => dg_nm 5 sc_l_in_order.nd rfl (.inl rfl), ?jh7, fun s H C cl fp => ?th7, ?yh7, ?nh7⟩
        case jh7 => decide
        case th7 =>
          refine' dts_one ?c8
          case c8 =>
            refine' dt_chain ?e9 ?e10 ?e11 ?o12 ?o13
            case e9 =>
              exact de_nm 1 rfl rfl (.inr (.inl rfl))
            case e10 =>
              refine' de_ix ?e14 ?e15 ?o16
              case e14 =>
                exact de_nm 5 rfl rfl (.inl rfl)
              case e15 =>
                exact de_int
              case o16 => walk_at "ix"
            case o12 => walk_at "cmp"
            case e11 =>
              intro _
              exact de_nm 2 rfl rfl (.inr (.inl rfl))
            case o13 => intro _; walk_at "cmp"
        case yh7 =>
          intro hy s H C cl fp
          exact de_nm 5 rfl rfl (.inl rfl)
        case nh7 => rfl
    case q3 =>
      refine' dss_cons ?s17
      case s17 =>
        refine' ds_if ?c18 ?b19 ?b20
        case c18 =>
          refine' dt_val ?e21
          case e21 =>
            exact de_nm 3 rfl rfl (.inl rfl)
        case b19 =>
          intro hb19
          have hI1 := hb19
          subst hI1
          refine' dss_cons ?s22
          case s22 =>
            refine' ds_setLcF 4 ?e23 ?q24 rfl rfl (sw_true rfl rfl rfl rfl)
            case e23 =>
              refine' dl_lcM (fromP t a b) (prFar t) (fun _ => true) (prK (nfK t true)) (own := [("distance", 6), ("pair", 7)]) ?i25 rfl sc_l_in_order.nd (blkOk_by (N := ["pairs", "a", "b", "far", "some", "one", "distance", "pair"]) (sc := defScope s_l_in_order) (by decide +kernel)) ?lh26 ?h26
              case i25 =>
                refine' di_list ?e27
                case e27 =>
                  exact de_nm 4 rfl rfl (.inl rfl)
              case lh26 => exact Nat.le_trans (List.length_filter_le _ _) (Nat.le_trans hlen (by decide))
              case h26 =>
                intro q hq
                refine' ⟨_, _, fun s H C cl fp => dg_tup rfl (dgs_cons (dg_nm 6 sc_l_in_order.nd rfl (.inl rfl)) (dgs_cons (dg_nm 7 sc_l_in_order.nd rfl (.inl rfl)) (dgs_nil))) rfl, ?jh28, fun s H C cl fp => ?th28, ?yh28, ?nh28⟩
                case jh28 => decide
                case th28 =>
                  exact dts_nil
                case yh28 =>
                  intro hy s H C cl fp
                  refine' de_tup ?a29 ?l30
                  case a29 =>
                    refine' da_cons ?e31 ?a32
                    case e31 =>
                      refine' de_bin ?e33 ?e34 ?o35
                      case e33 =>
                        exact de_int
                      case e34 =>
                        exact de_nm 6 rfl rfl (.inl rfl)
                      case o35 => walk_at "bin"
                    case a32 =>
                      refine' da_cons ?e36 ?a37
                      case e36 =>
                        exact de_nm 7 rfl rfl (.inl rfl)
                      case a37 =>
                        exact da_nil
                  case l30 => rfl
                case nh28 => rfl
            case q24 =>
              refine' dss_nil ?_
              refine' dss_cons ?s38
              case s38 =>
                refine' ds_ret ?e39 ?q40
                case e39 =>
                  refine' DLc.de ?e41
                  case e41 =>
                    refine' dl_lcM (nfL t a b true) (prK (nfK t true)) (fun _ => true) pairD (own := [("distance", 6), ("pair", 7)]) ?i42 rfl sc_l_in_order.nd (blkOk_by (N := ["pairs", "a", "b", "far", "some", "one", "distance", "pair"]) (sc := defScope s_l_in_order) (by decide +kernel)) ?lh43 ?h43
                    case i42 =>
                      refine' di_list ?e44
                      case e44 =>
                        refine' de_frz ?e45 frz_lst
                        case e45 =>
                          refine' de_bN (id := "sorted") m_sorted ?a46 ?o47
                          case a46 =>
                            refine' da_cons ?e48 ?a49
                            case e48 =>
                              exact de_nm 4 rfl rfl (.inl rfl)
                            case a49 =>
                              exact da_nil
                          case o47 => exact cn_srtF hr.units
                    case lh43 => exact Nat.le_trans (nf_few ht a b true) (by decide)
                    case h43 =>
                      intro q hq
                      refine' ⟨_, _, fun s H C cl fp => dg_tup rfl (dgs_cons (dg_nm 6 sc_l_in_order.nd rfl (.inl rfl)) (dgs_cons (dg_nm 7 sc_l_in_order.nd rfl (.inl rfl)) (dgs_nil))) rfl, ?jh50, fun s H C cl fp => ?th50, ?yh50, ?nh50⟩
                      case jh50 => decide
                      case th50 =>
                        exact dts_nil
                      case yh50 =>
                        intro hy s H C cl fp
                        exact de_nm 7 rfl rfl (.inl rfl)
                      case nh50 => rfl
                case q40 =>
                  show _ = _
                  rw [filt_all]
        case b20 =>
          intro hb20
          have hI1 := hb20
          subst hI1
          refine' dss_nil ?_
          refine' dss_cons ?s51
          case s51 =>
            refine' ds_ret ?e52 ?q53
            case e52 =>
              refine' DLc.de ?e54
              case e54 =>
                refine' dl_lcM (nfL t a b false) (prK (farP t)) (fun _ => true) pairD (own := [("distance", 6), ("pair", 7)]) ?i55 rfl sc_l_in_order.nd (blkOk_by (N := ["pairs", "a", "b", "far", "some", "one", "distance", "pair"]) (sc := defScope s_l_in_order) (by decide +kernel)) ?lh56 ?h56
                case i55 =>
                  refine' di_list ?e57
                  case e57 =>
                    refine' de_frz ?e58 frz_lst
                    case e58 =>
                      refine' de_bN (id := "sorted") m_sorted ?a59 ?o60
                      case a59 =>
                        refine' da_cons ?e61 ?a62
                        case e61 =>
                          exact de_nm 4 rfl rfl (.inl rfl)
                        case a62 =>
                          exact da_nil
                      case o60 => exact cn_srtK (f := farP t) hr.units
                case lh56 => exact Nat.le_trans (nf_few ht a b false) (by decide)
                case h56 =>
                  intro q hq
                  refine' ⟨_, _, fun s H C cl fp => dg_tup rfl (dgs_cons (dg_nm 6 sc_l_in_order.nd rfl (.inl rfl)) (dgs_cons (dg_nm 7 sc_l_in_order.nd rfl (.inl rfl)) (dgs_nil))) rfl, ?jh63, fun s H C cl fp => ?th63, ?yh63, ?nh63⟩
                  case jh63 => decide
                  case th63 =>
                    exact dts_nil
                  case yh63 =>
                    intro hy s H C cl fp
                    exact de_nm 7 rfl rfl (.inl rfl)
                  case nh63 => rfl
            case q53 =>
              show _ = _
              rw [filt_all]
abbrev s_is_whole : Stmt := topS 6
theorem sc_is_whole : FnScope ["thing"] ["thing"] (defScope s_is_whole) := ⟨rfl, rfl, rfl, by decide +kernel, rfl, by decide +kernel, by decide +kernel⟩
theorem ok_is_whole {f : Addr} {fd : FuncData} (F : Fun K "is_whole" "is_whole" s_is_whole f fd) (m_isinstance : mg "isinstance" = none) (m_int : mg "int" = none) (m_bool : mg "bool" = none) : FnOk P w K mg base CX0 1 f fd ["thing"] (Sp0 K 1 preWhole) := by
  refine fn0 (lv := 0) (N := ["thing"]) (ps := ["thing"]) F sc_is_whole fun cdv A outer s H E hr ds r hp hl => ?_
  obtain ⟨d, rfl, hk, rfl⟩ := hp
  refine' (show DSs _ _ [_] _ from ?_)
  refine' dss_cons ?s1
  case s1 =>
    refine' ds_ret ?e2 ?q3
    case e2 =>
      refine' de_and ?e4 ?e5
      case e4 =>
        refine' de_b (id := "isinstance") m_isinstance ?a6 ?o7
        case a6 =>
          refine' da_cons ?e8 ?a9
          case e8 =>
            exact de_nm 0 rfl rfl (.inl rfl)
          case a9 =>
            refine' da_cons ?e10 ?a11
            case e10 =>
              exact de_tyn (T := "int") m_int
            case a11 =>
              exact da_nil
        case o7 => exact ca_isi hk (d.kI hk)
      case e5 =>
        intro he5
        have hW1 := he5
        refine' de_and1 ?e12
        case e12 =>
          refine' de_not ?e13
          case e13 =>
            refine' de_b (id := "isinstance") m_isinstance ?a14 ?o15
            case a14 =>
              refine' da_cons ?e16 ?a17
              case e16 =>
                exact de_nm 0 rfl rfl (.inl rfl)
              case a17 =>
                refine' da_cons ?e18 ?a19
                case e18 =>
                  exact de_tyn (T := "bool") m_bool
                case a19 =>
                  exact da_nil
            case o15 => exact ca_isi hk (d.kB hk)
    case q3 =>
      show _ = _
      show Sk.im (.bl (d.isI && !d.isB)) = _; rw [d.whole_eq]
abbrev s_is_road : Stmt := topS 7
theorem sc_is_road : FnScope ["thing", "place"] ["thing", "place"] (defScope s_is_road) := ⟨rfl, rfl, rfl, by decide +kernel, rfl, by decide +kernel, by decide +kernel⟩
theorem ok_is_road {f : Addr} {fd : FuncData} (F : Fun K "is_road" "is_road" s_is_road f fd) (c_is_whole : Cal P w K mg base CX0 1 "is_whole" ["thing"] (Sp0 K 1 preWhole)) (m_isinstance : mg "isinstance" = none) (m_tuple : mg "tuple" = none) (m_len : mg "len" = none) : FnOk P w K mg base CX0 2 f fd ["thing", "place"] (Sp0 K 2 preRoad) := by
  refine fn0 (lv := 1) (N := ["thing", "place"]) (ps := ["thing", "place"]) F sc_is_road fun cdv A outer s H E hr ds r hp hl => ?_
  obtain ⟨u, l, place, rfl, rfl⟩ := hp
  refine' (show DSs _ _ [_, _] _ from ?_)
  refine' dss_cons ?s1
  case s1 =>
    refine' ds_ifF ?c2 ?b4
    case c2 =>
      refine' DT.cast ?k51 ?k52
      case k51 =>
        refine' dt_w ?e6
        case e6 =>
          refine' dw_or ?e7 ?e8
          case e7 =>
            refine' dt_not ?e9
            case e9 =>
              refine' dt_val ?e10
              case e10 =>
                refine' de_b (id := "isinstance") m_isinstance ?a11 ?o12
                case a11 =>
                  refine' da_cons ?e13 ?a14
                  case e13 =>
                    exact de_nm 0 rfl rfl (.inl rfl)
                  case a14 =>
                    refine' da_cons ?e15 ?a16
                    case e15 =>
                      exact de_tyn (T := "tuple") m_tuple
                    case a16 =>
                      exact da_nil
                case o12 => walk_at "call"
          case e8 =>
            intro he8
            have hW1 := he8
            refine' dw_or ?e17 ?e18
            case e17 =>
              refine' dt_cmp ?e19 ?e20 ?o21
              case e19 =>
                refine' de_b (id := "len") m_len ?a22 ?o23
                case a22 =>
                  refine' da_cons ?e24 ?a25
                  case e24 =>
                    exact de_nm 0 rfl rfl (.inl rfl)
                  case a25 =>
                    exact da_nil
                case o23 => walk_at "call"
              case e20 =>
                exact de_int
              case o21 => walk_at "cmp"
            case e18 =>
              intro he18
              have hW2 := he18
              refine' dw_or ?e26 ?e27
              case e26 =>
                refine' dt_not ?e28
                case e28 =>
                  refine' dt_val ?e29
                  case e29 =>
                    refine' de_call c_is_whole hr pass0 ?a30 ?p31 ?n32
                    case a30 =>
                      refine' da_cons ?e33 ?a34
                      case e33 =>
                        refine' de_ix ?e35 ?e36 ?o37
                        case e35 =>
                          exact de_nm 0 rfl rfl (.inl rfl)
                        case e36 =>
                          exact de_int
                        case o37 => walk_at "ix"
                      case a34 =>
                        exact da_nil
                    case p31 => exact ⟨_, rfl, rfl, rfl⟩
                    case n32 => rfl
              case e27 =>
                intro he27
                have hW3 := he27
                refine' dw_or1 ?e38
                case e38 =>
                  refine' dt_not ?e39
                  case e39 =>
                    refine' dt_val ?e40
                    case e40 =>
                      refine' de_call c_is_whole hr pass0 ?a41 ?p42 ?n43
                      case a41 =>
                        refine' da_cons ?e44 ?a45
                        case e44 =>
                          refine' de_ix ?e46 ?e47 ?o48
                          case e46 =>
                            exact de_nm 0 rfl rfl (.inl rfl)
                          case e47 =>
                            exact de_int
                          case o48 => walk_at "ix"
                        case a45 =>
                          exact da_nil
                      case p42 => exact ⟨_, rfl, rfl, rfl⟩
                      case n43 => rfl
      case k52 => walk_at "kn"
    case b4 =>
      refine' dss_nil ?_
      refine' dss_cons ?s49
      case s49 =>
        refine' ds_ret ?e50 ?q51
        case e50 =>
          refine' de_and ?e52 ?e53
          case e52 =>
            refine' de_chain ?e54 ?e55 ?e56 ?o57 ?o58
            case e54 =>
              exact de_int
            case e55 =>
              refine' de_ix ?e59 ?e60 ?o61
              case e59 =>
                exact de_nm 0 rfl rfl (.inl rfl)
              case e60 =>
                exact de_int
              case o61 => walk_at "ix"
            case o57 => walk_at "cmp"
            case e56 =>
              intro _
              exact de_nm 1 rfl rfl (.inl rfl)
            case o58 => intro _; walk_at "cmp"
          case e53 =>
            intro he53
            have hW4 := he53
            refine' de_and1 ?e62
            case e62 =>
              refine' de_cmp ?e63 ?e64 ?o65
              case e63 =>
                refine' de_ix ?e66 ?e67 ?o68
                case e66 =>
                  exact de_nm 0 rfl rfl (.inl rfl)
                case e67 =>
                  exact de_int
                case o68 => walk_at "ix"
              case e64 =>
                exact de_int
              case o65 => walk_at "cmp"
        case q51 =>
          show _ = _
          walk_at "ret"
abbrev s_is_tree : Stmt := topS 8
theorem sc_is_tree : FnScope ["thing", "i", "one"] ["thing"] (defScope s_is_tree) := ⟨rfl, rfl, rfl, by decide +kernel, rfl, by decide +kernel, by decide +kernel⟩
theorem ok_is_tree {f : Addr} {fd : FuncData} (F : Fun K "is_tree" "is_tree" s_is_tree f fd) (c_is_road : Cal P w K mg base CX0 2 "is_road" ["thing", "place"] (Sp0 K 2 preRoad)) (m_isinstance : mg "isinstance" = none) (m_list : mg "list" = none) (m_len : mg "len" = none) (m_enumerate : mg "enumerate" = none) {t_MOST_TUPLES : Tok} (g_MOST_TUPLES : mg "MOST_TUPLES" = some (.int 59 t_MOST_TUPLES)) : FnOk P w K mg base CX0 3 f fd ["thing"] (Sp0 K 1 preTree) := by
  refine fn0 (lv := 2) (N := ["thing", "i", "one"]) (ps := ["thing"]) F sc_is_tree fun cdv A outer s H E hr ds r hp hl => ?_
  obtain ⟨t, ht, rfl, rfl⟩ := hp
  refine' (show DSs _ _ [_, .un, .un] _ from ?_)
  refine' dss_cons ?s1
  case s1 =>
    refine' ds_ifF ?c2 ?b4
    case c2 =>
      refine' DT.cast ?k51 ?k52
      case k51 =>
        refine' dt_w ?e6
        case e6 =>
          refine' dw_or ?e7 ?e8
          case e7 =>
            refine' dt_not ?e9
            case e9 =>
              refine' dt_val ?e10
              case e10 =>
                refine' de_b (id := "isinstance") m_isinstance ?a11 ?o12
                case a11 =>
                  refine' da_cons ?e13 ?a14
                  case e13 =>
                    exact de_nm 0 rfl rfl (.inl rfl)
                  case a14 =>
                    refine' da_cons ?e15 ?a16
                    case e15 =>
                      exact de_tyn (T := "list") m_list
                    case a16 =>
                      exact da_nil
                case o12 => walk_at "call"
          case e8 =>
            intro he8
            have hW1 := he8
            refine' dw_or1 ?e17
            case e17 =>
              refine' dt_cmp ?e18 ?e19 ?o20
              case e18 =>
                refine' de_b (id := "len") m_len ?a21 ?o22
                case a21 =>
                  refine' da_cons ?e23 ?a24
                  case e23 =>
                    exact de_nm 0 rfl rfl (.inl rfl)
                  case a24 =>
                    exact da_nil
                case o22 => walk_at "call"
              case e19 =>
                exact de_glob (v := .int 59) rfl g_MOST_TUPLES ⟨_, rfl⟩ (fun _ => .int _)
              case o20 => walk_at "cmp"
      case k52 => exact few_kn ht
    case b4 =>
      refine' dss_nil ?_
      refine' dss_cons ?s25
      case s25 =>
        refine' ds_ret ?e26 ?q27
        case e26 =>
          refine' de_cmp ?e28 ?e29 ?o30
          case e28 =>
            refine' de_frz ?e31 frz_lst
            case e31 =>
              refine' DLc.de ?e32
              case e32 =>
                refine' dl_lcM t.zipIdx (fun q => .tup [.int (q.2 : Nat), tupD q.1]) (fun _ => false) (fun q => tupD q.1) (own := [("i", 1), ("one", 2)]) ?i33 rfl sc_is_tree.nd (blkOk_by (N := ["thing", "i", "one"]) (sc := defScope s_is_tree) (by decide +kernel)) ?lh34 ?h34
                case i33 =>
                  refine' DI.cast ?ci33 (enum_tree t)
                  case ci33 =>
                    refine' di_enum m_enumerate ?a35
                    case a35 =>
                      refine' da_cons ?e37 ?a38
                      case e37 =>
                        exact de_nm 0 rfl rfl (.inl rfl)
                      case a38 =>
                        exact da_nil
                case lh34 => rw [List.length_zipIdx]; exact Nat.le_trans ht.few (by decide)
                case h34 =>
                  intro x hx
                  refine' ⟨_, _, fun s H C cl fp => dg_tup rfl (dgs_cons (dg_nm 1 sc_is_tree.nd rfl (.inl rfl)) (dgs_cons (dg_nm 2 sc_is_tree.nd rfl (.inl rfl)) (dgs_nil))) rfl, ?jh39, fun s H C cl fp => ?th39, ?yh39, ?nh39⟩
                  case jh39 => decide
                  case th39 =>
                    refine' dts_one (DT.cast ?c41 ?q40)
                    case c41 =>
                      refine' dt_not ?e42
                      case e42 =>
                        refine' dt_val ?e43
                        case e43 =>
                          refine' de_call c_is_road hr pass0 ?a44 ?p45 ?n46
                          case a44 =>
                            refine' da_cons ?e47 ?a48
                            case e47 =>
                              exact de_nm 2 rfl rfl (.inl rfl)
                            case a48 =>
                              refine' da_cons ?e49 ?a50
                              case e49 =>
                                refine' de_bin ?e51 ?e52 ?o53
                                case e51 =>
                                  exact de_nm 1 rfl rfl (.inl rfl)
                                case e52 =>
                                  exact de_int
                                case o53 => walk_at "bin"
                              case a50 =>
                                exact da_nil
                          case p45 => exact ⟨_, _, _, rfl, rfl⟩
                          case n46 => rfl
                    case q40 => exact road_kn ht hx
                  case yh39 =>
                    intro hy s H C cl fp
                    exact de_nm 2 rfl rfl (.inl rfl)
                  case nh39 => rfl
          case e29 =>
            refine' de_frz ?e54 frz_lst
            case e54 =>
              refine' de_lst ?a55 ?l56
              case a55 =>
                exact da_nil
              case l56 => rfl
          case o30 => rw [List.filter_eq_nil_iff.mpr (fun _ _ => Bool.false_ne_true)]; exact cd_eqD hr.units rfl rfl
        case q27 =>
          show _ = _
          walk_at "ret"
abbrev s_need_tree : Stmt := topS 9
theorem sc_need_tree : FnScope ["thing"] ["thing"] (defScope s_need_tree) := ⟨rfl, rfl, rfl, by decide +kernel, rfl, by decide +kernel, by decide +kernel⟩
theorem ok_need_tree {f : Addr} {fd : FuncData} (F : Fun K "need_tree" "need_tree" s_need_tree f fd) (c_is_tree : Cal P w K mg base CX0 3 "is_tree" ["thing"] (Sp0 K 1 preTree)) : FnOk P w K mg base CX0 4 f fd ["thing"] (Sp0 K 1 preNeedTree) := by
  refine fn0 (lv := 3) (N := ["thing"]) (ps := ["thing"]) F sc_need_tree fun cdv A outer s H E hr ds r hp hl => ?_
  obtain ⟨t, ht, rfl, rfl⟩ := hp
  refine' (show DSs _ _ [_] _ from ?_)
  refine' dss_cons ?s1
  case s1 =>
    refine' ds_ifF ?c2 ?b4
    case c2 =>
      refine' DT.cast ?k51 ?k52
      case k51 =>
        refine' dt_not ?e6
        case e6 =>
          refine' dt_val ?e7
          case e7 =>
            refine' de_call c_is_tree hr pass0 ?a8 ?p9 ?n10
            case a8 =>
              refine' da_cons ?e11 ?a12
              case e11 =>
                exact de_nm 0 rfl rfl (.inl rfl)
              case a12 =>
                exact da_nil
            case p9 => exact ⟨_, by assumption, rfl, rfl⟩
            case n10 => rfl
      case k52 => walk_at "kn"
    case b4 =>
      refine' dss_nil ?_
      refine' dss_nil ?_
      rfl
abbrev s_need_distance : Stmt := topS 12
theorem sc_need_distance : FnScope ["thing"] ["thing"] (defScope s_need_distance) := ⟨rfl, rfl, rfl, by decide +kernel, rfl, by decide +kernel, by decide +kernel⟩
theorem ok_need_distance {f : Addr} {fd : FuncData} (F : Fun K "need_distance" "need_distance" s_need_distance f fd) (c_is_whole : Cal P w K mg base CX0 1 "is_whole" ["thing"] (Sp0 K 1 preWhole)) : FnOk P w K mg base CX0 2 f fd ["thing"] (Sp0 K 1 preNeedDist) := by
  refine fn0 (lv := 1) (N := ["thing"]) (ps := ["thing"]) F sc_need_distance fun cdv A outer s H E hr ds r hp hl => ?_
  obtain ⟨i, hi, rfl, rfl⟩ := hp
  refine' (show DSs _ _ [_] _ from ?_)
  refine' dss_cons ?s1
  case s1 =>
    refine' ds_ifF ?c2 ?b4
    case c2 =>
      refine' DT.cast ?k51 ?k52
      case k51 =>
        refine' dt_w ?e6
        case e6 =>
          refine' dw_or ?e7 ?e8
          case e7 =>
            refine' dt_not ?e9
            case e9 =>
              refine' dt_val ?e10
              case e10 =>
                refine' de_call c_is_whole hr pass0 ?a11 ?p12 ?n13
                case a11 =>
                  refine' da_cons ?e14 ?a15
                  case e14 =>
                    exact de_nm 0 rfl rfl (.inl rfl)
                  case a15 =>
                    exact da_nil
                case p12 => exact ⟨_, rfl, rfl, rfl⟩
                case n13 => rfl
          case e8 =>
            intro he8
            have hW1 := he8
            refine' dw_or1 ?e16
            case e16 =>
              refine' dt_cmp ?e17 ?e18 ?o19
              case e17 =>
                exact de_nm 0 rfl rfl (.inl rfl)
              case e18 =>
                exact de_int
              case o19 => walk_at "cmp"
      case k52 => walk_at "kn"
    case b4 =>
      refine' dss_nil ?_
      refine' dss_nil ?_
      rfl
abbrev s_need_bounds : Stmt := topS 13
theorem sc_need_bounds : FnScope ["a", "b"] ["a", "b"] (defScope s_need_bounds) := ⟨rfl, rfl, rfl, by decide +kernel, rfl, by decide +kernel, by decide +kernel⟩
theorem ok_need_bounds {f : Addr} {fd : FuncData} (F : Fun K "need_bounds" "need_bounds" s_need_bounds f fd) (c_need_distance : Cal P w K mg base CX0 2 "need_distance" ["thing"] (Sp0 K 1 preNeedDist)) : FnOk P w K mg base CX0 3 f fd ["a", "b"] (Sp0 K 2 preNeedBounds) := by
  refine fn0 (lv := 2) (N := ["a", "b"]) (ps := ["a", "b"]) F sc_need_bounds fun cdv A outer s H E hr ds r hp hl => ?_
  obtain ⟨a, b, ha, hb, rfl, rfl⟩ := hp
  refine' (show DSs _ _ [_, _] _ from ?_)
  refine' dss_cons ?s1
  case s1 =>
    refine' ds_expr ?e2 ?q3
    case e2 =>
      refine' de_call c_need_distance hr pass0 ?a4 ?p5 ?n6
      case a4 =>
        refine' da_cons ?e7 ?a8
        case e7 =>
          exact de_nm 0 rfl rfl (.inl rfl)
        case a8 =>
          exact da_nil
      case p5 => exact ⟨_, by walk_at "sd", rfl, rfl⟩
      case n6 => rfl
    case q3 =>
      refine' dss_cons ?s9
      case s9 =>
        refine' ds_expr ?e10 ?q11
        case e10 =>
          refine' de_call c_need_distance hr pass0 ?a12 ?p13 ?n14
          case a12 =>
            refine' da_cons ?e15 ?a16
            case e15 =>
              exact de_nm 1 rfl rfl (.inl rfl)
            case a16 =>
              exact da_nil
          case p13 => exact ⟨_, by walk_at "sd", rfl, rfl⟩
          case n14 => rfl
        case q11 =>
          refine' dss_cons ?s17
          case s17 =>
            refine' ds_ifF ?c18 ?b20
            case c18 =>
              refine' DT.cast ?k211 ?k212
              case k211 =>
                refine' dt_cmp ?e22 ?e23 ?o24
                case e22 =>
                  exact de_nm 0 rfl rfl (.inl rfl)
                case e23 =>
                  exact de_nm 1 rfl rfl (.inl rfl)
                case o24 => walk_at "cmp"
              case k212 => walk_at "kn"
            case b20 =>
              refine' dss_nil ?_
              refine' dss_nil ?_
              rfl
abbrev s_one_by : Stmt := topS 16
theorem sc_one_by : FnScope ["pairs", "n"] ["pairs", "n"] (defScope s_one_by) := ⟨rfl, rfl, rfl, by decide +kernel, rfl, by decide +kernel, by decide +kernel⟩
theorem ok_one_by {f : Addr} {fd : FuncData} (F : Fun K "one_by" "one_by" s_one_by f fd) (c_is_whole : Cal P w K mg base CX0 1 "is_whole" ["thing"] (Sp0 K 1 preWhole)) (m_len : mg "len" = none) : FnOk P w K mg base CX0 2 f fd ["pairs", "n"] (Sp0 K 2 preOneByK) := by
  refine fn0 (lv := 1) (N := ["pairs", "n"]) (ps := ["pairs", "n"]) F sc_one_by fun cdv A outer s H E hr ds r hp hl => ?_
  obtain ⟨f, l, n, q, hq, rfl, rfl⟩ := hp
  have hl := (List.getElem?_eq_some_iff.mp hq).1
  refine' (show DSs _ _ [_, _] _ from ?_)
  refine' dss_cons ?s1
  case s1 =>
    refine' ds_ifF ?c2 ?b4
    case c2 =>
      refine' DT.cast ?k51 ?k52
      case k51 =>
        refine' dt_w ?e6
        case e6 =>
          refine' dw_or ?e7 ?e8
          case e7 =>
            refine' dt_not ?e9
            case e9 =>
              refine' dt_val ?e10
              case e10 =>
                refine' de_call c_is_whole hr pass0 ?a11 ?p12 ?n13
                case a11 =>
                  refine' da_cons ?e14 ?a15
                  case e14 =>
                    exact de_nm 1 rfl rfl (.inl rfl)
                  case a15 =>
                    exact da_nil
                case p12 => exact ⟨_, rfl, rfl, rfl⟩
                case n13 => rfl
          case e8 =>
            intro he8
            have hW1 := he8
            refine' dw_or1 ?e16
            case e16 =>
              refine' dt_not ?e17
              case e17 =>
                refine' dt_chain ?e18 ?e19 ?e20 ?o21 ?o22
                case e18 =>
                  exact de_int
                case e19 =>
                  exact de_nm 1 rfl rfl (.inl rfl)
                case o21 => walk_at "cmp"
                case e20 =>
                  intro _
                  refine' de_b (id := "len") m_len ?a23 ?o24
                  case a23 =>
                    refine' da_cons ?e25 ?a26
                    case e25 =>
                      exact de_nm 0 rfl rfl (.inl rfl)
                    case a26 =>
                      exact da_nil
                  case o24 => walk_at "call"
                case o22 => intro _; walk_at "cmp"
      case k52 => rw [List.length_map, decide_eq_true (by omega), decide_eq_true (by omega)]; rfl
    case b4 =>
      refine' dss_nil ?_
      refine' dss_cons ?s27
      case s27 =>
        refine' ds_ret ?e28 ?q29
        case e28 =>
          refine' de_ix ?e30 ?e31 ?o32
          case e30 =>
            refine' de_ix ?e33 ?e34 ?o35
            case e33 =>
              exact de_nm 0 rfl rfl (.inl rfl)
            case e34 =>
              exact de_nm 1 rfl rfl (.inl rfl)
            case o35 => exact ix_l (prK_at hq)
          case e31 =>
            exact de_int
          case o32 => walk_at "ix"
        case q29 =>
          show _ = _
          walk_at "ret"
abbrev s_table_of : Stmt := topS 10
theorem sc_table_of : FnScope ["tree", "found", "up", "length", "row", "ahead", "far"] ["tree"] (defScope s_table_of) := ⟨rfl, rfl, rfl, by decide +kernel, rfl, by decide +kernel, by decide +kernel⟩
theorem ok_table_of {f : Addr} {fd : FuncData} (F : Fun K "table_of" "table_of" s_table_of f fd) (m_zip : mg "zip" = none) : FnOk P w K mg base CX0 1 f fd ["tree"] (Sp0 K 1 preTable) := by
  refine fn0 (lv := 0) (N := ["tree", "found", "up", "length", "row", "ahead", "far"]) (ps := ["tree"]) F sc_table_of fun cdv A outer s H E hr ds r hp hl => ?_
  obtain ⟨t, ht, rfl, rfl⟩ := hp
  have hfew := ht.few
  refine' (show DSs _ _ [_, .un, .un, .un, .un, .un, .un] _ from ?_)
  refine' dss_cons ?s1
  case s1 =>
    refine' ds_set 1 ?e2 ?q3 sc_table_of.nd rfl (.inl rfl)
    case e2 => exact de_lstLL1 (de_lst (da_cons de_int da_nil) rfl)
    case q3 =>
      refine' dss_cons ?s4
      case s4 =>
        refine' ds_for (fun m Δ => ∃ y2 y3 y4 y5 y6, Δ = [.im (treeD t), .ow none (rLL (rowsL t (m + 1) (m + 1))), y2, y3, y4, y5, y6]) ?i5 ?s6 PassesOwn.never rfl ?h7 ?d8
        case i5 =>
          refine' di_list ?e9
          case e9 =>
            exact de_nm 0 rfl rfl (.inl rfl)
        case s6 => (rw [← rowsL_one (t := t)]; exact ⟨_, _, _, _, _, rfl⟩)
        case h7 =>
          rintro m d Δi hd ⟨y2, y3, y4, y5, y6, rfl⟩
          obtain ⟨hm, rfl⟩ := tup_at hd
          have hu := ht.up_lt (p := m + 1) (by omega) (by omega)
          refine' ⟨_, _, dg_tup rfl (dgs_cons (dg_nm 2 sc_table_of.nd rfl (.inl rfl)) (dgs_cons (dg_nm 3 sc_table_of.nd rfl (.inr rfl)) (dgs_nil))) rfl, ?b10⟩
          case b10 =>
            refine' dss_cons ?s11
            case s11 =>
              refine' ds_setLcF 4 (dl_peek ?z12 ?e13 ?fe13) ?q14 rfl rfl (sw_true rfl rfl rfl rfl)
              case z12 => walk_at "fz"
              case e13 =>
                refine' dl_lcM (List.range (m + 1)) (fun j => .int (far t (up t (m + 1)) j)) (fun _ => true) (fun j => .int (far t (up t (m + 1)) j + ln t (m + 1))) (own := [("far", 6)]) ?i15 rfl sc_table_of.nd (blkOk_by (N := ["tree", "found", "up", "length", "row", "ahead", "far"]) (sc := defScope s_table_of) (by decide +kernel)) ?lh16 ?h16
                case i15 =>
                  refine' DI.cast ?ci15 (show rowD t (up t (m + 1)) (m + 1) = (List.range (m + 1)).map (fun j => D.int (far t (up t (m + 1)) j)) from rfl)
                  case ci15 =>
                    refine' di_list ?e17
                    case e17 =>
                      refine' de_ix ?e18 ?e19 ?o20
                      case e18 =>
                        exact de_nm 1 rfl rfl (.inl rfl)
                      case e19 =>
                        exact de_nm 2 rfl rfl (.inl rfl)
                      case o20 => walk_at "ix"
                case lh16 => walk_at "sd"
                case h16 =>
                  intro x hx
                  refine' ⟨_, _, fun s H C cl fp => dg_nm 6 sc_table_of.nd rfl (.inl rfl), ?jh21, fun s H C cl fp => ?th21, ?yh21, ?nh21⟩
                  case jh21 => decide
                  case th21 =>
                    exact dts_nil
                  case yh21 =>
                    intro hy s H C cl fp
                    refine' de_bin ?e22 ?e23 ?o24
                    case e22 =>
                      exact de_nm 6 rfl rfl (.inl rfl)
                    case e23 =>
                      exact de_nm 3 rfl rfl (.inr (.inl rfl))
                    case o24 => walk_at "bin"
                  case nh21 => rfl
              case fe13 => exact flat_mapI _ _
              case q14 =>
                rw [row_new ht hm]
                refine' dss_cons ?s25
                case s25 =>
                  refine' ds_openLL 1 rfl fun l as hla => ?o26
                  case o26 =>
                    refine' ds_forZ 1 (fun k Δ => ∃ y5 y6, Δ = [.im (treeD t), .ow none (rLLa l as (zipL t m k)), .im (.int (up t (m + 1))), .im (.int (ln t (m + 1))), .im (.lst (rowD t (m + 1) (m + 1))), y5, y6]) rfl (de_nm 4 rfl rfl (.inl rfl)) ?o27 ?o28 rfl (.inl rfl) m_zip PassesOwn.never rfl ?o29 ?o30
                    case o27 => exact ⟨_, _, rfl⟩
                    case o28 =>
                      rintro k Δi ⟨y5, y6, rfl⟩
                      exact ⟨_, _, rfl⟩
                    case o29 =>
                      rintro k q f Δi hq hf ⟨y5, y6, rfl⟩
                      obtain ⟨hk, rfl⟩ := row_get hf
                      refine' ⟨_, _, dg_tup rfl (dgs_cons (dg_nm 5 sc_table_of.nd rfl (.inl rfl)) (dgs_cons (dg_nm 6 sc_table_of.nd rfl (.inl rfl)) (dgs_nil))) rfl, ?o31⟩
                      case o31 =>
                        refine' dss_cons (ds_expr ?eo31 ?qo31)
                        case eo31 =>
                          refine' de_mtAl 1 PySem.F.plainAttrs_list PySem.F.slot_list_append PySem.F.type_list_append (de_nm 5 rfl rfl (.inl rfl)) rfl (da_cons (de_nm 6 rfl rfl (.inl rfl)) da_nil) rfl hq (zipL_get hk) (mt_app (by rw [rowD_length]; omega))
                        case qo31 =>
                          refine' dss_nil ?_
                          exact ⟨_, _, by rw [← far_comm ht (by omega) (by omega), zipL_set hk]; rfl⟩
                    case o30 =>
                      rintro Δn ⟨y5, y6, rfl⟩
                      rw [hla, rowsL_length, rowD_length, Nat.min_self, zipL_full]
                      refine ⟨_, rfl, ?_⟩
                      refine' dss_cons ?s33
                      case s33 =>
                        refine' ds_expr ?ae34 ?q35
                        case ae34 =>
                          refine' de_appLL 1 rfl ?e34 ?ie34 ?le34 rfl (.inl rfl)
                          case e34 =>
                            refine' de_binN ?e37 ?e38 ?o39
                            case e37 =>
                              exact de_nm 4 rfl rfl (.inl rfl)
                            case e38 =>
                              refine' de_frz ?e40 frz_lst
                              case e40 =>
                                refine' de_lst ?a41 ?l42
                                case a41 =>
                                  refine' da_cons ?e43 ?a44
                                  case e43 =>
                                    exact de_int
                                  case a44 =>
                                    exact da_nil
                                case l42 => rfl
                            case o39 => walk_at "binN"
                          case ie34 => rfl
                          case le34 => (rw [rowsL_length]; omega)
                        case q35 =>
                          refine' dss_nil ?_
                          exact ⟨_, _, _, _, _, by rw [rows_new ht hm]; rfl⟩
        case d8 =>
          rintro Δn ⟨y2, y3, y4, y5, y6, rfl⟩
          rw [List.length_map]
          refine' dss_cons ?s45
          case s45 =>
            refine' ds_ret ?e46 ?q47
            case e46 =>
              exact de_nmM 1 rfl rfl (.inl rfl)
            case q47 =>
              show _ = _
              walk_at "ret"
abbrev s_pairs_of : Stmt := topS 14
theorem sc_pairs_of : FnScope ["tree", "found", "i", "row", "j"] ["tree"] (defScope s_pairs_of) := ⟨rfl, rfl, rfl, by decide +kernel, rfl, by decide +kernel, by decide +kernel⟩
theorem ok_pairs_of {f : Addr} {fd : FuncData} (F : Fun K "pairs_of" "pairs_of" s_pairs_of f fd) (c_table_of : Cal P w K mg base CX0 1 "table_of" ["tree"] (Sp0 K 1 preTable)) (m_enumerate : mg "enumerate" = none) (m_range : mg "range" = none) (m_len : mg "len" = none) : FnOk P w K mg base CX0 2 f fd ["tree"] (Sp0 K 1 prePairs) := by
  refine fn0 (lv := 1) (N := ["tree", "found", "i", "row", "j"]) (ps := ["tree"]) F sc_pairs_of fun cdv A outer s H E hr ds r hp hl => ?_
  obtain ⟨t, ht, rfl, rfl⟩ := hp
  have hfew := ht.few
  refine' (show DSs _ _ [_, .un, .un, .un, .un] _ from ?_)
  refine' dss_cons ?s1
  case s1 =>
    refine' ds_set 1 ?e2 ?q3 sc_pairs_of.nd rfl (.inl rfl)
    case e2 =>
      refine' de_lst ?a4 ?l5
      case a4 =>
        exact da_nil
      case l5 => rfl
    case q3 =>
      refine' dss_cons ?s6
      case s6 =>
        refine' ds_for (fun k Δ => ∃ y2 y3, Δ = [.im (treeD t), .ow none (rLst (prs t (t.length + 1) k)), y2, y3, .un]) ?i7 ?s8 PassesOwn.never rfl ?h9 ?d10
        case i7 =>
          refine' di_enum m_enumerate ?a11
          case a11 =>
            refine' da_cons ?e13 ?a14
            case e13 =>
              refine' de_frz ?e15 frz_ll
              case e15 =>
                refine' de_call c_table_of hr pass0 ?a16 ?p17 ?n18
                case a16 =>
                  refine' da_cons ?e19 ?a20
                  case e19 =>
                    exact de_nm 0 rfl rfl (.inl rfl)
                  case a20 =>
                    exact da_nil
                case p17 => exact ⟨_, by assumption, rfl, rfl⟩
                case n18 => rfl
            case a14 =>
              exact da_nil
        case s8 => exact ⟨_, _, rfl⟩
        case h9 =>
          rintro k d Δi hd ⟨y2, y3, rfl⟩
          obtain ⟨hk, rfl⟩ := enum_rows hd
          refine' ⟨_, _, dg_tup rfl (dgs_cons (dg_nm 2 sc_pairs_of.nd rfl (.inr rfl)) (dgs_cons (dg_nm 3 sc_pairs_of.nd rfl (.inr rfl)) (dgs_nil))) rfl, ?b21⟩
          case b21 =>
            refine' dss_cons ?s22
            case s22 =>
              refine' ds_expr ?e23 ?q24
              case e23 =>
                refine' de_mt (T := "list") 1 PySem.F.plainAttrs_list PySem.F.slot_list_extend PySem.F.type_list_extend rfl (.inl rfl) ?a26 ⟨_, _, rfl⟩ ?ra26 ?o25
                case a26 =>
                  refine' da_cons ?e27 ?a28
                  case e27 =>
                    refine' de_frz ?e29 frz_lst
                    case e29 =>
                      refine' DLc.de ?e30
                      case e30 =>
                        refine' dl_lcM (List.range (t.length + 1 - (k + 1))) (fun j => .int ((k + 1 + j : Nat) : Int)) (fun _ => true) (fun j => prD t k (k + 1 + j)) (own := [("j", 4)]) ?i31 rfl sc_pairs_of.nd (blkOk_by (N := ["tree", "found", "i", "row", "j"]) (sc := defScope s_pairs_of) (by decide +kernel)) ?lh32 ?h32
                        case i31 =>
                          refine' DI.cast ?ci31 (rng_from_row _ _ _)
                          case ci31 =>
                            refine' di_rng2 m_range ?a33 ?b34
                            case a33 =>
                              refine' da_cons ?e35 ?a36
                              case e35 =>
                                refine' de_bin ?e37 ?e38 ?o39
                                case e37 =>
                                  exact de_nm 2 rfl rfl (.inr (.inl rfl))
                                case e38 =>
                                  exact de_int
                                case o39 => walk_at "bin"
                              case a36 =>
                                refine' da_cons ?e40 ?a41
                                case e40 =>
                                  refine' de_b (id := "len") m_len ?a42 ?o43
                                  case a42 =>
                                    refine' da_cons ?e44 ?a45
                                    case e44 =>
                                      exact de_nm 3 rfl rfl (.inr (.inl rfl))
                                    case a45 =>
                                      exact da_nil
                                  case o43 => walk_at "call"
                                case a41 =>
                                  exact da_nil
                            case b34 => walk_at "sd"
                        case lh32 => walk_at "sd"
                        case h32 =>
                          intro x hx
                          have hxl := List.mem_range.mp hx
                          refine' ⟨_, _, fun s H C cl fp => dg_nm 4 sc_pairs_of.nd rfl (.inl rfl), ?jh46, fun s H C cl fp => ?th46, ?yh46, ?nh46⟩
                          case jh46 => decide
                          case th46 =>
                            exact dts_nil
                          case yh46 =>
                            intro hy s H C cl fp
                            refine' de_tup ?a47 ?l48
                            case a47 =>
                              refine' da_cons ?e49 ?a50
                              case e49 =>
                                refine' de_ix ?e51 ?e52 ?o53
                                case e51 =>
                                  exact de_nm 3 rfl rfl (.inr (.inl rfl))
                                case e52 =>
                                  exact de_nm 4 rfl rfl (.inl rfl)
                                case o53 => walk_at "ix"
                              case a50 =>
                                refine' da_cons ?e54 ?a55
                                case e54 =>
                                  refine' de_tup ?a56 ?l57
                                  case a56 =>
                                    refine' da_cons ?e58 ?a59
                                    case e58 =>
                                      exact de_nm 2 rfl rfl (.inr (.inl rfl))
                                    case a59 =>
                                      refine' da_cons ?e60 ?a61
                                      case e60 =>
                                        exact de_nm 4 rfl rfl (.inl rfl)
                                      case a61 =>
                                        exact da_nil
                                  case l57 => rfl
                                case a55 =>
                                  exact da_nil
                            case l48 => rfl
                          case nh46 => rfl
                  case a28 =>
                    exact da_nil
                case ra26 => rfl
                case o25 => exact mt_ext (pr_extl ht hk)
              case q24 =>
                refine' dss_nil ?_
                exact ⟨_, _, by rw [← pr_step]; rfl⟩
        case d10 =>
          rintro Δn ⟨y2, y3, rfl⟩
          rw [enum_rows_len]
          refine' dss_cons ?s62
          case s62 =>
            refine' ds_ret ?e63 ?q64
            case e63 =>
              exact de_nmM 1 rfl rfl (.inl rfl)
            case q64 =>
              show _ = _
              walk_at "ret"
abbrev s_nth_from : Stmt := topS 17
theorem sc_nth_from : FnScope ["tree", "a", "b", "n", "far", "some", "distance", "pair"] ["tree", "a", "b", "n", "far"] (defScope s_nth_from) := ⟨rfl, rfl, rfl, by decide +kernel, rfl, by decide +kernel, by decide +kernel⟩
theorem ok_nth_from {f : Addr} {fd : FuncData} (F : Fun K "nth_from" "nth_from" s_nth_from f fd) (c_need_tree : Cal P w K mg base CX0 4 "need_tree" ["thing"] (Sp0 K 1 preNeedTree)) (c_need_bounds : Cal P w K mg base CX0 3 "need_bounds" ["a", "b"] (Sp0 K 2 preNeedBounds)) (c_one_by : Cal P w K mg base CX0 2 "one_by" ["pairs", "n"] (Sp0 K 2 preOneByK)) (c_pairs_of : Cal P w K mg base CX0 2 "pairs_of" ["tree"] (Sp0 K 1 prePairs)) (m_sorted : mg "sorted" = none) : FnOk P w K mg base CX0 5 f fd ["tree", "a", "b", "n", "far"] (Sp0 K 5 preNthFrom) := by
  refine fn0 (lv := 4) (N := ["tree", "a", "b", "n", "far", "some", "distance", "pair"]) (ps := ["tree", "a", "b", "n", "far"]) F sc_nth_from fun cdv A outer s H E hr ds r hp hl => ?_
  obtain ⟨t, a, b, n, fl, q, ht, ha, hab, hq, rfl, rfl⟩ := hp
  have hlen := allP_len ht
  refine' (show DSs _ _ [_, _, _, _, _, .un, .un, .un] _ from ?_)
  refine' dss_cons ?s1
  case s1 =>
    refine' ds_expr ?e2 ?q3
    case e2 =>
      refine' de_call c_need_tree hr pass0 ?a4 ?p5 ?n6
      case a4 =>
        refine' da_cons ?e7 ?a8
        case e7 =>
          exact de_nm 0 rfl rfl (.inl rfl)
        case a8 =>
          exact da_nil
      case p5 => exact ⟨_, by assumption, rfl, rfl⟩
      case n6 => rfl
    case q3 =>
      refine' dss_cons ?s9
      case s9 =>
        refine' ds_expr ?e10 ?q11
        case e10 =>
          refine' de_call c_need_bounds hr pass0 ?a12 ?p13 ?n14
          case a12 =>
            refine' da_cons ?e15 ?a16
            case e15 =>
              exact de_nm 1 rfl rfl (.inr (.inl rfl))
            case a16 =>
              refine' da_cons ?e17 ?a18
              case e17 =>
                exact de_nm 2 rfl rfl (.inr (.inl rfl))
              case a18 =>
                exact da_nil
          case p13 => exact ⟨_, _, by walk_at "sd", by walk_at "sd", rfl, rfl⟩
          case n14 => rfl
        case q11 =>
          refine' dss_cons ?s19
          case s19 =>
            refine' ds_setLcF 5 ?e20 ?q21 rfl rfl (sw_true rfl rfl rfl rfl)
            case e20 =>
              refine' dl_lcM (allP t) (fun q => .tup [.int (far t q.1 q.2), .tup [.int (q.1 : Nat), .int (q.2 : Nat)]]) (fun q => (decide (a ≤ far t q.1 q.2) && decide (far t q.1 q.2 ≤ b))) (prFar t) (own := [("distance", 6), ("pair", 7)]) ?i22 rfl sc_nth_from.nd (blkOk_by (N := ["tree", "a", "b", "n", "far", "some", "distance", "pair"]) (sc := defScope s_nth_from) (by decide +kernel)) ?lh23 ?h23
              case i22 =>
                refine' DI.cast ?ci22 (prs_all t)
                case ci22 =>
                  refine' di_list ?e24
                  case e24 =>
                    refine' de_frz ?e25 frz_lst
                    case e25 =>
                      refine' de_call c_pairs_of hr pass0 ?a26 ?p27 ?n28
                      case a26 =>
                        refine' da_cons ?e29 ?a30
                        case e29 =>
                          exact de_nm 0 rfl rfl (.inl rfl)
                        case a30 =>
                          exact da_nil
                      case p27 => exact ⟨_, by assumption, rfl, rfl⟩
                      case n28 => rfl
              case lh23 => exact Nat.le_trans hlen (by decide)
              case h23 =>
                intro q hq
                refine' ⟨_, _, fun s H C cl fp => dg_tup rfl (dgs_cons (dg_nm 6 sc_nth_from.nd rfl (.inl rfl)) (dgs_cons (dg_nm 7 sc_nth_from.nd rfl (.inl rfl)) (dgs_nil))) rfl, ?jh31, fun s H C cl fp => ?th31, ?yh31, ?nh31⟩
                case jh31 => decide
                case th31 =>
                  refine' dts_one ?c32
                  case c32 =>
                    refine' dt_chain ?e33 ?e34 ?e35 ?o36 ?o37
                    case e33 =>
                      exact de_nm 1 rfl rfl (.inr (.inl rfl))
                    case e34 =>
                      exact de_nm 6 rfl rfl (.inl rfl)
                    case o36 => walk_at "cmp"
                    case e35 =>
                      intro _
                      exact de_nm 2 rfl rfl (.inr (.inl rfl))
                    case o37 => intro _; walk_at "cmp"
                case yh31 =>
                  intro hy s H C cl fp
                  refine' de_tup ?a38 ?l39
                  case a38 =>
                    refine' da_cons ?e40 ?a41
                    case e40 =>
                      exact de_nm 6 rfl rfl (.inl rfl)
                    case a41 =>
                      refine' da_cons ?e42 ?a43
                      case e42 =>
                        exact de_nm 7 rfl rfl (.inl rfl)
                      case a43 =>
                        exact da_nil
                  case l39 => rfl
                case nh31 => rfl
            case q21 =>
              refine' dss_cons ?s44
              case s44 =>
                refine' ds_if ?c45 ?b46 ?b47
                case c45 =>
                  refine' dt_val ?e48
                  case e48 =>
                    exact de_nm 4 rfl rfl (.inl rfl)
                case b46 =>
                  intro hb46
                  have hI1 := hb46
                  subst hI1
                  refine' dss_cons ?s49
                  case s49 =>
                    refine' ds_set 5 ?e50 ?q51 sc_nth_from.nd rfl (.inl rfl)
                    case e50 =>
                      refine' de_frz ?e52 frz_lst
                      case e52 =>
                        refine' de_bN (id := "sorted") m_sorted ?a53 ?o54
                        case a53 =>
                          refine' da_cons ?e55 ?a56
                          case e55 =>
                            refine' de_frz ?e57 frz_lst
                            case e57 =>
                              refine' DLc.de ?e58
                              case e58 =>
                                refine' dl_lcM (fromP t a b) (prFar t) (fun _ => true) (prK (nfK t true)) (own := [("distance", 6), ("pair", 7)]) ?i59 rfl sc_nth_from.nd (blkOk_by (N := ["tree", "a", "b", "n", "far", "some", "distance", "pair"]) (sc := defScope s_nth_from) (by decide +kernel)) ?lh60 ?h60
                                case i59 =>
                                  refine' di_list ?e61
                                  case e61 =>
                                    exact de_nm 5 rfl rfl (.inl rfl)
                                case lh60 => exact Nat.le_trans (List.length_filter_le _ _) (Nat.le_trans hlen (by decide))
                                case h60 =>
                                  intro q hq
                                  refine' ⟨_, _, fun s H C cl fp => dg_tup rfl (dgs_cons (dg_nm 6 sc_nth_from.nd rfl (.inl rfl)) (dgs_cons (dg_nm 7 sc_nth_from.nd rfl (.inl rfl)) (dgs_nil))) rfl, ?jh62, fun s H C cl fp => ?th62, ?yh62, ?nh62⟩
                                  case jh62 => decide
                                  case th62 =>
                                    exact dts_nil
                                  case yh62 =>
                                    intro hy s H C cl fp
                                    refine' de_tup ?a63 ?l64
                                    case a63 =>
                                      refine' da_cons ?e65 ?a66
                                      case e65 =>
                                        refine' de_bin ?e67 ?e68 ?o69
                                        case e67 =>
                                          exact de_int
                                        case e68 =>
                                          exact de_nm 6 rfl rfl (.inl rfl)
                                        case o69 => walk_at "bin"
                                      case a66 =>
                                        refine' da_cons ?e70 ?a71
                                        case e70 =>
                                          exact de_nm 7 rfl rfl (.inl rfl)
                                        case a71 =>
                                          exact da_nil
                                    case l64 => rfl
                                  case nh62 => rfl
                          case a56 =>
                            exact da_nil
                        case o54 => exact cn_srtF hr.units
                    case q51 =>
                      refine' dss_nil ?_
                      refine' dss_cons ?s72
                      case s72 =>
                        refine' ds_ret ?e73 ?q74
                        case e73 =>
                          refine' de_call c_one_by hr pass0 ?a75 ?p76 ?n77
                          case a75 =>
                            refine' da_cons ?e78 ?a79
                            case e78 =>
                              refine' de_frz ?e80 frz_lst
                              case e80 =>
                                refine' de_bN (id := "sorted") m_sorted ?a81 ?o82
                                case a81 =>
                                  refine' da_cons ?e83 ?a84
                                  case e83 =>
                                    exact de_nm 5 rfl rfl (.inl rfl)
                                  case a84 =>
                                    exact da_nil
                                case o82 => exact cn_srtK hr.units
                            case a79 =>
                              refine' da_cons ?e85 ?a86
                              case e85 =>
                                exact de_nm 3 rfl rfl (.inl rfl)
                              case a86 =>
                                exact da_nil
                          case p76 => exact ⟨nfK t true, srtK (nfK t true) (srtK (nfK t true) (fromP t a b)), n, q, by rw [srtK_twice (from_nd t a b)]; exact hq, rfl, rfl⟩
                          case n77 => rfl
                        case q74 =>
                          show _ = _
                          walk_at "ret"
                case b47 =>
                  intro hb47
                  have hI1 := hb47
                  subst hI1
                  refine' dss_nil ?_
                  refine' dss_cons ?s87
                  case s87 =>
                    refine' ds_ret ?e88 ?q89
                    case e88 =>
                      refine' de_call c_one_by hr pass0 ?a90 ?p91 ?n92
                      case a90 =>
                        refine' da_cons ?e93 ?a94
                        case e93 =>
                          refine' de_frz ?e95 frz_lst
                          case e95 =>
                            refine' de_bN (id := "sorted") m_sorted ?a96 ?o97
                            case a96 =>
                              refine' da_cons ?e98 ?a99
                              case e98 =>
                                exact de_nm 5 rfl rfl (.inl rfl)
                              case a99 =>
                                exact da_nil
                            case o97 => exact cn_srtK (f := farP t) hr.units
                        case a94 =>
                          refine' da_cons ?e100 ?a101
                          case e100 =>
                            exact de_nm 3 rfl rfl (.inl rfl)
                          case a101 =>
                            exact da_nil
                      case p91 => exact ⟨farP t, _, n, q, hq, rfl, rfl⟩
                      case n92 => rfl
                    case q89 =>
                      show _ = _
                      walk_at "ret"
abbrev s_l_told : Stmt := topS 33
theorem sc_l_told : FnScope ["tree", "a", "b", "n", "far", "found", "refused"] ["tree", "a", "b", "n", "far"] (defScope s_l_told) := ⟨rfl, rfl, rfl, by decide +kernel, rfl, by decide +kernel, by decide +kernel⟩
theorem ok_l_told_Y {f : Addr} {fd : FuncData} (F : Fun K "_law_told" "_law_told" s_l_told f fd) {C_NoNumber : Addr} (c_nth_from : Cal P w K mg base CX0 5 "nth_from" ["tree", "a", "b", "n", "far"] (Sp0 K 5 preNthFrom)) (xn_NoNumber : Exn K mg "NoNumber" C_NoNumber) : FnOk P w K mg base CX0 6 f fd ["tree", "a", "b", "n", "far"] (Sp0 K 5 preToldY) := by
  refine fn0 (lv := 5) (N := ["tree", "a", "b", "n", "far", "found", "refused"]) (ps := ["tree", "a", "b", "n", "far"]) F sc_l_told fun cdv A outer s H E hr ds r hp hl => ?_
  obtain ⟨t, a, b, n, fl, q, ht, ha, hab, hq, rfl, rfl⟩ := hp
  refine' (show DSs _ _ [_, _, _, _, _, .un, .un] _ from ?_)
  refine' dss_cons ?s1
  case s1 =>
    refine' ds_set 5 ?e2 ?q3 sc_l_told.nd rfl (.inl rfl)
    case e2 =>
      exact de_non
    case q3 =>
      refine' dss_cons ?s4
      case s4 =>
        refine' ds_set 6 ?e5 ?q6 sc_l_told.nd rfl (.inl rfl)
        case e5 =>
          exact de_bl
        case q6 =>
          refine' dss_cons ?s7
          case s7 =>
            refine' ds_tryN rfl rfl ⟨rfl, by decide, .inl xn_NoNumber.g⟩ takes0 ?b8
            case b8 =>
              intro pn xe W tk po
              refine' dss_cons ?s10
              case s10 =>
                refine' ds_set 5 ?e11 ?q12 sc_l_told.nd rfl (.inl rfl)
                case e11 =>
                  refine' de_call c_nth_from hr pass0 ?a13 ?p14 ?n15
                  case a13 =>
                    refine' da_cons ?e16 ?a17
                    case e16 =>
                      exact de_nm 0 rfl rfl (.inl rfl)
                    case a17 =>
                      refine' da_cons ?e18 ?a19
                      case e18 =>
                        exact de_nm 1 rfl rfl (.inl rfl)
                      case a19 =>
                        refine' da_cons ?e20 ?a21
                        case e20 =>
                          exact de_nm 2 rfl rfl (.inl rfl)
                        case a21 =>
                          refine' da_cons ?e22 ?a23
                          case e22 =>
                            exact de_nm 3 rfl rfl (.inl rfl)
                          case a23 =>
                            refine' da_cons ?e24 ?a25
                            case e24 =>
                              exact de_nm 4 rfl rfl (.inl rfl)
                            case a25 =>
                              exact da_nil
                  case p14 => exact ⟨_, _, _, _, _, _, by assumption, by omega, by omega, by assumption, rfl, rfl⟩
                  case n15 => rfl
                case q12 =>
                  refine' dss_nil ?_
                  refine' dss_cons ?s26
                  case s26 =>
                    refine' ds_ret ?e27 ?q28
                    case e27 =>
                      refine' de_tup ?a29 ?l30
                      case a29 =>
                        refine' da_cons ?e31 ?a32
                        case e31 =>
                          exact de_nm 6 rfl rfl (.inl rfl)
                        case a32 =>
                          refine' da_cons ?e33 ?a34
                          case e33 =>
                            exact de_nm 5 rfl rfl (.inl rfl)
                          case a34 =>
                            exact da_nil
                      case l30 => rfl
                    case q28 =>
                      show _ = _
                      walk_at "ret"
theorem okX_one_by_NoNumber {f : Addr} {fd : FuncData} (F : Fun K "one_by" "one_by" s_one_by f fd) {C_NoNumber : Addr} (c_is_whole : Cal P w K mg base CX0 1 "is_whole" ["thing"] (Sp0 K 1 preWhole)) (m_len : mg "len" = none) (xn_NoNumber : Exn K mg "NoNumber" C_NoNumber) : FnOk P w K mg base (L2.CX P w) 2 f fd ["pairs", "n"] (SpX K 2 preOneByX (.ref C_NoNumber)) := by
  refine fnX (lv := 1) (N := ["pairs", "n"]) (ps := ["pairs", "n"]) F sc_one_by fun cdv A outer s H E W hr tk ds hp hl => ?_
  obtain ⟨f, l, n, hn, rfl⟩ := hp
  refine' (show DSx _ _ _ _ [_, _] (fun _ => True) from ?_)
  refine' dsx_here ?s1
  case s1 =>
    refine' dx1_ifT (DT.cast ?k41 ?k42) ?b3
    case k41 =>
      refine' dt_w ?e5
      case e5 =>
        refine' dw_or ?e6 ?e7
        case e6 =>
          refine' dt_not ?e8
          case e8 =>
            refine' dt_val ?e9
            case e9 =>
              refine' de_call c_is_whole hr pass0 ?a10 ?p11 ?n12
              case a10 =>
                refine' da_cons ?e13 ?a14
                case e13 =>
                  exact de_nm 1 rfl rfl (.inl rfl)
                case a14 =>
                  exact da_nil
              case p11 => exact ⟨_, rfl, rfl, rfl⟩
              case n12 => rfl
        case e7 =>
          intro he7
          have hW1 := he7
          refine' dw_or1 ?e15
          case e15 =>
            refine' dt_not ?e16
            case e16 =>
              refine' dt_chain ?e17 ?e18 ?e19 ?o20 ?o21
              case e17 =>
                exact de_int
              case e18 =>
                exact de_nm 1 rfl rfl (.inl rfl)
              case o20 => walk_at "cmp"
              case e19 =>
                intro _
                refine' de_b (id := "len") m_len ?a22 ?o23
                case a22 =>
                  refine' da_cons ?e24 ?a25
                  case e24 =>
                    exact de_nm 0 rfl rfl (.inl rfl)
                  case a25 =>
                    exact da_nil
                case o23 => walk_at "call"
              case o21 => intro _; walk_at "cmp"
    case k42 => (rw [List.length_map]; simp only [D.whole, Bool.not_true, Bool.false_or]; rw [decide_eq_true (by omega), decide_eq_false (by omega)]; rfl)
    case b3 =>
      refine' dsx_here ?s26
      case s26 =>
        exact dx1_raise rfl tk xn_NoNumber (by first | exact trivial | exact rfl)
theorem okX_nth_from_NoNumber {f : Addr} {fd : FuncData} (F : Fun K "nth_from" "nth_from" s_nth_from f fd) {C_NoNumber : Addr} (c_need_tree : Cal P w K mg base CX0 4 "need_tree" ["thing"] (Sp0 K 1 preNeedTree)) (c_need_bounds : Cal P w K mg base CX0 3 "need_bounds" ["a", "b"] (Sp0 K 2 preNeedBounds)) (c_one_by : Cal P w K mg base CX0 2 "one_by" ["pairs", "n"] (Sp0 K 2 preOneByK)) (c_pairs_of : Cal P w K mg base CX0 2 "pairs_of" ["tree"] (Sp0 K 1 prePairs)) (cx_one_by_NoNumber : Cal P w K mg base (L2.CX P w) 2 "one_by" ["pairs", "n"] (SpX K 2 preOneByX (.ref C_NoNumber))) (m_sorted : mg "sorted" = none) (xn_NoNumber : Exn K mg "NoNumber" C_NoNumber) : FnOk P w K mg base (L2.CX P w) 5 f fd ["tree", "a", "b", "n", "far"] (SpX K 5 preNthFromX (.ref C_NoNumber)) := by
  refine fnX (lv := 4) (N := ["tree", "a", "b", "n", "far", "some", "distance", "pair"]) (ps := ["tree", "a", "b", "n", "far"]) F sc_nth_from fun cdv A outer s H E W hr tk ds hp hl => ?_
  obtain ⟨t, a, b, n, fl, ht, ha, hab, hn, rfl⟩ := hp
  have hlen := allP_len ht
  refine' (show DSx _ _ _ _ [_, _, _, _, _, .un, .un, .un] (fun _ => True) from ?_)
  refine' dsx_cons ?s1
  case s1 =>
    refine' ds_expr ?e2 ?q3
    case e2 =>
      refine' de_call c_need_tree hr pass0 ?a4 ?p5 ?n6
      case a4 =>
        refine' da_cons ?e7 ?a8
        case e7 =>
          exact de_nm 0 rfl rfl (.inl rfl)
        case a8 =>
          exact da_nil
      case p5 => exact ⟨_, by assumption, rfl, rfl⟩
      case n6 => rfl
    case q3 =>
      refine' dsx_cons ?s9
      case s9 =>
        refine' ds_expr ?e10 ?q11
        case e10 =>
          refine' de_call c_need_bounds hr pass0 ?a12 ?p13 ?n14
          case a12 =>
            refine' da_cons ?e15 ?a16
            case e15 =>
              exact de_nm 1 rfl rfl (.inr (.inl rfl))
            case a16 =>
              refine' da_cons ?e17 ?a18
              case e17 =>
                exact de_nm 2 rfl rfl (.inr (.inl rfl))
              case a18 =>
                exact da_nil
          case p13 => exact ⟨_, _, by walk_at "sd", by walk_at "sd", rfl, rfl⟩
          case n14 => rfl
        case q11 =>
          refine' dsx_cons ?s19
          case s19 =>
            refine' ds_setLcF 5 ?e20 ?q21 rfl rfl (sw_true rfl rfl rfl rfl)
            case e20 =>
              refine' dl_lcM (allP t) (fun q => .tup [.int (far t q.1 q.2), .tup [.int (q.1 : Nat), .int (q.2 : Nat)]]) (fun q => (decide (a ≤ far t q.1 q.2) && decide (far t q.1 q.2 ≤ b))) (prFar t) (own := [("distance", 6), ("pair", 7)]) ?i22 rfl sc_nth_from.nd (blkOk_by (N := ["tree", "a", "b", "n", "far", "some", "distance", "pair"]) (sc := defScope s_nth_from) (by decide +kernel)) ?lh23 ?h23
              case i22 =>
                refine' DI.cast ?ci22 (prs_all t)
                case ci22 =>
                  refine' di_list ?e24
                  case e24 =>
                    refine' de_frz ?e25 frz_lst
                    case e25 =>
                      refine' de_call c_pairs_of hr pass0 ?a26 ?p27 ?n28
                      case a26 =>
                        refine' da_cons ?e29 ?a30
                        case e29 =>
                          exact de_nm 0 rfl rfl (.inl rfl)
                        case a30 =>
                          exact da_nil
                      case p27 => exact ⟨_, by assumption, rfl, rfl⟩
                      case n28 => rfl
              case lh23 => exact Nat.le_trans hlen (by decide)
              case h23 =>
                intro q hq
                refine' ⟨_, _, fun s H C cl fp => dg_tup rfl (dgs_cons (dg_nm 6 sc_nth_from.nd rfl (.inl rfl)) (dgs_cons (dg_nm 7 sc_nth_from.nd rfl (.inl rfl)) (dgs_nil))) rfl, ?jh31, fun s H C cl fp => ?th31, ?yh31, ?nh31⟩
                case jh31 => decide
                case th31 =>
                  refine' dts_one ?c32
                  case c32 =>
                    refine' dt_chain ?e33 ?e34 ?e35 ?o36 ?o37
                    case e33 =>
                      exact de_nm 1 rfl rfl (.inr (.inl rfl))
                    case e34 =>
                      exact de_nm 6 rfl rfl (.inl rfl)
                    case o36 => walk_at "cmp"
                    case e35 =>
                      intro _
                      exact de_nm 2 rfl rfl (.inr (.inl rfl))
                    case o37 => intro _; walk_at "cmp"
                case yh31 =>
                  intro hy s H C cl fp
                  refine' de_tup ?a38 ?l39
                  case a38 =>
                    refine' da_cons ?e40 ?a41
                    case e40 =>
                      exact de_nm 6 rfl rfl (.inl rfl)
                    case a41 =>
                      refine' da_cons ?e42 ?a43
                      case e42 =>
                        exact de_nm 7 rfl rfl (.inl rfl)
                      case a43 =>
                        exact da_nil
                  case l39 => rfl
                case nh31 => rfl
            case q21 =>
              refine' dsx_cons ?s44
              case s44 =>
                refine' ds_if ?c45 ?b46 ?b47
                case c45 =>
                  refine' dt_val ?e48
                  case e48 =>
                    exact de_nm 4 rfl rfl (.inl rfl)
                case b46 =>
                  intro hb46
                  have hI1 := hb46
                  subst hI1
                  refine' dss_cons ?s49
                  case s49 =>
                    refine' ds_set 5 ?e50 ?q51 sc_nth_from.nd rfl (.inl rfl)
                    case e50 =>
                      refine' de_frz ?e52 frz_lst
                      case e52 =>
                        refine' de_bN (id := "sorted") m_sorted ?a53 ?o54
                        case a53 =>
                          refine' da_cons ?e55 ?a56
                          case e55 =>
                            refine' de_frz ?e57 frz_lst
                            case e57 =>
                              refine' DLc.de ?e58
                              case e58 =>
                                refine' dl_lcM (fromP t a b) (prFar t) (fun _ => true) (prK (nfK t true)) (own := [("distance", 6), ("pair", 7)]) ?i59 rfl sc_nth_from.nd (blkOk_by (N := ["tree", "a", "b", "n", "far", "some", "distance", "pair"]) (sc := defScope s_nth_from) (by decide +kernel)) ?lh60 ?h60
                                case i59 =>
                                  refine' di_list ?e61
                                  case e61 =>
                                    exact de_nm 5 rfl rfl (.inl rfl)
                                case lh60 => exact Nat.le_trans (List.length_filter_le _ _) (Nat.le_trans hlen (by decide))
                                case h60 =>
                                  intro q hq
                                  refine' ⟨_, _, fun s H C cl fp => dg_tup rfl (dgs_cons (dg_nm 6 sc_nth_from.nd rfl (.inl rfl)) (dgs_cons (dg_nm 7 sc_nth_from.nd rfl (.inl rfl)) (dgs_nil))) rfl, ?jh62, fun s H C cl fp => ?th62, ?yh62, ?nh62⟩
                                  case jh62 => decide
                                  case th62 =>
                                    exact dts_nil
                                  case yh62 =>
                                    intro hy s H C cl fp
                                    refine' de_tup ?a63 ?l64
                                    case a63 =>
                                      refine' da_cons ?e65 ?a66
                                      case e65 =>
                                        refine' de_bin ?e67 ?e68 ?o69
                                        case e67 =>
                                          exact de_int
                                        case e68 =>
                                          exact de_nm 6 rfl rfl (.inl rfl)
                                        case o69 => walk_at "bin"
                                      case a66 =>
                                        refine' da_cons ?e70 ?a71
                                        case e70 =>
                                          exact de_nm 7 rfl rfl (.inl rfl)
                                        case a71 =>
                                          exact da_nil
                                    case l64 => rfl
                                  case nh62 => rfl
                          case a56 =>
                            exact da_nil
                        case o54 => exact cn_srtF hr.units
                    case q51 =>
                      refine' dss_nil ?_
                      refine' dsx_here ?s72
                      case s72 =>
                        refine' dx1_ret ?e73
                        case e73 =>
                          refine' dex_call cx_one_by_NoNumber hr tk ?a74 ?p75 ?ra74 ?n76
                          case a74 =>
                            refine' da_cons ?e77 ?a78
                            case e77 =>
                              refine' de_frz ?e79 frz_lst
                              case e79 =>
                                refine' de_bN (id := "sorted") m_sorted ?a80 ?o81
                                case a80 =>
                                  refine' da_cons ?e82 ?a83
                                  case e82 =>
                                    exact de_nm 5 rfl rfl (.inl rfl)
                                  case a83 =>
                                    exact da_nil
                                case o81 => exact cn_srtK hr.units
                            case a78 =>
                              refine' da_cons ?e84 ?a85
                              case e84 =>
                                exact de_nm 3 rfl rfl (.inl rfl)
                              case a85 =>
                                exact da_nil
                          case p75 => exact ⟨nfK t true, srtK (nfK t true) (srtK (nfK t true) (fromP t a b)), n, by rw [srtK_twice (from_nd t a b)]; exact hn, rfl⟩
                          case ra74 => first | exact trivial | exact rfl
                          case n76 => rfl
                case b47 =>
                  intro hb47
                  have hI1 := hb47
                  subst hI1
                  refine' dss_nil ?_
                  refine' dsx_here ?s86
                  case s86 =>
                    refine' dx1_ret ?e87
                    case e87 =>
                      refine' dex_call cx_one_by_NoNumber hr tk ?a88 ?p89 ?ra88 ?n90
                      case a88 =>
                        refine' da_cons ?e91 ?a92
                        case e91 =>
                          refine' de_frz ?e93 frz_lst
                          case e93 =>
                            refine' de_bN (id := "sorted") m_sorted ?a94 ?o95
                            case a94 =>
                              refine' da_cons ?e96 ?a97
                              case e96 =>
                                exact de_nm 5 rfl rfl (.inl rfl)
                              case a97 =>
                                exact da_nil
                            case o95 => exact cn_srtK (f := farP t) hr.units
                        case a92 =>
                          refine' da_cons ?e98 ?a99
                          case e98 =>
                            exact de_nm 3 rfl rfl (.inl rfl)
                          case a99 =>
                            exact da_nil
                      case p89 => exact ⟨farP t, _, n, hn, rfl⟩
                      case ra88 => first | exact trivial | exact rfl
                      case n90 => rfl
theorem ok_l_told_N {f : Addr} {fd : FuncData} (F : Fun K "_law_told" "_law_told" s_l_told f fd) {C_NoNumber : Addr} (c_nth_from : Cal P w K mg base CX0 5 "nth_from" ["tree", "a", "b", "n", "far"] (Sp0 K 5 preNthFrom)) (cx_nth_from_NoNumber : Cal P w K mg base (L2.CX P w) 5 "nth_from" ["tree", "a", "b", "n", "far"] (SpX K 5 preNthFromX (.ref C_NoNumber))) (xn_NoNumber : Exn K mg "NoNumber" C_NoNumber) (xm_NoNumber_NoNumber : PySem.W.exmOne K (.ref C_NoNumber) (.ref C_NoNumber) = some true) : FnOk P w K mg base CX0 6 f fd ["tree", "a", "b", "n", "far"] (Sp0 K 5 preToldN) := by
  refine fn0 (lv := 5) (N := ["tree", "a", "b", "n", "far", "found", "refused"]) (ps := ["tree", "a", "b", "n", "far"]) F sc_l_told fun cdv A outer s H E hr ds r hp hl => ?_
  obtain ⟨t, a, b, n, fl, ht, ha, hab, hn, rfl, rfl⟩ := hp
  refine' (show DSs _ _ [_, _, _, _, _, .un, .un] _ from ?_)
  refine' dss_cons ?s1
  case s1 =>
    refine' ds_set 5 ?e2 ?q3 sc_l_told.nd rfl (.inl rfl)
    case e2 =>
      exact de_non
    case q3 =>
      refine' dss_cons ?s4
      case s4 =>
        refine' ds_set 6 ?e5 ?q6 sc_l_told.nd rfl (.inl rfl)
        case e5 =>
          exact de_bl
        case q6 =>
          refine' dss_cons ?s7
          case s7 =>
            refine' ds_tryX (C := .ref C_NoNumber) (R := Eq ?Δb8) rfl rfl ⟨rfl, by decide, .inl xn_NoNumber.g⟩ takes0 xm_NoNumber_NoNumber ?b8 ?u9
            case b8 =>
              intro pn xe W tk po
              refine' dsx_here ?s10
              case s10 =>
                refine' dx1_set 5 ?e11 sc_l_told.nd rfl (.inl rfl)
                case e11 =>
                  refine' dex_call cx_nth_from_NoNumber hr tk ?a12 ?p13 ?ra12 ?n14
                  case a12 =>
                    refine' da_cons ?e15 ?a16
                    case e15 =>
                      exact de_nm 0 rfl rfl (.inl rfl)
                    case a16 =>
                      refine' da_cons ?e17 ?a18
                      case e17 =>
                        exact de_nm 1 rfl rfl (.inl rfl)
                      case a18 =>
                        refine' da_cons ?e19 ?a20
                        case e19 =>
                          exact de_nm 2 rfl rfl (.inl rfl)
                        case a20 =>
                          refine' da_cons ?e21 ?a22
                          case e21 =>
                            exact de_nm 3 rfl rfl (.inl rfl)
                          case a22 =>
                            refine' da_cons ?e23 ?a24
                            case e23 =>
                              exact de_nm 4 rfl rfl (.inl rfl)
                            case a24 =>
                              exact da_nil
                  case p13 => exact ⟨_, _, _, _, _, by assumption, by omega, by omega, by assumption, rfl⟩
                  case ra12 => first | exact trivial | exact rfl
                  case n14 => rfl
            case u9 =>
              rintro ad oe pn _ rfl
              refine' dss_cons ?s25
              case s25 =>
                refine' ds_set 6 ?e26 ?q27 sc_l_told.nd rfl (.inl rfl)
                case e26 =>
                  exact de_bl
                case q27 =>
                  refine' dss_nil ?_
                  refine' dss_cons ?s28
                  case s28 =>
                    refine' ds_ret ?e29 ?q30
                    case e29 =>
                      refine' de_tup ?a31 ?l32
                      case a31 =>
                        refine' da_cons ?e33 ?a34
                        case e33 =>
                          exact de_nm 6 rfl rfl (.inl rfl)
                        case a34 =>
                          refine' da_cons ?e35 ?a36
                          case e35 =>
                            exact de_nm 5 rfl rfl (.inl rfl)
                          case a36 =>
                            exact da_nil
                      case l32 => rfl
                    case q30 =>
                      show _ = _
                      walk_at "ret"
theorem ok_l_told {f : Addr} {fd : FuncData} (F : Fun K "_law_told" "_law_told" s_l_told f fd) {C_NoNumber : Addr} (c_nth_from : Cal P w K mg base CX0 5 "nth_from" ["tree", "a", "b", "n", "far"] (Sp0 K 5 preNthFrom)) (xn_NoNumber : Exn K mg "NoNumber" C_NoNumber) (cx_nth_from_NoNumber : Cal P w K mg base (L2.CX P w) 5 "nth_from" ["tree", "a", "b", "n", "far"] (SpX K 5 preNthFromX (.ref C_NoNumber))) (xm_NoNumber_NoNumber : PySem.W.exmOne K (.ref C_NoNumber) (.ref C_NoNumber) = some true) : FnOk P w K mg base CX0 6 f fd ["tree", "a", "b", "n", "far"] (Sp0 K 5 preTold) := fn_or (ok_l_told_Y F c_nth_from xn_NoNumber) (ok_l_told_N F c_nth_from cx_nth_from_NoNumber xn_NoNumber xm_NoNumber_NoNumber) told_split
abbrev s_l_whole : Stmt := topS 28
theorem sc_l_whole : FnScope ["thing"] ["thing"] (defScope s_l_whole) := ⟨rfl, rfl, rfl, by decide +kernel, rfl, by decide +kernel, by decide +kernel⟩
theorem ok_l_whole {f : Addr} {fd : FuncData} (F : Fun K "_law_whole" "_law_whole" s_l_whole f fd) (m_isinstance : mg "isinstance" = none) (m_int : mg "int" = none) (m_bool : mg "bool" = none) : FnOk P w K mg base CX0 1 f fd ["thing"] (Sp0 K 1 preWhole) := by
  refine fn0 (lv := 0) (N := ["thing"]) (ps := ["thing"]) F sc_l_whole fun cdv A outer s H E hr ds r hp hl => ?_
  obtain ⟨d, rfl, hk, rfl⟩ := hp
  refine' (show DSs _ _ [_] _ from ?_)
  refine' dss_cons ?s1
  case s1 =>
    refine' ds_ret ?e2 ?q3
    case e2 =>
      refine' de_and ?e4 ?e5
      case e4 =>
        refine' de_b (id := "isinstance") m_isinstance ?a6 ?o7
        case a6 =>
          refine' da_cons ?e8 ?a9
          case e8 =>
            exact de_nm 0 rfl rfl (.inl rfl)
          case a9 =>
            refine' da_cons ?e10 ?a11
            case e10 =>
              exact de_tyn (T := "int") m_int
            case a11 =>
              exact da_nil
        case o7 => exact ca_isi hk (d.kI hk)
      case e5 =>
        intro he5
        have hW1 := he5
        refine' de_and1 ?e12
        case e12 =>
          refine' de_not ?e13
          case e13 =>
            refine' de_b (id := "isinstance") m_isinstance ?a14 ?o15
            case a14 =>
              refine' da_cons ?e16 ?a17
              case e16 =>
                exact de_nm 0 rfl rfl (.inl rfl)
              case a17 =>
                refine' da_cons ?e18 ?a19
                case e18 =>
                  exact de_tyn (T := "bool") m_bool
                case a19 =>
                  exact da_nil
            case o15 => exact ca_isi hk (d.kB hk)
    case q3 =>
      show _ = _
      show Sk.im (.bl (d.isI && !d.isB)) = _; rw [d.whole_eq]
abbrev s_l_is_pair : Stmt := topS 32
theorem sc_l_is_pair : FnScope ["found"] ["found"] (defScope s_l_is_pair) := ⟨rfl, rfl, rfl, by decide +kernel, rfl, by decide +kernel, by decide +kernel⟩
theorem ok_l_is_pair {f : Addr} {fd : FuncData} (F : Fun K "_law_is_pair" "_law_is_pair" s_l_is_pair f fd) (c_l_whole : Cal P w K mg base CX0 1 "_law_whole" ["thing"] (Sp0 K 1 preWhole)) (m_isinstance : mg "isinstance" = none) (m_tuple : mg "tuple" = none) : FnOk P w K mg base CX0 2 f fd ["found"] (Sp0 K 1 preIsPair) := by
  refine fn0 (lv := 1) (N := ["found"]) (ps := ["found"]) F sc_l_is_pair fun cdv A outer s H E hr ds r hp hl => ?_
  obtain ⟨q, rfl, rfl⟩ := hp
  refine' (show DSs _ _ [_] _ from ?_)
  refine' dss_cons ?s1
  case s1 =>
    refine' ds_ret ?e2 ?q3
    case e2 =>
      refine' de_and ?e4 ?e5
      case e4 =>
        refine' de_b (id := "isinstance") m_isinstance ?a6 ?o7
        case a6 =>
          refine' da_cons ?e8 ?a9
          case e8 =>
            exact de_nm 0 rfl rfl (.inl rfl)
          case a9 =>
            refine' da_cons ?e10 ?a11
            case e10 =>
              exact de_tyn (T := "tuple") m_tuple
            case a11 =>
              exact da_nil
        case o7 => walk_at "call"
      case e5 =>
        intro he5
        have hW1 := he5
        refine' de_and ?e12 ?e13
        case e12 =>
          refine' de_call c_l_whole hr pass0 ?a14 ?p15 ?n16
          case a14 =>
            refine' da_cons ?e17 ?a18
            case e17 =>
              refine' de_ix ?e19 ?e20 ?o21
              case e19 =>
                exact de_nm 0 rfl rfl (.inl rfl)
              case e20 =>
                exact de_int
              case o21 => walk_at "ix"
            case a18 =>
              exact da_nil
          case p15 => exact ⟨_, rfl, rfl, rfl⟩
          case n16 => rfl
        case e13 =>
          intro he13
          have hW2 := he13
          refine' de_and1 ?e22
          case e22 =>
            refine' de_call c_l_whole hr pass0 ?a23 ?p24 ?n25
            case a23 =>
              refine' da_cons ?e26 ?a27
              case e26 =>
                refine' de_ix ?e28 ?e29 ?o30
                case e28 =>
                  exact de_nm 0 rfl rfl (.inl rfl)
                case e29 =>
                  exact de_int
                case o30 => walk_at "ix"
              case a27 =>
                exact da_nil
            case p24 => exact ⟨_, rfl, rfl, rfl⟩
            case n25 => rfl
    case q3 =>
      show _ = _
      walk_at "ret"
abbrev s_law : Stmt := topS 34
theorem sc_law : FnScope ["script", "k", "deck", "tree", "pairs", "handed", "turn", "a", "b", "far", "due", "n", "refused", "found", "first"] ["script"] (defScope s_law) := ⟨rfl, rfl, rfl, by decide +kernel, rfl, by decide +kernel, by decide +kernel⟩
theorem ok_law {f : Addr} {fd : FuncData} (F : Fun K "law" "law" s_law f fd) (c_l_deck : Cal P w K mg base CX0 2 "_law_deck" ["cell", "many"] (Sp0 K 2 preDeck)) (c_l_tree : Cal P w K mg base CX0 3 "_law_tree" ["deck", "most"] (Sp1 K 2 preTreeW)) (c_l_pairs : Cal P w K mg base CX0 2 "_law_pairs" ["tree"] (Sp0 K 1 preLawPairs)) (c_l_cell_at : Cal P w K mg base CX0 1 "_law_cell_at" ["script", "k"] (Sp0 K 2 preCellAt)) (c_l_bounds : Cal P w K mg base CX0 3 "_law_bounds" ["deck", "pairs"] (Sp1 K 2 preBoundsW)) (c_l_in_order : Cal P w K mg base CX0 1 "_law_in_order" ["pairs", "a", "b", "far"] (Sp0 K 4 preInOrder)) (c_l_told : Cal P w K mg base CX0 6 "_law_told" ["tree", "a", "b", "n", "far"] (Sp0 K 5 preTold)) (c_l_is_pair : Cal P w K mg base CX0 2 "_law_is_pair" ["found"] (Sp0 K 1 preIsPair)) (c_l_next : Cal P w K mg base CX0 1 "_law_next" ["deck"] (Sp1 K 1 preNext)) (m_range : mg "range" = none) (m_max : mg "max" = none) (m_list : mg "list" = none) (m_min : mg "min" = none) (m_len : mg "len" = none) (m_sorted : mg "sorted" = none) (m_set : mg "set" = none) : FnOk P w K mg base CX0 7 f fd ["script"] (Sp0 K 1 preLaw) := by
  refine fn0 (lv := 6) (N := ["script", "k", "deck", "tree", "pairs", "handed", "turn", "a", "b", "far", "due", "n", "refused", "found", "first"]) (ps := ["script"]) F sc_law fun cdv A outer s H E hr ds r hp hl => ?_
  obtain ⟨ns, hns, rfl, rfl⟩ := hp
  refine' (show DSs _ _ [_, .un, .un, .un, .un, .un, .un, .un, .un, .un, .un, .un, .un, .un, .un] _ from ?_)
  refine' dss_cons ?s1
  case s1 =>
    refine' ds_for (fun c Δ => ∃ y1 y2 y3 y4 y5 y6 y7 y8 y9 y10 y11 y12 y13 y14, Δ = [.im (.rol (ns.map D.int)), y1, y2, y3, y4, y5, y6, y7, y8, y9, y10, y11, y12, y13, y14]) ?i2 ?s3 PassesOwn.never rfl ?h4 ?d5
    case i2 =>
      refine' di_rngT m_range ?a6 ?b71 ?b72
      case a6 =>
        refine' da_cons ?e8 ?a9
        case e8 =>
          refine' de_b (id := "max") m_max ?a10 ?o11
          case a10 =>
            refine' da_cons ?e12 ?a13
            case e12 =>
              exact de_int
            case a13 =>
              refine' da_cons ?e14 ?a15
              case e14 =>
                refine' de_b (id := "min") m_min ?a16 ?o17
                case a16 =>
                  refine' da_cons ?e18 ?a19
                  case e18 =>
                    refine' de_b (id := "len") m_len ?a20 ?o21
                    case a20 =>
                      refine' da_cons ?e22 ?a23
                      case e22 =>
                        exact de_nm 0 rfl rfl (.inl rfl)
                      case a23 =>
                        exact da_nil
                    case o21 => walk_at "call"
                  case a19 =>
                    refine' da_cons ?e24 ?a25
                    case e24 =>
                      exact de_int
                    case a25 =>
                      exact da_nil
                case o17 => walk_at "call"
              case a15 =>
                exact da_nil
          case o11 => walk_at "call"
        case a9 =>
          exact da_nil
      case b71 => walk_at "sd"
      case b72 => walk_at "sd"
    case s3 => exact ⟨_, _, _, _, _, _, _, _, _, _, _, _, _, _, rfl⟩
    case h4 =>
      rintro c d Δi hd ⟨y1, y2, y3, y4, y5, y6, y7, y8, y9, y10, y11, y12, y13, y14, rfl⟩
      obtain ⟨hc, rfl⟩ := rngN_get hd
      refine' ⟨_, _, dg_nm 1 sc_law.nd rfl (.inl rfl), ?b26⟩
      case b26 =>
        refine' dss_cons ?s27
        case s27 =>
          refine' ds_set 2 ?e28 ?q29 sc_law.nd rfl (.inl rfl)
          case e28 =>
            refine' de_call c_l_deck hr pass0 ?a30 ?p31 ?n32
            case a30 =>
              refine' da_cons ?e33 ?a34
              case e33 =>
                refine' de_call c_l_cell_at hr pass0 ?a35 ?p36 ?n37
                case a35 =>
                  refine' da_cons ?e38 ?a39
                  case e38 =>
                    exact de_nm 0 rfl rfl (.inl rfl)
                  case a39 =>
                    refine' da_cons ?e40 ?a41
                    case e40 =>
                      exact de_nm 1 rfl rfl (.inl rfl)
                    case a41 =>
                      exact da_nil
                case p36 => exact ⟨_, _, rfl, rfl⟩
                case n37 => rfl
              case a34 =>
                refine' da_cons ?e42 ?a43
                case e42 =>
                  exact de_int
                case a43 =>
                  exact da_nil
            case p31 => exact ⟨_, 800, by decide, rfl, rfl⟩
            case n32 => rfl
          case q29 =>
            generalize deckF (ns.getD c 0) 800 = dk
            have ht := treeW_ok dk (most := 59) (by decide) (by decide)
            refine' dss_cons ?s44
            case s44 =>
              refine' ds_set 3 ?e45 ?q46 sc_law.nd rfl (.inl rfl)
              case e45 =>
                refine' de_frz ?e47 frz_lst
                case e47 =>
                  refine' de_call1 2 c_l_tree hr pass0 rfl (.inl rfl) ?a48 ?ra48 ⟨_, _, rfl⟩ ?p49 ?n50
                  case a48 =>
                    refine' da_cons ?e51 ?a52
                    case e51 =>
                      exact de_int
                    case a52 =>
                      exact da_nil
                  case ra48 => rfl
                  case p49 => exact ⟨_, _, by decide, by decide, rfl, rfl, rfl, rfl⟩
                  case n50 => rfl
              case q46 =>
                generalize (treeW 59 dk).1 = t at ht ⊢
                generalize (treeW 59 dk).2 = dk1
                have hfew := ht.few
                have hlen := allP_len ht
                refine' dss_cons ?s53
                case s53 =>
                  refine' ds_set 4 ?e54 ?q55 sc_law.nd rfl (.inl rfl)
                  case e54 =>
                    refine' de_frz ?e56 frz_lst
                    case e56 =>
                      refine' de_call c_l_pairs hr pass0 ?a57 ?p58 ?n59
                      case a57 =>
                        refine' da_cons ?e60 ?a61
                        case e60 =>
                          exact de_nm 3 rfl rfl (.inl rfl)
                        case a61 =>
                          exact da_nil
                      case p58 => exact ⟨_, by assumption, rfl, rfl⟩
                      case n59 => rfl
                  case q55 =>
                    refine' dss_cons ?s62
                    case s62 =>
                      refine' ds_set 5 ?e63 ?q64 sc_law.nd rfl (.inl rfl)
                      case e63 =>
                        refine' de_frz ?e65 frz_lst
                        case e65 =>
                          refine' de_tN (T := "list") m_list ?a66 ?o67
                          case a66 =>
                            refine' da_cons ?e68 ?a69
                            case e68 =>
                              exact de_nm 3 rfl rfl (.inl rfl)
                            case a69 =>
                              exact da_nil
                          case o67 => walk_at "call"
                      case q64 =>
                        refine' dss_cons ?s70
                        case s70 =>
                          refine' ds_for (fun j Δ => ∃ (dk : List Int) (y6 y7 y8 y9 y10 y11 y12 y13 y14 : Sk), Δ = [.im (.rol (ns.map D.int)), .im (.int (c : Nat)), .ow none (rLst (dk.map D.int)), .im (treeD t), .im (.lst ((allP t).map (prFar t))), .im (treeD t), y6, y7, y8, y9, y10, y11, y12, y13, y14]) ?i71 ?s72 PassesOwn.never rfl ?h73 ?d74
                          case i71 =>
                            refine' di_rngT m_range ?a75 ?b761 ?b762
                            case a75 =>
                              refine' da_cons ?e77 ?a78
                              case e77 =>
                                exact de_int
                              case a78 =>
                                exact da_nil
                            case b761 => walk_at "sd"
                            case b762 => walk_at "sd"
                          case s72 => exact ⟨_, _, _, _, _, _, _, _, _, _, rfl⟩
                          case h73 =>
                            rintro j d Δi hd ⟨dk0, y6, y7, y8, y9, y10, y11, y12, y13, y14, rfl⟩
                            obtain ⟨hj, rfl⟩ := rngN_get hd
                            have hbo := bounds_ok ht dk0
                            refine' ⟨_, _, dg_nm 6 sc_law.nd rfl (.inl rfl), ?b79⟩
                            case b79 =>
                              refine' dss_cons ?s80
                              case s80 =>
                                refine' ds_asg ?e81 ?g83 ?q82
                                case e81 =>
                                  refine' de_call1 2 c_l_bounds hr pass0 rfl (.inl rfl) ?a84 ?ra84 ⟨_, _, rfl⟩ ?p85 ?n86
                                  case a84 =>
                                    refine' da_cons ?e87 ?a88
                                    case e87 =>
                                      exact de_nm 4 rfl rfl (.inl rfl)
                                    case a88 =>
                                      exact da_nil
                                  case ra84 => rfl
                                  case p85 => exact ⟨_, _, by assumption, rfl, rfl, rfl, rfl⟩
                                  case n86 => rfl
                                case g83 => exact dg_lst rfl (dgs_cons (dg_nm 7 sc_law.nd rfl (.inl rfl)) (dgs_cons (dg_nm 8 sc_law.nd rfl (.inl rfl)) (dgs_nil))) rfl
                                case q82 =>
                                  refine' dss_cons ?s89
                                  case s89 =>
                                    refine' ds_for (fun k Δ => ∃ (dk : List Int) (y9 y10 y11 y12 y13 y14 : Sk), Δ = [.im (.rol (ns.map D.int)), .im (.int (c : Nat)), .ow none (rLst (dk.map D.int)), .im (treeD t), .im (.lst ((allP t).map (prFar t))), .im (treeD t), .im (.int (j : Nat)), .im (.int (bounds t dk0).1), .im (.int (bounds t dk0).2), y9, y10, y11, y12, y13, y14]) ?i90 ?s91 PassesOwn.never rfl ?h92 ?d93
                                    case i90 =>
                                      refine' di_tup ?e94
                                      case e94 =>
                                        refine' de_tup ?a95 ?l96
                                        case a95 =>
                                          refine' da_cons ?e97 ?a98
                                          case e97 =>
                                            exact de_bl
                                          case a98 =>
                                            refine' da_cons ?e99 ?a100
                                            case e99 =>
                                              exact de_bl
                                            case a100 =>
                                              exact da_nil
                                        case l96 => rfl
                                    case s91 => exact ⟨_, _, _, _, _, _, _, rfl⟩
                                    case h92 =>
                                      rintro k d Δi hd ⟨dk, y9, y10, y11, y12, y13, y14, rfl⟩
                                      obtain ⟨fl, rfl⟩ := two_bl hd
                                      have hnf := nf_few ht (bounds t dk0).1 (bounds t dk0).2 fl
                                      refine' ⟨_, _, dg_nm 9 sc_law.nd rfl (.inl rfl), ?b101⟩
                                      case b101 =>
                                        refine' dss_cons ?s102
                                        case s102 =>
                                          refine' ds_set 10 ?e103 ?q104 sc_law.nd rfl (.inl rfl)
                                          case e103 =>
                                            refine' de_frz ?e105 frz_lst
                                            case e105 =>
                                              refine' de_call c_l_in_order hr pass0 ?a106 ?p107 ?n108
                                              case a106 =>
                                                refine' da_cons ?e109 ?a110
                                                case e109 =>
                                                  exact de_nm 4 rfl rfl (.inl rfl)
                                                case a110 =>
                                                  refine' da_cons ?e111 ?a112
                                                  case e111 =>
                                                    exact de_nm 7 rfl rfl (.inl rfl)
                                                  case a112 =>
                                                    refine' da_cons ?e113 ?a114
                                                    case e113 =>
                                                      exact de_nm 8 rfl rfl (.inl rfl)
                                                    case a114 =>
                                                      refine' da_cons ?e115 ?a116
                                                      case e115 =>
                                                        exact de_nm 9 rfl rfl (.inl rfl)
                                                      case a116 =>
                                                        exact da_nil
                                              case p107 => exact ⟨_, _, _, _, by assumption, rfl, rfl⟩
                                              case n108 => rfl
                                          case q104 =>
                                            refine' dss_cons ?s117
                                            case s117 =>
                                              refine' ds_for (fun k Δ => ∃ (y11 y12 y13 : Sk), Δ = [.im (.rol (ns.map D.int)), .im (.int (c : Nat)), .ow none (rLst (dk.dropLast.map D.int)), .im (treeD t), .im (.lst ((allP t).map (prFar t))), .im (treeD t), .im (.int (j : Nat)), .im (.int (bounds t dk0).1), .im (.int (bounds t dk0).2), .im (.bl fl), .im (.lst ((nfL t (bounds t dk0).1 (bounds t dk0).2 fl).map pairD)), y11, y12, y13, y14]) ?i118 ?s119 PassesOwn.never rfl ?h120 ?d121
                                              case i118 =>
                                                refine' di_list ?e122
                                                case e122 =>
                                                  refine' de_frz ?e123 frz_lst
                                                  case e123 =>
                                                    refine' de_sset (ns := (askL (nfL t (bounds t dk0).1 (bounds t dk0).2 fl).length (nx dk))) (DE.cast ?e124 ?qe124) ?le124 rfl m_sorted m_set
                                                    case e124 =>
                                                      refine' de_frz ?e125 frz_lst
                                                      case e125 =>
                                                        refine' de_lst ?a126 ?l127
                                                        case a126 =>
                                                          refine' da_cons ?e128 ?a129
                                                          case e128 =>
                                                            exact de_int
                                                          case a129 =>
                                                            refine' da_cons ?e130 ?a131
                                                            case e130 =>
                                                              refine' de_b (id := "max") m_max ?a132 ?o133
                                                              case a132 =>
                                                                refine' da_cons ?e134 ?a135
                                                                case e134 =>
                                                                  exact de_int
                                                                case a135 =>
                                                                  refine' da_cons ?e136 ?a137
                                                                  case e136 =>
                                                                    refine' de_bin ?e138 ?e139 ?o140
                                                                    case e138 =>
                                                                      refine' de_b (id := "len") m_len ?a141 ?o142
                                                                      case a141 =>
                                                                        refine' da_cons ?e143 ?a144
                                                                        case e143 =>
                                                                          exact de_nm 10 rfl rfl (.inl rfl)
                                                                        case a144 =>
                                                                          exact da_nil
                                                                      case o142 => walk_at "call"
                                                                    case e139 =>
                                                                      exact de_int
                                                                    case o140 => walk_at "bin"
                                                                  case a137 =>
                                                                    exact da_nil
                                                              case o133 => walk_at "call"
                                                            case a131 =>
                                                              refine' da_cons ?e145 ?a146
                                                              case e145 =>
                                                                refine' de_bin ?e147 ?e148 ?o149
                                                                case e147 =>
                                                                  refine' de_call1 2 c_l_next hr pass0 rfl (.inl rfl) ?a150 ?ra150 ⟨_, _, rfl⟩ ?p151 ?n152
                                                                  case a150 =>
                                                                    exact da_nil
                                                                  case ra150 => rfl
                                                                  case p151 => exact ⟨_, rfl, rfl, rfl, rfl⟩
                                                                  case n152 => rfl
                                                                case e148 =>
                                                                  refine' de_bin ?e153 ?e154 ?o155
                                                                  case e153 =>
                                                                    refine' de_b (id := "len") m_len ?a156 ?o157
                                                                    case a156 =>
                                                                      refine' da_cons ?e158 ?a159
                                                                      case e158 =>
                                                                        exact de_nm 10 rfl rfl (.inl rfl)
                                                                      case a159 =>
                                                                        exact da_nil
                                                                    case o157 => walk_at "call"
                                                                  case e154 =>
                                                                    exact de_int
                                                                  case o155 => walk_at "bin"
                                                                case o149 => walk_at "bin"
                                                              case a146 =>
                                                                refine' da_cons ?e160 ?a161
                                                                case e160 =>
                                                                  refine' de_b (id := "len") m_len ?a162 ?o163
                                                                  case a162 =>
                                                                    refine' da_cons ?e164 ?a165
                                                                    case e164 =>
                                                                      exact de_nm 10 rfl rfl (.inl rfl)
                                                                    case a165 =>
                                                                      exact da_nil
                                                                  case o163 => walk_at "call"
                                                                case a161 =>
                                                                  exact da_nil
                                                        case l127 => rfl
                                                    case qe124 => (simp only [List.length_map]; rfl)
                                                    case le124 => (show 4 < 64; decide)
                                              case s119 => exact ⟨_, _, _, rfl⟩
                                              case h120 =>
                                                rintro k d Δi hd ⟨y11, y12, y13, rfl⟩
                                                obtain ⟨n, hn, rfl⟩ := ask_get hd
                                                refine' ⟨_, _, dg_nm 11 sc_law.nd rfl (.inl rfl), ?b166⟩
                                                case b166 =>
                                                  refine' dss_cons ?s167
                                                  case s167 =>
                                                    refine' ds_asg ?e168 ?g170 ?q169
                                                    case e168 =>
                                                      refine' de_call c_l_told hr pass0 ?a171 ?p172 ?n173
                                                      case a171 =>
                                                        refine' da_cons ?e174 ?a175
                                                        case e174 =>
                                                          exact de_nm 5 rfl rfl (.inl rfl)
                                                        case a175 =>
                                                          refine' da_cons ?e176 ?a177
                                                          case e176 =>
                                                            exact de_nm 7 rfl rfl (.inl rfl)
                                                          case a177 =>
                                                            refine' da_cons ?e178 ?a179
                                                            case e178 =>
                                                              exact de_nm 8 rfl rfl (.inl rfl)
                                                            case a179 =>
                                                              refine' da_cons ?e180 ?a181
                                                              case e180 =>
                                                                exact de_nm 11 rfl rfl (.inl rfl)
                                                              case a181 =>
                                                                refine' da_cons ?e182 ?a183
                                                                case e182 =>
                                                                  exact de_nm 9 rfl rfl (.inl rfl)
                                                                case a183 =>
                                                                  exact da_nil
                                                      case p172 => exact ⟨t, _, _, n, fl, ht, hbo.1, hbo.2, rfl, rfl⟩
                                                      case n173 => rfl
                                                    case g170 => exact dg_tup rfl (dgs_cons (dg_nm 12 sc_law.nd rfl (.inl rfl)) (dgs_cons (dg_nm 13 sc_law.nd rfl (.inl rfl)) (dgs_nil))) rfl
                                                    case q169 =>
                                                      refine' dss_cons ?s184
                                                      case s184 =>
                                                        refine' ds_ifF ?c185 ?b187
                                                        case c185 =>
                                                          refine' DT.cast ?k1881 ?k1882
                                                          case k1881 =>
                                                            refine' dt_w ?e189
                                                            case e189 =>
                                                              refine' dw_or ?e190 ?e191
                                                              case e190 =>
                                                                refine' dt_cmp ?e192 ?e193 ?o194
                                                                case e192 =>
                                                                  exact de_nm 12 rfl rfl (.inl rfl)
                                                                case e193 =>
                                                                  refine' de_cmp ?e195 ?e196 ?o197
                                                                  case e195 =>
                                                                    exact de_nm 11 rfl rfl (.inl rfl)
                                                                  case e196 =>
                                                                    refine' de_b (id := "len") m_len ?a198 ?o199
                                                                    case a198 =>
                                                                      refine' da_cons ?e200 ?a201
                                                                      case e200 =>
                                                                        exact de_nm 10 rfl rfl (.inl rfl)
                                                                      case a201 =>
                                                                        exact da_nil
                                                                    case o199 => walk_at "call"
                                                                  case o197 => walk_at "cmp"
                                                                case o194 => exact cd_neD hr.units rfl rfl
                                                              case e191 =>
                                                                intro he191
                                                                have hW1 := he191
                                                                refine' dw_or ?e202 ?e203
                                                                case e202 =>
                                                                  refine' dt_cmp ?e204 ?e205 ?o206
                                                                  case e204 =>
                                                                    exact de_nm 13 rfl rfl (.inl rfl)
                                                                  case e205 =>
                                                                    refine' de_ix ?e207 ?e208 ?o209
                                                                    case e207 =>
                                                                      refine' de_frz ?e210 frz_lst
                                                                      case e210 =>
                                                                        refine' de_binN ?e211 ?e212 ?o213
                                                                        case e211 =>
                                                                          exact de_nm 10 rfl rfl (.inl rfl)
                                                                        case e212 =>
                                                                          refine' de_frz ?e214 frz_lst
                                                                          case e214 =>
                                                                            refine' de_lst ?a215 ?l216
                                                                            case a215 =>
                                                                              refine' da_cons ?e217 ?a218
                                                                              case e217 =>
                                                                                exact de_non
                                                                              case a218 =>
                                                                                exact da_nil
                                                                            case l216 => rfl
                                                                        case o213 => walk_at "binN"
                                                                    case e208 =>
                                                                      exact de_nm 11 rfl rfl (.inl rfl)
                                                                    case o209 => exact ix_l (optP_at hn)
                                                                  case o206 => exact cd_neD hr.units (optP_good _) (optP_good _)
                                                                case e203 =>
                                                                  intro he203
                                                                  have hW2 := he203
                                                                  refine' dw_or1 ?e219
                                                                  case e219 =>
                                                                    refine' dt_cmp ?e220 ?e221 ?o222
                                                                    case e220 =>
                                                                      exact de_nm 5 rfl rfl (.inl rfl)
                                                                    case e221 =>
                                                                      exact de_nm 3 rfl rfl (.inl rfl)
                                                                    case o222 => walk_at "cmp"
                                                          case k1882 => (rw [ref_eq hn, D.eqv_refl, D.eqv_refl]; rfl)
                                                        case b187 =>
                                                          refine' dss_nil ?_
                                                          refine' dss_cons ?s223
                                                          case s223 =>
                                                            refine' ds_ifF ?c224 ?b226
                                                            case c224 =>
                                                              refine' DT.cast ?k2271 ?k2272
                                                              case k2271 =>
                                                                refine' dt_w ?e228
                                                                case e228 =>
                                                                  refine' dw_and ?e229 ?e230
                                                                  case e229 =>
                                                                    refine' dt_not ?e231
                                                                    case e231 =>
                                                                      refine' dt_val ?e232
                                                                      case e232 =>
                                                                        exact de_nm 12 rfl rfl (.inl rfl)
                                                                  case e230 =>
                                                                    intro he230
                                                                    have hW3 := he230
                                                                    refine' dw_and1 ?e233
                                                                    case e233 =>
                                                                      refine' dt_not ?e234
                                                                      case e234 =>
                                                                        refine' dt_val ?e235
                                                                        case e235 =>
                                                                          refine' de_call c_l_is_pair hr pass0 ?a236 ?p237 ?n238
                                                                          case a236 =>
                                                                            refine' da_cons ?e239 ?a240
                                                                            case e239 =>
                                                                              exact de_nm 13 rfl rfl (.inl rfl)
                                                                            case a240 =>
                                                                              exact da_nil
                                                                          case p237 => (obtain ⟨q, hq⟩ := opt_some (by assumption); exact ⟨q, by rw [hq]; rfl, rfl⟩)
                                                                          case n238 => rfl
                                                              case k2272 => exact Bool.and_false _
                                                            case b226 =>
                                                              refine' dss_nil ?_
                                                              refine' dss_nil ?_
                                                              exact ⟨_, _, _, rfl⟩
                                              case d121 =>
                                                rintro Δn ⟨y11, y12, y13, rfl⟩
                                                refine' dss_nil ?_
                                                exact ⟨_, _, _, _, _, _, _, rfl⟩
                                    case d93 =>
                                      rintro Δn ⟨dk, y9, y10, y11, y12, y13, y14, rfl⟩
                                      have hnf := nf_few ht (bounds t dk0).1 (bounds t dk0).2 false
                                      refine' dss_cons ?s241
                                      case s241 =>
                                        refine' ds_set 14 ?e242 ?q243 sc_law.nd rfl (.inl rfl)
                                        case e242 =>
                                          refine' de_ix ?e244 ?e245 ?o246
                                          case e244 =>
                                            refine' de_frz ?e247 frz_lst
                                            case e247 =>
                                              refine' de_binN ?e248 ?e249 ?o250
                                              case e248 =>
                                                refine' de_frz ?e251 frz_lst
                                                case e251 =>
                                                  refine' de_call c_l_in_order hr pass0 ?a252 ?p253 ?n254
                                                  case a252 =>
                                                    refine' da_cons ?e255 ?a256
                                                    case e255 =>
                                                      exact de_nm 4 rfl rfl (.inl rfl)
                                                    case a256 =>
                                                      refine' da_cons ?e257 ?a258
                                                      case e257 =>
                                                        exact de_nm 7 rfl rfl (.inl rfl)
                                                      case a258 =>
                                                        refine' da_cons ?e259 ?a260
                                                        case e259 =>
                                                          exact de_nm 8 rfl rfl (.inl rfl)
                                                        case a260 =>
                                                          refine' da_cons ?e261 ?a262
                                                          case e261 =>
                                                            exact de_bl
                                                          case a262 =>
                                                            exact da_nil
                                                  case p253 => exact ⟨_, _, _, _, by assumption, rfl, rfl⟩
                                                  case n254 => rfl
                                              case e249 =>
                                                refine' de_frz ?e263 frz_lst
                                                case e263 =>
                                                  refine' de_lst ?a264 ?l265
                                                  case a264 =>
                                                    refine' da_cons ?e266 ?a267
                                                    case e266 =>
                                                      exact de_non
                                                    case a267 =>
                                                      exact da_nil
                                                  case l265 => rfl
                                              case o250 => walk_at "binN"
                                          case e245 =>
                                            exact de_int
                                          case o246 => exact ix_l (optP_at (n := 0) (Nat.zero_le _))
                                        case q243 =>
                                          refine' dss_cons ?s268
                                          case s268 =>
                                            refine' ds_ifF ?c269 ?b271
                                            case c269 =>
                                              refine' DT.cast ?k2721 ?k2722
                                              case k2721 =>
                                                refine' dt_cmp ?e273 ?e274 ?o275
                                                case e273 =>
                                                  refine' de_call c_l_told hr pass0 ?a276 ?p277 ?n278
                                                  case a276 =>
                                                    refine' da_cons ?e279 ?a280
                                                    case e279 =>
                                                      exact de_nm 5 rfl rfl (.inl rfl)
                                                    case a280 =>
                                                      refine' da_cons ?e281 ?a282
                                                      case e281 =>
                                                        exact de_nm 7 rfl rfl (.inl rfl)
                                                      case a282 =>
                                                        refine' da_cons ?e283 ?a284
                                                        case e283 =>
                                                          exact de_nm 8 rfl rfl (.inl rfl)
                                                        case a284 =>
                                                          refine' da_cons ?e285 ?a286
                                                          case e285 =>
                                                            exact de_int
                                                          case a286 =>
                                                            refine' da_cons ?e287 ?a288
                                                            case e287 =>
                                                              exact de_bl
                                                            case a288 =>
                                                              exact da_nil
                                                  case p277 => exact ⟨t, _, _, 0, false, ht, hbo.1, hbo.2, rfl, rfl⟩
                                                  case n278 => rfl
                                                case e274 =>
                                                  refine' de_tup ?a289 ?l290
                                                  case a289 =>
                                                    refine' da_cons ?e291 ?a292
                                                    case e291 =>
                                                      refine' de_cmp ?e293 ?e294 ?o295
                                                      case e293 =>
                                                        exact de_nm 14 rfl rfl (.inl rfl)
                                                      case e294 =>
                                                        exact de_non
                                                      case o295 => exact cd_is (optP_clear _)
                                                    case a292 =>
                                                      refine' da_cons ?e296 ?a297
                                                      case e296 =>
                                                        exact de_nm 14 rfl rfl (.inl rfl)
                                                      case a297 =>
                                                        exact da_nil
                                                  case l290 => rfl
                                                case o275 => exact cd_neD hr.units (toldD_good _) (told_good2 _)
                                              case k2722 => (rw [told_eqv]; rfl)
                                            case b271 =>
                                              refine' dss_nil ?_
                                              refine' dss_nil ?_
                                              exact ⟨_, _, _, _, _, _, _, _, _, _, rfl⟩
                          case d74 =>
                            rintro Δn ⟨dk, y6, y7, y8, y9, y10, y11, y12, y13, y14, rfl⟩
                            refine' dss_nil ?_
                            exact ⟨_, _, _, _, _, _, _, _, _, _, _, _, _, _, rfl⟩
    case d5 =>
      rintro Δn ⟨y1, y2, y3, y4, y5, y6, y7, y8, y9, y10, y11, y12, y13, y14, rfl⟩
      refine' dss_cons ?s298
      case s298 =>
        refine' ds_ret ?e299 ?q300
        case e299 =>
          exact de_bl
        case q300 =>
          show _ = _
          walk_at "ret"
end
theorem law_start {K : PySem.W.Frag} {H : Hp} {a : Addr} {ns : List Int} (hl : ns.length ≤ 63) (hS : SqL K H a (ns.map V.int)) : Sp0 K 1 preLaw [.ref a] H (fun v _ => v = .bl true) fun _ _ _ => False := by
  refine ⟨rfl, H, [.rol (ns.map D.int)], .im (.bl true), ⟨ns, hl, rfl, rfl⟩, Sub.refl H, .one (.rol hS (.of_ints ns)), fun v B' H' F' s a => ?_⟩
  have z := (At.im a).1
  cases z
  rfl
/-! ### the head -/
section
def d_l_stir : He.DefD := ⟨("_law_stir", none), "_law_stir", "_law_stir", defArgs s_l_stir, defBody s_l_stir, defScope s_l_stir, [], []⟩
def d_l_deck : He.DefD := ⟨("_law_deck", none), "_law_deck", "_law_deck", defArgs s_l_deck, defBody s_l_deck, defScope s_l_deck, [], []⟩
def d_l_next : He.DefD := ⟨("_law_next", none), "_law_next", "_law_next", defArgs s_l_next, defBody s_l_next, defScope s_l_next, [], []⟩
def d_l_far : He.DefD := ⟨("_law_far", none), "_law_far", "_law_far", defArgs s_l_far, defBody s_l_far, defScope s_l_far, [], []⟩
def d_l_up : He.DefD := ⟨("_law_up", none), "_law_up", "_law_up", defArgs s_l_up, defBody s_l_up, defScope s_l_up, [], []⟩
def d_l_tree : He.DefD := ⟨("_law_tree", none), "_law_tree", "_law_tree", defArgs s_l_tree, defBody s_l_tree, defScope s_l_tree, [], []⟩
def d_l_table : He.DefD := ⟨("_law_table", none), "_law_table", "_law_table", defArgs s_l_table, defBody s_l_table, defScope s_l_table, [], []⟩
def d_l_pairs : He.DefD := ⟨("_law_pairs", none), "_law_pairs", "_law_pairs", defArgs s_l_pairs, defBody s_l_pairs, defScope s_l_pairs, [], []⟩
def d_l_cell_at : He.DefD := ⟨("_law_cell_at", none), "_law_cell_at", "_law_cell_at", defArgs s_l_cell_at, defBody s_l_cell_at, defScope s_l_cell_at, [], []⟩
def d_l_beside : He.DefD := ⟨("_law_beside", none), "_law_beside", "_law_beside", defArgs s_l_beside, defBody s_l_beside, defScope s_l_beside, [], []⟩
def d_l_bounds : He.DefD := ⟨("_law_bounds", none), "_law_bounds", "_law_bounds", defArgs s_l_bounds, defBody s_l_bounds, defScope s_l_bounds, [], []⟩
def d_l_in_order : He.DefD := ⟨("_law_in_order", none), "_law_in_order", "_law_in_order", defArgs s_l_in_order, defBody s_l_in_order, defScope s_l_in_order, [], []⟩
def d_is_whole : He.DefD := ⟨("is_whole", none), "is_whole", "is_whole", defArgs s_is_whole, defBody s_is_whole, defScope s_is_whole, [], []⟩
def d_is_road : He.DefD := ⟨("is_road", none), "is_road", "is_road", defArgs s_is_road, defBody s_is_road, defScope s_is_road, [], []⟩
def d_is_tree : He.DefD := ⟨("is_tree", none), "is_tree", "is_tree", defArgs s_is_tree, defBody s_is_tree, defScope s_is_tree, [], []⟩
def d_need_tree : He.DefD := ⟨("need_tree", none), "need_tree", "need_tree", defArgs s_need_tree, defBody s_need_tree, defScope s_need_tree, [], []⟩
def d_need_distance : He.DefD := ⟨("need_distance", none), "need_distance", "need_distance", defArgs s_need_distance, defBody s_need_distance, defScope s_need_distance, [], []⟩
def d_need_bounds : He.DefD := ⟨("need_bounds", none), "need_bounds", "need_bounds", defArgs s_need_bounds, defBody s_need_bounds, defScope s_need_bounds, [], []⟩
def d_one_by : He.DefD := ⟨("one_by", none), "one_by", "one_by", defArgs s_one_by, defBody s_one_by, defScope s_one_by, [], []⟩
def d_table_of : He.DefD := ⟨("table_of", none), "table_of", "table_of", defArgs s_table_of, defBody s_table_of, defScope s_table_of, [], []⟩
def d_pairs_of : He.DefD := ⟨("pairs_of", none), "pairs_of", "pairs_of", defArgs s_pairs_of, defBody s_pairs_of, defScope s_pairs_of, [], []⟩
def d_nth_from : He.DefD := ⟨("nth_from", none), "nth_from", "nth_from", defArgs s_nth_from, defBody s_nth_from, defScope s_nth_from, [], []⟩
def d_l_told : He.DefD := ⟨("_law_told", none), "_law_told", "_law_told", defArgs s_l_told, defBody s_l_told, defScope s_l_told, [], []⟩
def d_l_whole : He.DefD := ⟨("_law_whole", none), "_law_whole", "_law_whole", defArgs s_l_whole, defBody s_l_whole, defScope s_l_whole, [], []⟩
def d_l_is_pair : He.DefD := ⟨("_law_is_pair", none), "_law_is_pair", "_law_is_pair", defArgs s_l_is_pair, defBody s_l_is_pair, defScope s_l_is_pair, [], []⟩
def d_law : He.DefD := ⟨("law", none), "law", "law", defArgs s_law, defBody s_law, defScope s_law, [], []⟩
def dlFn : List He.DefD := [d_l_stir, d_l_deck, d_l_next, d_l_far, d_l_up, d_l_tree, d_l_table, d_l_pairs, d_l_cell_at, d_l_beside, d_l_bounds, d_l_in_order, d_is_whole, d_is_road, d_is_tree, d_need_tree, d_need_distance, d_need_bounds, d_one_by, d_table_of, d_pairs_of, d_nth_from, d_l_told, d_l_whole, d_l_is_pair, d_law]
def dlFa : List He.Fa := [.glo "_law_stir", .glo "_law_deck", .glo "_law_next", .glo "_law_far", .glo "_law_up", .glo "_law_tree", .glo "_law_table", .glo "_law_pairs", .glo "_law_cell_at", .glo "_law_beside", .glo "_law_bounds", .glo "_law_in_order", .glo "is_whole", .glo "is_road", .glo "is_tree", .glo "need_tree", .glo "need_distance", .glo "need_bounds", .glo "one_by", .glo "table_of", .glo "pairs_of", .glo "nth_from", .glo "_law_told", .glo "_law_whole", .glo "_law_is_pair", .glo "law", .free "range", .free "max", .free "min", .free "enumerate", .free "len", .free "int", .free "sorted", .free "isinstance", .free "bool", .free "tuple", .free "list", .free "zip", .free "set", .int "MOST_TUPLES" 59, .glo "NoNumber", .exc "NoNumber", .exm "NoNumber" "NoNumber" true]
abbrev dlR : PySem.W.OpenRow := PySem.W.OpenLaw.row PySem.Challenge.rw_pairsfar_k23_numbers_within_bounds
abbrev dlHk : PySem.W.Hook := He.hookD 4 dlFa dlFn
def dlOb (s : PySem.W.SharedT) : He.AlD := He.obsDG 4 dlFa dlFn (HandSHeadRun.getT s)
theorem dlOb_eq (s : PySem.W.SharedT) : dlOb s = dlHk.obs s.abs := He.obsDG_eq (HandSHeadRun.getT_eq s)
def dlN0 : List Str := ["FarError", "NoTree", "NoNumber", "MOST_TUPLES", "is_whole", "is_road", "is_tree", "need_tree", "table_of", "need_distance", "need_bounds", "pairs_of", "one_by", "nth_from", "_law_cell_at", "_law_stir", "_law_deck", "_law_next", "_law_far", "_law_up", "_law_tree", "_law_table", "_law_pairs", "_law_whole", "_law_beside", "_law_bounds", "_law_in_order", "_law_is_pair", "_law_told"]
def dlNames : List Str := dlN0
theorem dlRun (w : World) : HandSHeadRun.RunEq dlR (PySem.W.view dlR.prog [34]) dlHk dlOb 2200 dlNames w := by
  intro os
  kernel_rfl
theorem dlFacts {P : Program} {w : World} {K : PySem.W.Frag} {h : Heap} {mg : Str → Option Value} {f : Addr} (X : K.In h) (G : h.Ns mainGlobals mg) (hfa : mg ("law" : Str) = some (.ref f)) (c : He.SaysD dlFa dlFn K) :
    ∃ fd : FuncData, (∀ (s : Shared) (v : Value), BindsTo s fd ⟨[v], []⟩ [("script", v)]) ∧ ∀ base : Heap, K.In base → base.Ns mainGlobals mg → FnOk P w K mg base CX0 7 f fd ["script"] (Sp0 K 1 preLaw) := by
  obtain ⟨f_l_stir, G_l_stir⟩ := c.def_ 0 (d := d_l_stir) rfl
  have F_l_stir := He5.fun_of (st := s_l_stir) G_l_stir
  have g_l_stir := He.glo_ok X G (c.fact 0 (f := .glo "_law_stir") rfl)
  obtain ⟨f_l_deck, G_l_deck⟩ := c.def_ 1 (d := d_l_deck) rfl
  have F_l_deck := He5.fun_of (st := s_l_deck) G_l_deck
  have g_l_deck := He.glo_ok X G (c.fact 1 (f := .glo "_law_deck") rfl)
  obtain ⟨f_l_next, G_l_next⟩ := c.def_ 2 (d := d_l_next) rfl
  have F_l_next := He5.fun_of (st := s_l_next) G_l_next
  have g_l_next := He.glo_ok X G (c.fact 2 (f := .glo "_law_next") rfl)
  obtain ⟨f_l_far, G_l_far⟩ := c.def_ 3 (d := d_l_far) rfl
  have F_l_far := He5.fun_of (st := s_l_far) G_l_far
  have g_l_far := He.glo_ok X G (c.fact 3 (f := .glo "_law_far") rfl)
  obtain ⟨f_l_up, G_l_up⟩ := c.def_ 4 (d := d_l_up) rfl
  have F_l_up := He5.fun_of (st := s_l_up) G_l_up
  have g_l_up := He.glo_ok X G (c.fact 4 (f := .glo "_law_up") rfl)
  obtain ⟨f_l_tree, G_l_tree⟩ := c.def_ 5 (d := d_l_tree) rfl
  have F_l_tree := He5.fun_of (st := s_l_tree) G_l_tree
  have g_l_tree := He.glo_ok X G (c.fact 5 (f := .glo "_law_tree") rfl)
  obtain ⟨f_l_table, G_l_table⟩ := c.def_ 6 (d := d_l_table) rfl
  have F_l_table := He5.fun_of (st := s_l_table) G_l_table
  have g_l_table := He.glo_ok X G (c.fact 6 (f := .glo "_law_table") rfl)
  obtain ⟨f_l_pairs, G_l_pairs⟩ := c.def_ 7 (d := d_l_pairs) rfl
  have F_l_pairs := He5.fun_of (st := s_l_pairs) G_l_pairs
  have g_l_pairs := He.glo_ok X G (c.fact 7 (f := .glo "_law_pairs") rfl)
  obtain ⟨f_l_cell_at, G_l_cell_at⟩ := c.def_ 8 (d := d_l_cell_at) rfl
  have F_l_cell_at := He5.fun_of (st := s_l_cell_at) G_l_cell_at
  have g_l_cell_at := He.glo_ok X G (c.fact 8 (f := .glo "_law_cell_at") rfl)
  obtain ⟨f_l_beside, G_l_beside⟩ := c.def_ 9 (d := d_l_beside) rfl
  have F_l_beside := He5.fun_of (st := s_l_beside) G_l_beside
  have g_l_beside := He.glo_ok X G (c.fact 9 (f := .glo "_law_beside") rfl)
  obtain ⟨f_l_bounds, G_l_bounds⟩ := c.def_ 10 (d := d_l_bounds) rfl
  have F_l_bounds := He5.fun_of (st := s_l_bounds) G_l_bounds
  have g_l_bounds := He.glo_ok X G (c.fact 10 (f := .glo "_law_bounds") rfl)
  obtain ⟨f_l_in_order, G_l_in_order⟩ := c.def_ 11 (d := d_l_in_order) rfl
  have F_l_in_order := He5.fun_of (st := s_l_in_order) G_l_in_order
  have g_l_in_order := He.glo_ok X G (c.fact 11 (f := .glo "_law_in_order") rfl)
  obtain ⟨f_is_whole, G_is_whole⟩ := c.def_ 12 (d := d_is_whole) rfl
  have F_is_whole := He5.fun_of (st := s_is_whole) G_is_whole
  have g_is_whole := He.glo_ok X G (c.fact 12 (f := .glo "is_whole") rfl)
  obtain ⟨f_is_road, G_is_road⟩ := c.def_ 13 (d := d_is_road) rfl
  have F_is_road := He5.fun_of (st := s_is_road) G_is_road
  have g_is_road := He.glo_ok X G (c.fact 13 (f := .glo "is_road") rfl)
  obtain ⟨f_is_tree, G_is_tree⟩ := c.def_ 14 (d := d_is_tree) rfl
  have F_is_tree := He5.fun_of (st := s_is_tree) G_is_tree
  have g_is_tree := He.glo_ok X G (c.fact 14 (f := .glo "is_tree") rfl)
  obtain ⟨f_need_tree, G_need_tree⟩ := c.def_ 15 (d := d_need_tree) rfl
  have F_need_tree := He5.fun_of (st := s_need_tree) G_need_tree
  have g_need_tree := He.glo_ok X G (c.fact 15 (f := .glo "need_tree") rfl)
  obtain ⟨f_need_distance, G_need_distance⟩ := c.def_ 16 (d := d_need_distance) rfl
  have F_need_distance := He5.fun_of (st := s_need_distance) G_need_distance
  have g_need_distance := He.glo_ok X G (c.fact 16 (f := .glo "need_distance") rfl)
  obtain ⟨f_need_bounds, G_need_bounds⟩ := c.def_ 17 (d := d_need_bounds) rfl
  have F_need_bounds := He5.fun_of (st := s_need_bounds) G_need_bounds
  have g_need_bounds := He.glo_ok X G (c.fact 17 (f := .glo "need_bounds") rfl)
  obtain ⟨f_one_by, G_one_by⟩ := c.def_ 18 (d := d_one_by) rfl
  have F_one_by := He5.fun_of (st := s_one_by) G_one_by
  have g_one_by := He.glo_ok X G (c.fact 18 (f := .glo "one_by") rfl)
  obtain ⟨f_table_of, G_table_of⟩ := c.def_ 19 (d := d_table_of) rfl
  have F_table_of := He5.fun_of (st := s_table_of) G_table_of
  have g_table_of := He.glo_ok X G (c.fact 19 (f := .glo "table_of") rfl)
  obtain ⟨f_pairs_of, G_pairs_of⟩ := c.def_ 20 (d := d_pairs_of) rfl
  have F_pairs_of := He5.fun_of (st := s_pairs_of) G_pairs_of
  have g_pairs_of := He.glo_ok X G (c.fact 20 (f := .glo "pairs_of") rfl)
  obtain ⟨f_nth_from, G_nth_from⟩ := c.def_ 21 (d := d_nth_from) rfl
  have F_nth_from := He5.fun_of (st := s_nth_from) G_nth_from
  have g_nth_from := He.glo_ok X G (c.fact 21 (f := .glo "nth_from") rfl)
  obtain ⟨f_l_told, G_l_told⟩ := c.def_ 22 (d := d_l_told) rfl
  have F_l_told := He5.fun_of (st := s_l_told) G_l_told
  have g_l_told := He.glo_ok X G (c.fact 22 (f := .glo "_law_told") rfl)
  obtain ⟨f_l_whole, G_l_whole⟩ := c.def_ 23 (d := d_l_whole) rfl
  have F_l_whole := He5.fun_of (st := s_l_whole) G_l_whole
  have g_l_whole := He.glo_ok X G (c.fact 23 (f := .glo "_law_whole") rfl)
  obtain ⟨f_l_is_pair, G_l_is_pair⟩ := c.def_ 24 (d := d_l_is_pair) rfl
  have F_l_is_pair := He5.fun_of (st := s_l_is_pair) G_l_is_pair
  have g_l_is_pair := He.glo_ok X G (c.fact 24 (f := .glo "_law_is_pair") rfl)
  obtain ⟨f_law, G_law⟩ := c.def_ 25 (d := d_law) rfl
  have F_law := He5.fun_of (st := s_law) G_law
  have g_law := He.glo_ok X G (c.fact 25 (f := .glo "law") rfl)
  have m_range := He.free_ok X G (c.fact 26 (f := .free "range") rfl)
  have m_max := He.free_ok X G (c.fact 27 (f := .free "max") rfl)
  have m_min := He.free_ok X G (c.fact 28 (f := .free "min") rfl)
  have m_enumerate := He.free_ok X G (c.fact 29 (f := .free "enumerate") rfl)
  have m_len := He.free_ok X G (c.fact 30 (f := .free "len") rfl)
  have m_int := He.free_ok X G (c.fact 31 (f := .free "int") rfl)
  have m_sorted := He.free_ok X G (c.fact 32 (f := .free "sorted") rfl)
  have m_isinstance := He.free_ok X G (c.fact 33 (f := .free "isinstance") rfl)
  have m_bool := He.free_ok X G (c.fact 34 (f := .free "bool") rfl)
  have m_tuple := He.free_ok X G (c.fact 35 (f := .free "tuple") rfl)
  have m_list := He.free_ok X G (c.fact 36 (f := .free "list") rfl)
  have m_zip := He.free_ok X G (c.fact 37 (f := .free "zip") rfl)
  have m_set := He.free_ok X G (c.fact 38 (f := .free "set") rfl)
  obtain ⟨t_MOST_TUPLES, i_MOST_TUPLES⟩ := He.int_ok X G (c.fact 39 (f := .int "MOST_TUPLES" 59) rfl)
  have y_NoNumber := He.exc_ok (c.fact 41 (f := .exc "NoNumber") rfl)
  have xn_NoNumber : Exn K mg "NoNumber" (He.ga K "NoNumber") := ⟨He.glo_ok X G (c.fact 40 (f := .glo "NoNumber") rfl), y_NoNumber.1, y_NoNumber.2.1, y_NoNumber.2.2.1, y_NoNumber.2.2.2⟩
  have xm_NoNumber_NoNumber := He.exm_ok (c.fact 42 (f := .exm "NoNumber" "NoNumber" true) rfl)
  have e := hfa.symm.trans g_law
  cases e
  have b := FunD.bindsA (ps := ["script"]) G_law fun _ _ _ _ _ _ us hl => match us, hl with | [_], _ => rfl
  refine ⟨f_law, fun s v => b s [v] rfl, fun base _ _ => ?_⟩
  have c_l_stir : Cal P w K mg base CX0 1 "_law_stir" ["cell", "k"] (Sp0 K 2 preStir) := ⟨_, _, ok_l_stir F_l_stir , g_l_stir, F_l_stir.kp, F_l_stir.binds fun _ _ _ _ _ _ us hl => match us, hl with | [_, _], _ => rfl⟩
  have c_l_deck : Cal P w K mg base CX0 2 "_law_deck" ["cell", "many"] (Sp0 K 2 preDeck) := ⟨_, _, ok_l_deck F_l_deck c_l_stir m_range, g_l_deck, F_l_deck.kp, F_l_deck.binds fun _ _ _ _ _ _ us hl => match us, hl with | [_, _], _ => rfl⟩
  have c_l_next : Cal P w K mg base CX0 1 "_law_next" ["deck"] (Sp1 K 1 preNext) := ⟨_, _, ok_l_next F_l_next , g_l_next, F_l_next.kp, F_l_next.binds fun _ _ _ _ _ _ us hl => match us, hl with | [_], _ => rfl⟩
  have c_l_far : Cal P w K mg base CX0 2 "_law_far" ["deck"] (Sp1 K 1 preFarW) := ⟨_, _, ok_l_far F_l_far c_l_next m_range, g_l_far, F_l_far.kp, F_l_far.binds fun _ _ _ _ _ _ us hl => match us, hl with | [_], _ => rfl⟩
  have c_l_up : Cal P w K mg base CX0 2 "_law_up" ["deck", "shape", "i", "many"] (Sp1 K 4 preUpW) := ⟨_, _, ok_l_up F_l_up c_l_next m_max m_min, g_l_up, F_l_up.kp, F_l_up.binds fun _ _ _ _ _ _ us hl => match us, hl with | [_, _, _, _], _ => rfl⟩
  have c_l_tree : Cal P w K mg base CX0 3 "_law_tree" ["deck", "most"] (Sp1 K 2 preTreeW) := ⟨_, _, ok_l_tree F_l_tree c_l_next c_l_far c_l_up m_range m_min, g_l_tree, F_l_tree.kp, F_l_tree.binds fun _ _ _ _ _ _ us hl => match us, hl with | [_, _], _ => rfl⟩
  have c_l_table : Cal P w K mg base CX0 1 "_law_table" ["tree"] (Sp0 K 1 preLawTable) := ⟨_, _, ok_l_table F_l_table m_enumerate m_range m_len, g_l_table, F_l_table.kp, F_l_table.binds fun _ _ _ _ _ _ us hl => match us, hl with | [_], _ => rfl⟩
  have c_l_pairs : Cal P w K mg base CX0 2 "_law_pairs" ["tree"] (Sp0 K 1 preLawPairs) := ⟨_, _, ok_l_pairs F_l_pairs c_l_table m_range m_len, g_l_pairs, F_l_pairs.kp, F_l_pairs.binds fun _ _ _ _ _ _ us hl => match us, hl with | [_], _ => rfl⟩
  have c_l_cell_at : Cal P w K mg base CX0 1 "_law_cell_at" ["script", "k"] (Sp0 K 2 preCellAt) := ⟨_, _, ok_l_cell_at F_l_cell_at m_len, g_l_cell_at, F_l_cell_at.kp, F_l_cell_at.binds fun _ _ _ _ _ _ us hl => match us, hl with | [_, _], _ => rfl⟩
  have c_l_beside : Cal P w K mg base CX0 2 "_law_beside" ["deck", "far"] (Sp1 K 2 preBesideW) := ⟨_, _, ok_l_beside F_l_beside c_l_next m_max m_int, g_l_beside, F_l_beside.kp, F_l_beside.binds fun _ _ _ _ _ _ us hl => match us, hl with | [_, _], _ => rfl⟩
  have c_l_bounds : Cal P w K mg base CX0 3 "_law_bounds" ["deck", "pairs"] (Sp1 K 2 preBoundsW) := ⟨_, _, ok_l_bounds F_l_bounds c_l_next c_l_beside m_sorted m_max m_len, g_l_bounds, F_l_bounds.kp, F_l_bounds.binds fun _ _ _ _ _ _ us hl => match us, hl with | [_, _], _ => rfl⟩
  have c_l_in_order : Cal P w K mg base CX0 1 "_law_in_order" ["pairs", "a", "b", "far"] (Sp0 K 4 preInOrder) := ⟨_, _, ok_l_in_order F_l_in_order m_sorted, g_l_in_order, F_l_in_order.kp, F_l_in_order.binds fun _ _ _ _ _ _ us hl => match us, hl with | [_, _, _, _], _ => rfl⟩
  have c_is_whole : Cal P w K mg base CX0 1 "is_whole" ["thing"] (Sp0 K 1 preWhole) := ⟨_, _, ok_is_whole F_is_whole m_isinstance m_int m_bool, g_is_whole, F_is_whole.kp, F_is_whole.binds fun _ _ _ _ _ _ us hl => match us, hl with | [_], _ => rfl⟩
  have c_is_road : Cal P w K mg base CX0 2 "is_road" ["thing", "place"] (Sp0 K 2 preRoad) := ⟨_, _, ok_is_road F_is_road c_is_whole m_isinstance m_tuple m_len, g_is_road, F_is_road.kp, F_is_road.binds fun _ _ _ _ _ _ us hl => match us, hl with | [_, _], _ => rfl⟩
  have c_is_tree : Cal P w K mg base CX0 3 "is_tree" ["thing"] (Sp0 K 1 preTree) := ⟨_, _, ok_is_tree F_is_tree c_is_road m_isinstance m_list m_len m_enumerate i_MOST_TUPLES, g_is_tree, F_is_tree.kp, F_is_tree.binds fun _ _ _ _ _ _ us hl => match us, hl with | [_], _ => rfl⟩
  have c_need_tree : Cal P w K mg base CX0 4 "need_tree" ["thing"] (Sp0 K 1 preNeedTree) := ⟨_, _, ok_need_tree F_need_tree c_is_tree, g_need_tree, F_need_tree.kp, F_need_tree.binds fun _ _ _ _ _ _ us hl => match us, hl with | [_], _ => rfl⟩
  have c_need_distance : Cal P w K mg base CX0 2 "need_distance" ["thing"] (Sp0 K 1 preNeedDist) := ⟨_, _, ok_need_distance F_need_distance c_is_whole, g_need_distance, F_need_distance.kp, F_need_distance.binds fun _ _ _ _ _ _ us hl => match us, hl with | [_], _ => rfl⟩
  have c_need_bounds : Cal P w K mg base CX0 3 "need_bounds" ["a", "b"] (Sp0 K 2 preNeedBounds) := ⟨_, _, ok_need_bounds F_need_bounds c_need_distance, g_need_bounds, F_need_bounds.kp, F_need_bounds.binds fun _ _ _ _ _ _ us hl => match us, hl with | [_, _], _ => rfl⟩
  have c_one_by : Cal P w K mg base CX0 2 "one_by" ["pairs", "n"] (Sp0 K 2 preOneByK) := ⟨_, _, ok_one_by F_one_by c_is_whole m_len, g_one_by, F_one_by.kp, F_one_by.binds fun _ _ _ _ _ _ us hl => match us, hl with | [_, _], _ => rfl⟩
  have c_table_of : Cal P w K mg base CX0 1 "table_of" ["tree"] (Sp0 K 1 preTable) := ⟨_, _, ok_table_of F_table_of m_zip, g_table_of, F_table_of.kp, F_table_of.binds fun _ _ _ _ _ _ us hl => match us, hl with | [_], _ => rfl⟩
  have c_pairs_of : Cal P w K mg base CX0 2 "pairs_of" ["tree"] (Sp0 K 1 prePairs) := ⟨_, _, ok_pairs_of F_pairs_of c_table_of m_enumerate m_range m_len, g_pairs_of, F_pairs_of.kp, F_pairs_of.binds fun _ _ _ _ _ _ us hl => match us, hl with | [_], _ => rfl⟩
  have c_nth_from : Cal P w K mg base CX0 5 "nth_from" ["tree", "a", "b", "n", "far"] (Sp0 K 5 preNthFrom) := ⟨_, _, ok_nth_from F_nth_from c_need_tree c_need_bounds c_one_by c_pairs_of m_sorted, g_nth_from, F_nth_from.kp, F_nth_from.binds fun _ _ _ _ _ _ us hl => match us, hl with | [_, _, _, _, _], _ => rfl⟩
  have cx_one_by_NoNumber : Cal P w K mg base (L2.CX P w) 2 "one_by" ["pairs", "n"] (SpX K 2 preOneByX (.ref (He.ga K "NoNumber"))) := ⟨_, _, okX_one_by_NoNumber F_one_by c_is_whole m_len xn_NoNumber, g_one_by, F_one_by.kp, F_one_by.binds fun _ _ _ _ _ _ us hl => match us, hl with | [_, _], _ => rfl⟩
  have cx_nth_from_NoNumber : Cal P w K mg base (L2.CX P w) 5 "nth_from" ["tree", "a", "b", "n", "far"] (SpX K 5 preNthFromX (.ref (He.ga K "NoNumber"))) := ⟨_, _, okX_nth_from_NoNumber F_nth_from c_need_tree c_need_bounds c_one_by c_pairs_of cx_one_by_NoNumber m_sorted xn_NoNumber, g_nth_from, F_nth_from.kp, F_nth_from.binds fun _ _ _ _ _ _ us hl => match us, hl with | [_, _, _, _, _], _ => rfl⟩
  have c_l_told : Cal P w K mg base CX0 6 "_law_told" ["tree", "a", "b", "n", "far"] (Sp0 K 5 preTold) := ⟨_, _, ok_l_told F_l_told c_nth_from xn_NoNumber cx_nth_from_NoNumber xm_NoNumber_NoNumber, g_l_told, F_l_told.kp, F_l_told.binds fun _ _ _ _ _ _ us hl => match us, hl with | [_, _, _, _, _], _ => rfl⟩
  have c_l_whole : Cal P w K mg base CX0 1 "_law_whole" ["thing"] (Sp0 K 1 preWhole) := ⟨_, _, ok_l_whole F_l_whole m_isinstance m_int m_bool, g_l_whole, F_l_whole.kp, F_l_whole.binds fun _ _ _ _ _ _ us hl => match us, hl with | [_], _ => rfl⟩
  have c_l_is_pair : Cal P w K mg base CX0 2 "_law_is_pair" ["found"] (Sp0 K 1 preIsPair) := ⟨_, _, ok_l_is_pair F_l_is_pair c_l_whole m_isinstance m_tuple, g_l_is_pair, F_l_is_pair.kp, F_l_is_pair.binds fun _ _ _ _ _ _ us hl => match us, hl with | [_], _ => rfl⟩
  exact ok_law F_law c_l_deck c_l_tree c_l_pairs c_l_cell_at c_l_bounds c_l_in_order c_l_told c_l_is_pair c_l_next m_range m_max m_list m_min m_len m_sorted m_set
end
end DL
open PySem PySem.W PySem.Calls PyProof.Rows
theorem PySem.Challenge.cw_pairsfar_k23_numbers_within_bounds_holds : PySem.Challenge.rw_pairsfar_k23_numbers_within_bounds.Holds := by
  w_on; o_law
  refine HandSHeadRun.head_any (r := DL.dlR) (q := view DL.dlR.prog [34]) (H := DL.dlHk) (ob := DL.dlOb) (M := 2200) (loose := DL.dlNames) (d := HandSHeadRun.topDef DL.dlR.prog 34) (kwd := []) DL.dlOb_eq
    (by kernel_rfl) (fun s => by kernel_rfl) DL.dlRun (by kernel_rfl) (by kernel_rfl) (by kernel_rfl) (by rfl) (by first | assumption | decide +kernel) (by decide +kernel) ⟨rfl, rfl, rfl, rfl, rfl, by decide +kernel⟩ ?hw ?hc
  case hw => w_witness2
  case hc =>
    refine L2.walk_ofE (l := PySem.Challenge.rw_pairsfar_k23_numbers_within_bounds) (n := 63) (k := 7) (x := "script") (CX := L2.CX0) rfl (by decide) (by kernel_rfl) ⟨rfl, by decide, by decide⟩ ?F (fun _ _ _ _ z => z)
    intro w mg fa h Y G hmg0
    obtain ⟨K, KX, c⟩ := Y
    have hmg : mg ("law" : PySem.Str) = some (.ref fa) := by
      rw [← show (HandSHeadRun.topDef DL.dlR.prog 34).name = ("law" : PySem.Str) by kernel_rfl]
      exact hmg0
    obtain ⟨fd, hb, hF⟩ := DL.dlFacts (P := PySem.Challenge.pw_pairsfar_k23_numbers_within_bounds) (w := w) KX G hmg c
    exact ⟨K, fd, _, KX, hb, fun H a ns hl _ hS => DL.law_start hl hS, hF⟩
