import PyProof.Rows.All
import Wide.All
import OpenK.AllK
import Wide.FinOn
import HandS.ForMost
import HandS.HeadHook1
import HandS.HeadHook2
import HandS.Zip
import HandS.TupAny
import HandS.Style
import HandS.IsInst
import HandS.Rev
import HandS.RevRange
import HandS.Deep
import PyProof.StrOps2
import HandS.Conv
import HandS.Walk
import HandS.Defaults
import HandS.WordsExc
import HandS.HeadEnd
import HandS.Dict
import HandS.SetKeys
import HandS.Iter
import HandS.Small
import HandS.More
import HandS.WordsDict
import HandS.Strs
import HandS.TryOnly
import KE.KStateDown
import Lean
import HandS.Head0
import HandS.Head1
import HandS.Head2
import HandS.Codes
import PySem.Challenge.RW_inningsbook_k88_whole_long_leagues
set_option Elab.async false
set_option linter.all false
set_option maxRecDepth 100000
set_option maxHeartbeats 8000000
/-! Om: a logic over plain data: S a value seen as data, Om the store of the things that may still change. -/
namespace Om
open PySem L2

inductive S where
  | non | bl (b : Bool) | int (i : Int) | str (x : Str) | ty (n : String)
  | lst (xs : List S) | tup (xs : List S) | dic (kvs : List (Key × S)) | adr (a : Addr)
  /-- a list that is read only: the script, one of the top's -/
  | wls (xs : List S)

inductive Cell where
  | lst (xs : List S) | dK (kvs : List (Key × S)) | dT (kvs : List (List Key × S)) | ins (C : Str) (fs : List (Str × S))

abbrev Om := Addr → Option Cell
def put (Ω : Om) (a : Addr) (c : Cell) : Om := fun b => if b = a then some c else Ω b
def drp (Ω : Om) (a : Addr) : Om := fun b => if b = a then none else Ω b
theorem put_same {Ω : Om} {a : Addr} {c : Cell} : put Ω a c a = some c := if_pos rfl
theorem put_ne {Ω : Om} {a b : Addr} {c : Cell} (h : b ≠ a) : put Ω a c b = Ω b := if_neg h
theorem drp_same {Ω : Om} {a : Addr} : drp Ω a a = none := if_pos rfl
theorem drp_ne {Ω : Om} {a b : Addr} (h : b ≠ a) : drp Ω a b = Ω b := if_neg h
theorem put_put {Ω : Om} {a : Addr} {c d : Cell} : put (put Ω a c) a d = put Ω a d := by
  funext b; unfold put; split <;> rfl
theorem put_self {Ω : Om} {a : Addr} {c : Cell} (h : Ω a = some c) : put Ω a c = Ω := by
  funext b; unfold put; split
  · rename_i e; rw [e, h]
  · rfl
theorem put_comm {Ω : Om} {a b : Addr} {c d : Cell} (h : a ≠ b) : put (put Ω a c) b d = put (put Ω b d) a c := by
  funext x; unfold put
  by_cases h1 : x = a
  · subst h1; simp [h]
  · simp [h1]
theorem drp_put {Ω : Om} {a : Addr} {c : Cell} (h : Ω a = none) : drp (put Ω a c) a = Ω := by
  funext b; unfold drp put; split
  · rename_i e; rw [e, h]
  · rfl
theorem ne_put {Ω : Om} {a b : Addr} {c : Cell} (h : Ω a = some c) (h' : Ω b = none) : a ≠ b := by
  intro e; rw [e, h'] at h; cases h

/-- what may change: the hidden ones, and the store's -/
def mu (Z : Addr → Prop) (Ω : Om) : Addr → Prop := fun a => Z a ∨ Ω a ≠ none

mutual
inductive Rep (K : PySem.W.Frag) (N : Addr → Prop) (H : Hp) : V → S → Prop
  | non : Rep K N H .non .non
  | bl (b : Bool) : Rep K N H (.bl b) (.bl b)
  | int (i : Int) : Rep K N H (.int i) (.int i)
  | str (x : Str) : Rep K N H (.str x) (.str x)
  | ty (n : String) : Rep K N H (.ty n) (.ty n)
  | adr (a : Addr) : Rep K N H (.ref a) (.adr a)
  | lst {a : Addr} {xs : List V} {ss : List S} (h0 : ¬ N a) (h : H a = some (.lst xs)) (r : RepL K N H xs ss) : Rep K N H (.ref a) (.lst ss)
  | tup {a : Addr} {xs : List V} {ss : List S} (h0 : ¬ N a) (h : H a = some (.tup xs)) (r : RepL K N H xs ss) : Rep K N H (.ref a) (.tup ss)
  | sc {a : Addr} {xs : List V} {ss : List S} (h0 : ¬ N a) (h : Rd H a (.lst xs)) (r : RepL K N H xs ss) : Rep K N H (.ref a) (.wls ss)
  | wl {a : Addr} {xs : List V} {ss : List S} (h : ∀ H', SqL K H' a xs) (r : RepL K N H xs ss) : Rep K N H (.ref a) (.wls ss)
  | wt {a : Addr} {xs : List V} {ss : List S} (h : ∀ H', SqT K H' a xs) (r : RepL K N H xs ss) : Rep K N H (.ref a) (.tup ss)
  | dic {a : Addr} {o : Obj} {ks : List (Key × V)} {kvs : List (Key × S)} (h0 : ¬ N a) (h : H a = some (.frz o (.dK ks))) (e : ks.map (·.1) = kvs.map (·.1)) (r : RepL K N H (ks.map (·.2)) (kvs.map (·.2))) : Rep K N H (.ref a) (.dic kvs)
inductive RepL (K : PySem.W.Frag) (N : Addr → Prop) (H : Hp) : List V → List S → Prop
  | nil : RepL K N H [] []
  | cons {v : V} {s : S} {vs : List V} {ss : List S} (h : Rep K N H v s) (r : RepL K N H vs ss) : RepL K N H (v :: vs) (s :: ss)
end

section
variable {K : PySem.W.Frag} {N N' : Addr → Prop} {H H' : Hp}
theorem rd_keep {a : Addr} {u : HO} (k : ∀ o, H a = some o → H' a = some o) (h : Rd H a u) : Rd H' a u := by
  rcases h with h | ⟨o, h⟩
  · exact .inl (k _ h)
  · exact .inr ⟨o, k _ h⟩
theorem rd_some {a : Addr} {u : HO} (h : Rd H a u) : ∃ o, H a = some o := by
  rcases h with h | ⟨o, h⟩
  · exact ⟨_, h⟩
  · exact ⟨_, h⟩
mutual
/-- data stand where what is not to change stands -/
theorem Rep.keep (k : ∀ a o, H a = some o → ¬ N a → H' a = some o) (n : ∀ a o, H a = some o → ¬ N a → ¬ N' a) : ∀ {v : V} {s : S}, Rep K N H v s → Rep K N' H' v s
  | _, _, .non => .non
  | _, _, .bl b => .bl b
  | _, _, .int i => .int i
  | _, _, .str x => .str x
  | _, _, .ty x => .ty x
  | _, _, .adr a => .adr a
  | _, _, .lst h0 h r => .lst (n _ _ h h0) (k _ _ h h0) (RepL.keep k n r)
  | _, _, .sc h0 h r => .sc (let ⟨o, e⟩ := rd_some h; n _ o e h0) (rd_keep (fun o e => k _ o e h0) h) (RepL.keep k n r)
  | _, _, .tup h0 h r => .tup (n _ _ h h0) (k _ _ h h0) (RepL.keep k n r)
  | _, _, .wl h r => .wl h (RepL.keep k n r)
  | _, _, .wt h r => .wt h (RepL.keep k n r)
  | _, _, .dic h0 h e r => .dic (n _ _ h h0) (k _ _ h h0) e (RepL.keep k n r)
theorem RepL.keep (k : ∀ a o, H a = some o → ¬ N a → H' a = some o) (n : ∀ a o, H a = some o → ¬ N a → ¬ N' a) : ∀ {v : List V} {s : List S}, RepL K N H v s → RepL K N' H' v s
  | _, _, .nil => .nil
  | _, _, .cons h r => .cons (Rep.keep k n h) (RepL.keep k n r)
end
theorem RepL.length : ∀ {vs : List V} {ss : List S}, RepL K N H vs ss → vs.length = ss.length
  | _, _, .nil => rfl
  | _, _, .cons _ r => congrArg (· + 1) r.length
theorem RepL.get : ∀ {vs : List V} {ss : List S} {i : Nat} {s : S}, RepL K N H vs ss → ss[i]? = some s → ∃ v, vs[i]? = some v ∧ Rep K N H v s
  | _, _, 0, s, .cons h _, e => ⟨_, rfl, by simp at e; rw [← e]; exact h⟩
  | _, _, i + 1, s, .cons _ r, e => by
    obtain ⟨v, h1, h2⟩ := RepL.get (i := i) (s := s) r (by simpa using e)
    exact ⟨v, by simpa using h1, h2⟩
theorem RepL.getV : ∀ {vs : List V} {ss : List S} {i : Nat} {v : V}, RepL K N H vs ss → vs[i]? = some v → ∃ s, ss[i]? = some s ∧ Rep K N H v s
  | _, _, 0, v, .cons h _, e => ⟨_, rfl, by simp at e; rw [← e]; exact h⟩
  | _, _, i + 1, v, .cons _ r, e => by
    obtain ⟨s, h1, h2⟩ := RepL.getV (i := i) (v := v) r (by simpa using e)
    exact ⟨s, by simpa using h1, h2⟩
theorem RepL.append : ∀ {vs ws : List V} {ss ts : List S}, RepL K N H vs ss → RepL K N H ws ts → RepL K N H (vs ++ ws) (ss ++ ts)
  | _, _, _, _, .nil, q => q
  | _, _, _, _, .cons h r, q => .cons h (RepL.append r q)
theorem RepL.set {v : V} {s : S} (q : Rep K N H v s) : ∀ {vs : List V} {ss : List S} (i : Nat), RepL K N H vs ss → RepL K N H (vs.set i v) (ss.set i s)
  | _, _, _, .nil => .nil
  | _, _, 0, .cons _ r => .cons q r
  | _, _, i + 1, .cons h r => .cons h (RepL.set q i r)
theorem RepL.take : ∀ {vs : List V} {ss : List S} (n : Nat), RepL K N H vs ss → RepL K N H (vs.take n) (ss.take n)
  | _, _, 0, _ => .nil
  | _, _, _ + 1, .nil => .nil
  | _, _, n + 1, .cons h r => .cons h (RepL.take n r)
theorem RepL.drop : ∀ {vs : List V} {ss : List S} (n : Nat), RepL K N H vs ss → RepL K N H (vs.drop n) (ss.drop n)
  | _, _, 0, r => r
  | _, _, _ + 1, .nil => .nil
  | _, _, n + 1, .cons _ r => RepL.drop n r
theorem RepL.rev : ∀ {vs : List V} {ss : List S}, RepL K N H vs ss → RepL K N H vs.reverse ss.reverse
  | _, _, .nil => .nil
  | _, _, .cons h r => by
    rw [List.reverse_cons, List.reverse_cons]
    exact (RepL.rev r).append (.cons h .nil)
theorem RepL.ofInts : ∀ {ns : List Int}, RepL K N H (ns.map V.int) (ns.map S.int)
  | [] => .nil
  | n :: ns => .cons (.int n) RepL.ofInts
end

/-! ### the store over the heap -/
def CellRep (K : PySem.W.Frag) (N : Addr → Prop) (H : Hp) (a : Addr) : Cell → Prop
  | .lst ss => ∃ xs, H a = some (.lst xs) ∧ RepL K N H xs ss
  | .dK kvs => ∃ ks, H a = some (.dK ks) ∧ ks.map (·.1) = kvs.map (·.1) ∧ RepL K N H (ks.map (·.2)) (kvs.map (·.2))
  | .dT kvs => ∃ ks, H a = some (.dT ks) ∧ ks.map (·.1) = kvs.map (·.1) ∧ RepL K N H (ks.map (·.2)) (kvs.map (·.2))
  | .ins C fs => ∃ dx ks, H a = some (.ins (He.ga K C) dx ks) ∧ ks.map (·.1) = fs.map (·.1) ∧ RepL K N H (ks.map (·.2)) (fs.map (·.2))
theorem CellRep.ex {K : PySem.W.Frag} {N : Addr → Prop} {H : Hp} {a : Addr} {c : Cell} (h : CellRep K N H a c) : ∃ o, H a = some o := by
  cases c with
  | lst ss => obtain ⟨xs, h, _⟩ := h; exact ⟨_, h⟩
  | dK ss => obtain ⟨xs, h, _⟩ := h; exact ⟨_, h⟩
  | dT ss => obtain ⟨xs, h, _⟩ := h; exact ⟨_, h⟩
  | ins C ss => obtain ⟨d, xs, h, _⟩ := h; exact ⟨_, h⟩
theorem CellRep.keep {K : PySem.W.Frag} {N N' : Addr → Prop} {H H' : Hp} {a : Addr} {c : Cell} (h : CellRep K N H a c) (e : ∀ o, H a = some o → H' a = some o)
    (k : ∀ a o, H a = some o → ¬ N a → H' a = some o) (n : ∀ a o, H a = some o → ¬ N a → ¬ N' a) : CellRep K N' H' a c := by
  cases c with
  | lst ss => obtain ⟨xs, h, r⟩ := h; exact ⟨xs, e _ h, r.keep k n⟩
  | dK ss => obtain ⟨xs, h, q, r⟩ := h; exact ⟨xs, e _ h, q, r.keep k n⟩
  | dT ss => obtain ⟨xs, h, q, r⟩ := h; exact ⟨xs, e _ h, q, r.keep k n⟩
  | ins C ss => obtain ⟨d, xs, h, q, r⟩ := h; exact ⟨d, xs, e _ h, q, r.keep k n⟩

/-- the store as it stands in the heap; the hidden ones stand, and are none of the store's -/
structure Ok (K : PySem.W.Frag) (Z : Addr → Prop) (Ω : Om) (H : Hp) : Prop where
  cells : ∀ a c, Ω a = some c → CellRep K (mu Z Ω) H a c
  hid : ∀ a, Z a → Ω a = none ∧ ∃ o, H a = some o
/-- from one store and heap to later ones -/
structure Frm (Ω : Om) (H : Hp) (Ω' : Om) (H' : Hp) : Prop where
  keep : ∀ a o, H a = some o → Ω a = none → H' a = some o
  dom : ∀ a, Ω' a ≠ none → Ω a ≠ none ∨ H a = none
def gt : List (Option S) → Nat → Option S
  | [], _ => none
  | x :: _, 0 => x
  | _ :: r, n + 1 => gt r n
def st : List (Option S) → Nat → Option S → List (Option S)
  | [], _, _ => []
  | _ :: r, 0, s => s :: r
  | x :: r, n + 1, s => x :: st r n s
structure Env (K : PySem.W.Frag) (Z : Addr → Prop) (Ω : Om) (H : Hp) (σ : L2.St) (Γ : List (Option S)) : Prop where
  len : σ.length = Γ.length
  at_ : ∀ i s, gt Γ i = some s → ∃ v, σ[i]? = some (some v) ∧ Rep K (mu Z Ω) H v s

section
variable {K : PySem.W.Frag} {Z : Addr → Prop} {Ω Ω1 Ω2 : Om} {H H1 H2 : Hp} {σ : L2.St} {Γ : List (Option S)}
theorem Frm.refl : Frm Ω H Ω H := ⟨fun _ _ h _ => h, fun _ h => .inl h⟩
theorem no_some {α : Type} {o : Option α} (h : ¬ o ≠ none) : o = none := by
  cases o with
  | none => rfl
  | some x => exact absurd (by simp) h
theorem Frm.trans (f : Frm Ω H Ω1 H1) (g : Frm Ω1 H1 Ω2 H2) : Frm Ω H Ω2 H2 := by
  refine ⟨fun a o h h0 => ?_, fun a h => ?_⟩
  · refine g.keep a o (f.keep a o h h0) ?_
    refine no_some fun h1 => ?_
    rcases f.dom a h1 with q | q
    · exact q h0
    · rw [q] at h; cases h
  · rcases g.dom a h with q | q
    · exact f.dom a q
    · by_cases h0 : Ω a = none
      · cases e : H a with
        | none => exact .inr rfl
        | some o => rw [f.keep a o e h0] at q; cases q
      · exact .inl h0
theorem Frm.mut (f : Frm Ω H Ω1 H1) (zo : Ok K Z Ω H) : ∀ a o, H a = some o → ¬ mu Z Ω a → ¬ mu Z Ω1 a := fun a o e h q => by
  rcases q with q | q
  · exact h (.inl q)
  · rcases f.dom a q with q | q
    · exact h (.inr q)
    · rw [q] at e; cases e
theorem Frm.rep {v : V} {s : S} (f : Frm Ω H Ω1 H1) (o : Ok K Z Ω H) (r : Rep K (mu Z Ω) H v s) : Rep K (mu Z Ω1) H1 v s :=
  r.keep (fun a o e h => f.keep a o e (no_some fun q => h (.inr q))) (f.mut o)
theorem Frm.repL {v : List V} {s : List S} (f : Frm Ω H Ω1 H1) (o : Ok K Z Ω H) (r : RepL K (mu Z Ω) H v s) : RepL K (mu Z Ω1) H1 v s :=
  r.keep (fun a o e h => f.keep a o e (no_some fun q => h (.inr q))) (f.mut o)
theorem Env.frm (e : Env K Z Ω H σ Γ) (f : Frm Ω H Ω1 H1) (o : Ok K Z Ω H) : Env K Z Ω1 H1 σ Γ :=
  ⟨e.len, fun i s h => let ⟨v, h1, h2⟩ := e.at_ i s h; ⟨v, h1, f.rep o h2⟩⟩
theorem gt_lt : ∀ {Γ : List (Option S)} {i : Nat} {s : S}, gt Γ i = some s → i < Γ.length
  | [], _, _, h => by cases h
  | _ :: _, 0, _, _ => Nat.succ_pos _
  | _ :: r, i + 1, s, h => Nat.succ_lt_succ (gt_lt (Γ := r) h)
theorem st_len : ∀ {Γ : List (Option S)} {i : Nat} {s : Option S}, (st Γ i s).length = Γ.length
  | [], _, _ => rfl
  | _ :: _, 0, _ => rfl
  | _ :: r, i + 1, s => congrArg (· + 1) (st_len (Γ := r))
theorem gt_st : ∀ {Γ : List (Option S)} {i j : Nat} {s : Option S} {u : S}, gt (st Γ i s) j = some u → (i = j ∧ s = some u) ∨ (i ≠ j ∧ gt Γ j = some u)
  | [], _, _, _, _, h => by cases h
  | x :: r, 0, 0, s, u, h => .inl ⟨rfl, h⟩
  | x :: r, 0, j + 1, s, u, h => .inr ⟨by omega, h⟩
  | x :: r, i + 1, 0, s, u, h => .inr ⟨by omega, h⟩
  | x :: r, i + 1, j + 1, s, u, h => by
    rcases gt_st (Γ := r) (i := i) (j := j) (s := s) (u := u) h with ⟨a, b⟩ | ⟨a, b⟩
    · exact .inl ⟨by omega, b⟩
    · exact .inr ⟨by omega, b⟩
theorem Env.set {i : Nat} {v : V} {s : S} (e : Env K Z Ω H σ Γ) (r : Rep K (mu Z Ω) H v s) : Env K Z Ω H (σ.set i (some v)) (st Γ i (some s)) := by
  refine ⟨by rw [List.length_set, st_len]; exact e.len, fun j u h => ?_⟩
  have hl : j < Γ.length := by
    have := gt_lt h
    rwa [st_len] at this
  rcases gt_st h with ⟨rfl, e2⟩ | ⟨ne, e2⟩
  · cases e2
    exact ⟨v, by rw [List.getElem?_set_self (by rw [e.len]; exact hl)], r⟩
  · obtain ⟨w, h1, h2⟩ := e.at_ j u e2
    exact ⟨w, by rw [List.getElem?_set_ne ne]; exact h1, h2⟩
theorem Env.unset {i : Nat} (e : Env K Z Ω H σ Γ) : Env K Z Ω H (σ.set i none) (st Γ i none) := by
  refine ⟨by rw [List.length_set, st_len]; exact e.len, fun j u h => ?_⟩
  rcases gt_st h with ⟨rfl, e2⟩ | ⟨ne, e2⟩
  · cases e2
  · obtain ⟨w, h1, h2⟩ := e.at_ j u e2
    exact ⟨w, by rw [List.getElem?_set_ne ne]; exact h1, h2⟩

/-! ### a new thing, left as data | a new thing of the store | a thing of the store changed | a thing of the store let go -/
theorem Ok.fresh {p : Addr} (o : Ok K Z Ω H) (hp : H p = none) : ¬ mu Z Ω p := by
  rintro (h | h)
  · obtain ⟨_, x, e⟩ := o.hid p h
    rw [hp] at e; cases e
  · cases e : Ω p with
    | none => exact h e
    | some c =>
      obtain ⟨x, e2⟩ := CellRep.ex (o.cells p c e)
      rw [hp] at e2; cases e2
theorem Ok.freshO {p : Addr} (o : Ok K Z Ω H) (hp : H p = none) : Ω p = none := no_some fun q => o.fresh hp (.inr q)
theorem frm_new {p : Addr} {u : HO} (hp : H p = none) : Frm Ω H Ω (upd H p u) :=
  ⟨fun a o e _ => by rw [upd_ne (ne_of_none e hp)]; exact e, fun _ h => .inl h⟩
theorem Ok.new {p : Addr} {u : HO} (o : Ok K Z Ω H) (hp : H p = none) : Ok K Z Ω (upd H p u) := by
  refine ⟨fun a c h => ?_, fun a h => ?_⟩
  · exact CellRep.keep (o.cells a c h) (fun x e => by rw [upd_ne (ne_of_none e hp)]; exact e) (fun b x e _ => by rw [upd_ne (ne_of_none e hp)]; exact e) fun _ _ _ q => q
  · obtain ⟨h1, x, e⟩ := o.hid a h
    exact ⟨h1, x, by rw [upd_ne (ne_of_none e hp)]; exact e⟩
theorem mu_put {a : Addr} {c : Cell} {b : Addr} (h : ¬ mu Z Ω b) (ne : b ≠ a) : ¬ mu Z (put Ω a c) b := by
  rintro (q | q)
  · exact h (.inl q)
  · rw [put_ne ne] at q; exact h (.inr q)
theorem frm_cell {p : Addr} {u : HO} {c : Cell} (hp : H p = none) : Frm Ω H (put Ω p c) (upd H p u) := by
  refine ⟨fun a o e _ => by rw [upd_ne (ne_of_none e hp)]; exact e, fun a h => ?_⟩
  by_cases e : a = p
  · exact .inr (by rw [e]; exact hp)
  · rw [put_ne e] at h; exact .inl h
theorem Ok.cell {p : Addr} {u : HO} {c : Cell} (o : Ok K Z Ω H) (hp : H p = none) (r : CellRep K (mu Z (put Ω p c)) (upd H p u) p c) : Ok K Z (put Ω p c) (upd H p u) := by
  refine ⟨fun a d h => ?_, fun a h => ?_⟩
  · by_cases e : a = p
    · subst e
      rw [put_same] at h
      cases h
      exact r
    · rw [put_ne e] at h
      exact CellRep.keep (o.cells a d h) (fun x e => by rw [upd_ne (ne_of_none e hp)]; exact e) (fun b x e _ => by rw [upd_ne (ne_of_none e hp)]; exact e) fun b x e q => mu_put q (ne_of_none e hp)
  · obtain ⟨h1, x, e⟩ := o.hid a h
    exact ⟨by rw [put_ne (ne_of_none e hp)]; exact h1, x, by rw [upd_ne (ne_of_none e hp)]; exact e⟩
theorem frm_mut {a : Addr} {u : HO} {c d : Cell} (ha : Ω a = some c) : Frm Ω H (put Ω a d) (upd H a u) := by
  refine ⟨fun b o e h => by rw [upd_ne (fun q => by rw [q, ha] at h; cases h)]; exact e, fun b h => ?_⟩
  by_cases e : b = a
  · exact .inl (by rw [e, ha]; simp)
  · rw [put_ne e] at h; exact .inl h
theorem mu_same {a : Addr} {c d : Cell} (ha : Ω a = some c) : mu Z (put Ω a d) = mu Z Ω := by
  funext b
  unfold mu
  by_cases e : b = a
  · subst e; rw [put_same, ha]; simp
  · rw [put_ne e]
theorem Ok.mut {a : Addr} {u : HO} {c d : Cell} (o : Ok K Z Ω H) (ha : Ω a = some c) (r : CellRep K (mu Z Ω) (upd H a u) a d) : Ok K Z (put Ω a d) (upd H a u) := by
  refine ⟨fun b e h => ?_, fun b h => ?_⟩
  · rw [mu_same ha]
    by_cases q : b = a
    · subst q
      rw [put_same] at h
      cases h
      exact r
    · rw [put_ne q] at h
      exact CellRep.keep (o.cells b e h) (fun x e => by rw [upd_ne q]; exact e) (fun z x e n => by rw [upd_ne (fun w => n (.inr (by rw [w, ha]; simp)))]; exact e) fun _ _ _ n => n
  · obtain ⟨h1, x, e⟩ := o.hid b h
    have q : b ≠ a := fun w => by rw [w, ha] at h1; cases h1
    exact ⟨by rw [put_ne q]; exact h1, x, by rw [upd_ne q]; exact e⟩
theorem repL_upd {a : Addr} {u : HO} {c : Cell} {vs : List V} {ss : List S} (ha : Ω a = some c) (r : RepL K (mu Z Ω) H vs ss) : RepL K (mu Z Ω) (upd H a u) vs ss :=
  r.keep (fun b x e n => by rw [upd_ne (fun w => n (.inr (by rw [w, ha]; simp)))]; exact e) fun _ _ _ n => n
theorem mu_drp {a b : Addr} (h : ¬ mu Z Ω b) : ¬ mu Z (drp Ω a) b := by
  rintro (q | q)
  · exact h (.inl q)
  · by_cases e : b = a
    · rw [e, drp_same] at q; exact q rfl
    · rw [drp_ne e] at q; exact h (.inr q)
theorem Ok.drp {a : Addr} (o : Ok K Z Ω H) : Ok K Z (drp Ω a) H := by
  refine ⟨fun b c h => ?_, fun b h => ?_⟩
  · by_cases e : b = a
    · rw [e, drp_same] at h; cases h
    · rw [drp_ne e] at h
      exact CellRep.keep (o.cells b c h) (fun _ e => e) (fun _ _ e _ => e) fun _ _ _ q => mu_drp q
  · obtain ⟨h1, x⟩ := o.hid b h
    refine ⟨?_, x⟩
    by_cases e : b = a
    · rw [e, drp_same]
    · rw [drp_ne e]; exact h1
theorem frm_drp {a : Addr} : Frm Ω H (drp Ω a) H := ⟨fun _ _ e _ => e, fun b h => by
  by_cases e : b = a
  · rw [e, drp_same] at h; exact absurd rfl h
  · rw [drp_ne e] at h; exact .inl h⟩
end
end Om
/-! Om: readings over plain data, one rule a construct. -/
namespace Om
open PySem L2
open PyProof.Rows (b2i)

abbrev Ga := List (Option S)
abbrev WP := S → Om → Prop
abbrev WE := Ga → Om → WP → Prop
abbrev WA := Ga → Om → (List S → Om → Prop) → Prop
abbrev WT := Ga → Om → (Bool → Om → Prop) → Prop
abbrev W2 := S → S → Om → WP → Prop
abbrev W1 := S → Om → WP → Prop
abbrev WL := List S → Om → WP → Prop

/-- what a continuation over values must bear -/
def Fin (K : PySem.W.Frag) (Z : Addr → Prop) (Ω : Om) (H : Hp) (P : WP) (Q : VK) : Prop :=
  ∀ v s Ω' H', Ok K Z Ω' H' → Frm Ω H Ω' H' → Rep K (mu Z Ω') H' v s → P s Ω' → Q v H'
def SE (K : PySem.W.Frag) (t : TE) (w : WE) : Prop := ∀ Z σ H Γ Ω P Q, Ok K Z Ω H → Env K Z Ω H σ Γ → w Γ Ω P → Fin K Z Ω H P Q → t σ H Q
def ST (K : PySem.W.Frag) (t : TT) (w : WT) : Prop := ∀ Z σ H Γ Ω (P : Bool → Om → Prop) (Q : Bool → Hp → Prop), Ok K Z Ω H → Env K Z Ω H σ Γ → w Γ Ω P →
  (∀ b Ω' H', Ok K Z Ω' H' → Frm Ω H Ω' H' → P b Ω' → Q b H') → t σ H Q
def SA (K : PySem.W.Frag) (t : TA) (w : WA) : Prop := ∀ Z σ H Γ Ω (P : List S → Om → Prop) (Q : List V → Hp → Prop), Ok K Z Ω H → Env K Z Ω H σ Γ → w Γ Ω P →
  (∀ vs ss Ω' H', Ok K Z Ω' H' → Frm Ω H Ω' H' → RepL K (mu Z Ω') H' vs ss → P ss Ω' → Q vs H') → t σ H Q
def S2 (K : PySem.W.Frag) (r : R2) (o : W2) : Prop := ∀ Z H Ω x y a b P Q, Ok K Z Ω H → Rep K (mu Z Ω) H x a → Rep K (mu Z Ω) H y b → o a b Ω P → Fin K Z Ω H P Q → r x y H Q
def S1 (K : PySem.W.Frag) (r : V → Hp → VK → Prop) (o : W1) : Prop := ∀ Z H Ω x a P Q, Ok K Z Ω H → Rep K (mu Z Ω) H x a → o a Ω P → Fin K Z Ω H P Q → r x H Q
def SL (K : PySem.W.Frag) (r : List V → Hp → VK → Prop) (o : WL) : Prop := ∀ Z H Ω xs ss P Q, Ok K Z Ω H → RepL K (mu Z Ω) H xs ss → o ss Ω P → Fin K Z Ω H P Q → r xs H Q

structure OE (X : Cx) (e : Expr) (t : TE) (w : WE) : Prop where
  pe : PE X e t
  se : SE X.K t w
structure OT (X : Cx) (e : Expr) (t : TT) (w : WT) : Prop where
  pe : PT X e t
  se : ST X.K t w
structure OA (X : Cx) (es : List Expr) (t : TA) (w : WA) : Prop where
  pe : PA X es t
  se : SA X.K t w
structure OO (X : Cx) (f : Value → Value → Sem Value) (r : R2) (o : W2) : Prop where
  pe : OpR X f r
  se : S2 X.K r o
structure OC (X : Cx) (f : Value) (r : List V → Hp → VK → Prop) (o : WL) : Prop where
  pe : CallR X f r
  se : SL X.K r o

section
variable {K : PySem.W.Frag} {Z : Addr → Prop} {Ω Ω1 : Om} {H H1 : Hp} {P : WP} {Q : VK} {v : V} {s : S}
/-! ### ends -/
theorem Fin.now (k : Fin K Z Ω H P Q) (o : Ok K Z Ω H) (r : Rep K (mu Z Ω) H v s) (p : P s Ω) : Q v H := k v s Ω H o .refl r p
theorem Fin.frm (k : Fin K Z Ω H P Q) (f : Frm Ω H Ω1 H1) : Fin K Z Ω1 H1 P Q := fun v s Ω' H' o g r p => k v s Ω' H' o (f.trans g) r p
theorem Fin.lst {p : Addr} {xs : List V} {ss : List S} (k : Fin K Z Ω H P Q) (o : Ok K Z Ω H) (hp : H p = none) (r : RepL K (mu Z Ω) H xs ss) (q : P (.lst ss) Ω) : Q (.ref p) (upd H p (.lst xs)) :=
  k _ _ Ω _ (o.new hp) (frm_new hp) (.lst (o.fresh hp) upd_same ((frm_new hp).repL o r)) q
theorem Fin.tup {p : Addr} {xs : List V} {ss : List S} (k : Fin K Z Ω H P Q) (o : Ok K Z Ω H) (hp : H p = none) (r : RepL K (mu Z Ω) H xs ss) (q : P (.tup ss) Ω) : Q (.ref p) (upd H p (.tup xs)) :=
  k _ _ Ω _ (o.new hp) (frm_new hp) (.tup (o.fresh hp) upd_same ((frm_new hp).repL o r)) q
theorem Fin.cell {p : Addr} {xs : List V} {ss : List S} (k : Fin K Z Ω H P Q) (o : Ok K Z Ω H) (hp : H p = none) (r : RepL K (mu Z Ω) H xs ss) (q : P (.adr p) (put Ω p (.lst ss))) : Q (.ref p) (upd H p (.lst xs)) :=
  k _ _ _ _ (o.cell (c := .lst ss) hp ⟨xs, upd_same, (frm_cell hp).repL o r⟩) (frm_cell hp) (.adr p) q

/-! ### seeing values as what they are -/
def cellL : Option Cell → Option (List S)
  | some (.lst xs) => some xs
  | _ => none
def asL (Ω : Om) : S → Option (List S)
  | .lst xs => some xs
  | .wls xs => some xs
  | .adr a => cellL (Ω a)
  | _ => none
def asT : S → Option (List S)
  | .tup xs => some xs
  | _ => none
theorem asL_adr {a : Addr} {xs : List S} (h : Ω a = some (.lst xs)) : asL Ω (.adr a) = some xs := by
  show cellL (Ω a) = some xs
  rw [h] <;> rfl
theorem rep_L {ss : List S} (o : Ok K Z Ω H) (r : Rep K (mu Z Ω) H v s) (e : asL Ω s = some ss) : ∃ a xs, v = .ref a ∧ SqL K H a xs ∧ RepL K (mu Z Ω) H xs ss := by
  cases r with
  | lst h0 h r => cases e; exact ⟨_, _, rfl, .inl (.inl h), r⟩
  | sc h0 h r => cases e; exact ⟨_, _, rfl, .inl h, r⟩
  | wl h r => cases e; exact ⟨_, _, rfl, h H, r⟩
  | adr a =>
    have e : cellL (Ω a) = some ss := e
    cases h : Ω a with
    | none => rw [h] at e; cases e
    | some c =>
      rw [h] at e
      cases c with
      | lst xs =>
        cases e
        obtain ⟨ys, h1, h2⟩ := o.cells a _ h
        exact ⟨_, _, rfl, .inl (.inl h1), h2⟩
      | _ => cases e
  | _ => cases e
theorem rep_T {ss : List S} (r : Rep K (mu Z Ω) H v s) (e : asT s = some ss) : ∃ a xs, v = .ref a ∧ SqT K H a xs ∧ RepL K (mu Z Ω) H xs ss := by
  cases r with
  | tup h0 h r => cases e; exact ⟨_, _, rfl, .inl (.inl h), r⟩
  | wt h r => cases e; exact ⟨_, _, rfl, h H, r⟩
  | _ => cases e
def asQ (Ω : Om) (s : S) : Option (List S) := match asT s with
  | some xs => some xs
  | none => asL Ω s
theorem rep_Q {ss : List S} (o : Ok K Z Ω H) (r : Rep K (mu Z Ω) H v s) (e : asQ Ω s = some ss) : ∃ a xs, v = .ref a ∧ (SqL K H a xs ∨ SqT K H a xs) ∧ RepL K (mu Z Ω) H xs ss := by
  cases h : asT s with
  | some ys =>
    have e : some ys = some ss := by rw [← e]; unfold asQ; rw [h]
    obtain ⟨a, xs, e1, e2, e3⟩ := rep_T r h
    cases e
    exact ⟨a, xs, e1, .inr e2, e3⟩
  | none =>
    have e : asL Ω s = some ss := by rw [← e]; unfold asQ; rw [h]
    obtain ⟨a, xs, e1, e2, e3⟩ := rep_L o r e
    exact ⟨a, xs, e1, .inl e2, e3⟩
/-- lists that are tracked as such -/
def asM (Ω : Om) : S → Option (List S) := asL Ω
theorem rep_int {i : Int} (r : Rep K (mu Z Ω) H v (.int i)) : v = .int i := by cases r; rfl
theorem rep_bl {i : Bool} (r : Rep K (mu Z Ω) H v (.bl i)) : v = .bl i := by cases r; rfl
theorem rep_str {i : Str} (r : Rep K (mu Z Ω) H v (.str i)) : v = .str i := by cases r; rfl
theorem rep_ty {i : String} (r : Rep K (mu Z Ω) H v (.ty i)) : v = .ty i := by cases r; rfl
theorem rep_non (r : Rep K (mu Z Ω) H v .non) : v = .non := by cases r; rfl
theorem repL_map {α : Type} {f : α → S} {g : α → V} (h : ∀ x v, Rep K (mu Z Ω) H v (f x) → v = g x) : ∀ {l : List α} {vs : List V}, RepL K (mu Z Ω) H vs (l.map f) → vs = l.map g
  | [], _, .nil => rfl
  | x :: l, _, .cons r q => by rw [h x _ r, repL_map h (l := l) q]; rfl
theorem repL_ints {l : List Int} {vs : List V} (r : RepL K (mu Z Ω) H vs (l.map S.int)) : vs = l.map V.int := repL_map (fun _ _ q => rep_int q) r
theorem repL_bls {l : List Bool} {vs : List V} (r : RepL K (mu Z Ω) H vs (l.map S.bl)) : vs = l.map V.bl := repL_map (fun _ _ q => rep_bl q) r
theorem repL_strs {l : List Str} {vs : List V} (r : RepL K (mu Z Ω) H vs (l.map S.str)) : vs = l.map V.str := repL_map (fun _ _ q => rep_str q) r
end

/-! ### data as a whole -/
mutual
def toD : S → PyData
  | .non => .none
  | .bl b => .bool b
  | .int i => .int i
  | .str x => .str x
  | .lst xs => .list (toDs xs)
  | .wls xs => .list (toDs xs)
  | .tup xs => .tuple (toDs xs)
  | _ => .none
def toDs : List S → List PyData
  | [] => []
  | x :: xs => toD x :: toDs xs
end
mutual
/-- nothing but data -/
def flat : S → Bool
  | .non | .bl _ | .int _ | .str _ => true
  | .lst xs | .wls xs | .tup xs => flats xs
  | _ => false
def flats : List S → Bool
  | [] => true
  | x :: xs => flat x && flats xs
end
section
variable {K : PySem.W.Frag} {N : Addr → Prop} {H : Hp}
mutual
theorem rep_D : ∀ {v : V} {s : S}, Rep K N H v s → flat s = true → Dp K H v (toD s)
  | _, _, .non, _ => .non
  | _, _, .bl b, _ => .bl b
  | _, _, .int i, _ => .int i
  | _, _, .str x, _ => .str x
  | _, _, .ty _, h => by cases h
  | _, _, .adr _, h => by cases h
  | _, _, .lst _ h r, f => .lst (.inl (.inl h)) (rep_Ds r f)
  | _, _, .sc _ h r, f => .lst (.inl h) (rep_Ds r f)
  | _, _, .tup _ h r, f => .tup (.inl (.inl h)) (rep_Ds r f)
  | _, _, .wl h r, f => .lst (h H) (rep_Ds r f)
  | _, _, .wt h r, f => .tup (h H) (rep_Ds r f)
  | _, _, .dic _ _ _ _, h => by cases h
theorem rep_Ds : ∀ {v : List V} {s : List S}, RepL K N H v s → flats s = true → DpAll K H v (toDs s)
  | _, _, .nil, _ => .nil
  | _, _, .cons h r, f => .cons (rep_D h (Bool.and_eq_true_iff.mp f).1) (rep_Ds r (Bool.and_eq_true_iff.mp f).2)
end
end
/-- a thing that == may read -/
def eqOk (s : S) : Prop := flat s = true ∧ SeqAt.shaped (toD s) = true

/-! ### names and constants -/
def wVar (i : Nat) : WE := fun Γ Ω P => ∃ s, gt Γ i = some s ∧ P s Ω
def wC (s : S) : WE := fun _ Ω P => P s Ω
section
variable {X : Cx}
theorem ov (i : Nat) {x : Str} {pos : Pos} (hN : X.N[i]? = some x := by rfl) (hv : Vis X.env.scope x := by first | exact Or.inl rfl | exact Or.inr (Or.inl rfl) | exact Or.inr (Or.inr rfl)) (hd : (x == ("__debug__" : Str)) = false := by decide)
    (hcd : (x == ("__classdict__" : Str)) = false := by decide) : OE X (.Name x pos) (tVar i) (wVar i) :=
  ⟨pe_var hN hv hd hcd, fun Z σ H Γ Ω P Q o e ⟨s, h1, p⟩ k => by
    obtain ⟨v, h2, r⟩ := e.at_ i s h1
    exact ⟨v, h2, k.now o r p⟩⟩
theorem se_c {K : PySem.W.Frag} {v : V} {s : S} (h : ∀ N H, Rep K N H v s) : SE K (tC v) (wC s) := fun Z σ H Γ Ω P Q o e p k => k.now o (h _ _) p
theorem oe_int {i j pos} : OE X (.Constant (.int i) j pos) (tC (.int i)) (wC (.int i)) := ⟨pe_int, se_c fun _ _ => .int i⟩
theorem oe_bl {b j pos} : OE X (.Constant (.bool b) j pos) (tC (.bl b)) (wC (.bl b)) := ⟨pe_bl, se_c fun _ _ => .bl b⟩
theorem oe_non {j pos} : OE X (.Constant .none j pos) (tC .non) (wC .non) := ⟨pe_non, se_c fun _ _ => .non⟩
theorem oe_str {x j pos} : OE X (.Constant (.str x) j pos) (tC (.str x)) (wC (.str x)) := ⟨pe_str, se_c fun _ _ => .str x⟩
theorem oe_ty {x : Str} {n : String} {pos : Pos} (hg : Gl X x) (hm : X.mg x = none) (hv : bootBuiltins x = some (.type n)) (hn : x ≠ "__name__" := by decide) (hd : (x == ("__debug__" : Str)) = false := by decide) :
    OE X (.Name x pos) (tC (.ty n)) (wC (.ty n)) := ⟨pe_bltn hg hm hv rfl hn hd, se_c fun _ _ => .ty n⟩
/-- a module's constant -/
theorem oe_glob {x : Str} {v : V} {u : Value} {s : S} {pos : Pos} (hg : Gl X x) (hm : X.mg x = some u) (r : RelV v u) (q : ∀ N H, Rep X.K N H v s) (hd : (x == ("__debug__" : Str)) = false := by decide) : OE X (.Name x pos) (tC v) (wC s) :=
  ⟨pe_glob hg hm r hd, se_c q⟩

/-! ### operators -/
def wOp (o : W2) (wa wb : WE) : WE := fun Γ Ω P => wa Γ Ω fun s Ω1 => wb Γ Ω1 fun s2 Ω2 => o s s2 Ω2 P
def wUn (o : W1) (wa : WE) : WE := fun Γ Ω P => wa Γ Ω fun s Ω1 => o s Ω1 P
theorem se_op {K : PySem.W.Frag} {r : R2} {o : W2} {ta tb : TE} {wa wb : WE} (hr : S2 K r o) (ha : SE K ta wa) (hb : SE K tb wb) : SE K (tOp r ta tb) (wOp o wa wb) := by
  intro Z σ H Γ Ω P Q ok e w k
  refine ha Z σ H Γ Ω _ _ ok e w fun x a Ω1 H1 o1 f1 r1 w1 => ?_
  refine hb Z σ H1 Γ Ω1 _ _ o1 (e.frm f1 ok) w1 fun y b Ω2 H2 o2 f2 r2 w2 => ?_
  exact hr Z H2 Ω2 x y a b P Q o2 (f2.rep o1 r1) r2 w2 (k.frm (f1.trans f2))
theorem oe_op {op : Operator} {r : R2} {o : W2} {a b : Expr} {ta tb : TE} {wa wb : WE} {pos : Pos} (ho : OO X (binaryOp op) r o) (ha : OE X a ta wa) (hb : OE X b tb wb) : OE X (.BinOp a op b pos) (tOp r ta tb) (wOp o wa wb) :=
  ⟨pe_op ho.pe ha.pe hb.pe, se_op ho.se ha.se hb.se⟩
theorem oe_cmp {op : CmpOp} {r : R2} {o : W2} {a b : Expr} {ta tb : TE} {wa wb : WE} {pos : Pos} (ho : OO X (compareOp op) r o) (ha : OE X a ta wa) (hb : OE X b tb wb) (hm : behindInMarks op b = false) : OE X (.Compare a [op] [b] pos) (tOp r ta tb) (wOp o wa wb) :=
  ⟨pe_cmpR ho.pe ha.pe hb.pe hm, se_op ho.se ha.se hb.se⟩
def wTest (we : WE) : WT := fun Γ Ω P => we Γ Ω fun s Ω1 => ∃ b, s = .bl b ∧ P b Ω1
theorem st_test {K : PySem.W.Frag} {t : TE} {w : WE} (h : SE K t w) : ST K (tTest t) (wTest w) := fun Z σ H Γ Ω P Q ok e ww k =>
  h Z σ H Γ Ω _ _ ok e ww fun x a Ω1 H1 o1 f1 r1 ⟨b, eb, p⟩ => by
    subst eb
    exact ⟨b, rep_bl r1, k b Ω1 H1 o1 f1 p⟩
theorem ot_cmp {op : CmpOp} {r : R2} {o : W2} {a b : Expr} {ta tb : TE} {wa wb : WE} {pos : Pos} (ho : OO X (compareOp op) r o) (ha : OE X a ta wa) (hb : OE X b tb wb) (hm : behindInMarks op b = false) : OT X (.Compare a [op] [b] pos) (tTest (tOp r ta tb)) (wTest (wOp o wa wb)) :=
  ⟨pt_cmpR ho.pe ha.pe hb.pe hm, st_test (se_op ho.se ha.se hb.se)⟩
theorem se_neg {i : Int} {pos p2 : Pos} {j} : OE X (.UnaryOp .USub (.Constant (.int i) j p2) pos) (tUn (rU fun i => .int (-i)) (tC (.int i))) (wC (.int (-i))) :=
  ⟨pe_un un_neg pe_int, fun Z σ H Γ Ω P Q o e p k => ⟨i, rfl, k.now o (.int _) p⟩⟩
/-- ints in, under C -/
def oI (C : Int → Int → Prop) (g : Int → Int → S) : W2 := fun a b Ω P => ∃ i j, a = .int i ∧ b = .int j ∧ C i j ∧ P (g i j) Ω
theorem s2_I {K : PySem.W.Frag} {C : Int → Int → Prop} {g : Int → Int → V} {g' : Int → Int → S} (h : ∀ i j N H, Rep K N H (g i j) (g' i j)) : S2 K (rI C g) (oI C g') := fun Z H Ω x y a b P Q ok rx ry ⟨i, j, ea, eb, c, p⟩ k => by
  subst ea; subst eb
  exact ⟨i, j, rep_int rx, rep_int ry, c, k.now ok (h _ _ _ _) p⟩
theorem s2_I0 {K : PySem.W.Frag} {g : Int → Int → V} {g' : Int → Int → S} (h : ∀ i j N H, Rep K N H (g i j) (g' i j)) : S2 K (rI0 g) (oI (fun _ _ => True) g') := fun Z H Ω x y a b P Q ok rx ry ⟨i, j, ea, eb, c, p⟩ k => by
  subst ea; subst eb
  exact ⟨i, j, rep_int rx, rep_int ry, k.now ok (h _ _ _ _) p⟩
theorem S2.or {K : PySem.W.Frag} {r r' : R2} {o o' : W2} (h : S2 K r o) (h' : S2 K r' o') : S2 K (fun x y H Q => r x y H Q ∨ r' x y H Q) (fun a b Ω P => o a b Ω P ∨ o' a b Ω P) := fun Z H Ω x y a b P Q ok rx ry w k => by
  rcases w with w | w
  · exact .inl (h Z H Ω x y a b P Q ok rx ry w k)
  · exact .inr (h' Z H Ω x y a b P Q ok rx ry w k)
theorem OO.or {f : Value → Value → Sem Value} {r r' : R2} {o o' : W2} (h : OO X f r o) (h' : OO X f r' o') : OO X f (fun x y H Q => r x y H Q ∨ r' x y H Q) (fun a b Ω P => o a b Ω P ∨ o' a b Ω P) := ⟨h.pe.or h'.pe, h.se.or h'.se⟩
theorem OO.imp {f : Value → Value → Sem Value} {r : R2} {o o' : W2} (h : OO X f r o) (i : ∀ a b Ω P, o' a b Ω P → o a b Ω P) : OO X f r o' := ⟨h.pe, fun Z H Ω x y a b P Q ok rx ry w k => h.se Z H Ω x y a b P Q ok rx ry (i _ _ _ _ w) k⟩

def oAddS : W2 := fun a b Ω P => ∃ x y, a = .str x ∧ b = .str y ∧ x.length + y.length ≤ sizeLine ∧ P (.str (x ++ y)) Ω
def oCat : W2 := fun a b Ω P => ∃ xs ys, asL Ω a = some xs ∧ asL Ω b = some ys ∧ xs.length + ys.length ≤ sizeLine ∧ P (.lst (xs ++ ys)) Ω
def oCatT : W2 := fun a b Ω P => ∃ xs ys, a = .tup xs ∧ b = .tup ys ∧ xs.length + ys.length ≤ sizeLine ∧ P (.tup (xs ++ ys)) Ω
def oAddB : W2 := fun a b Ω P => ∃ i k, a = .int i ∧ b = .bl k ∧ P (.int (i + b2i k)) Ω
theorem oo_addI : OO X (binaryOp .Add) (rI0 fun i j => .int (i + j)) (oI (fun _ _ => True) fun i j => .int (i + j)) := ⟨op_add, s2_I0 fun _ _ _ _ => .int _⟩
theorem oo_sub : OO X (binaryOp .Sub) (rI0 fun i j => .int (i - j)) (oI (fun _ _ => True) fun i j => .int (i - j)) := ⟨op_sub, s2_I0 fun _ _ _ _ => .int _⟩
theorem oo_mulI : OO X (binaryOp .Mult) (rI CMul fun i j => .int (i * j)) (oI CMul fun i j => .int (i * j)) := ⟨op_mul, s2_I fun _ _ _ _ => .int _⟩
theorem oo_fdiv : OO X (binaryOp .FloorDiv) (rI CDiv fun i j => .int (i / j)) (oI CDiv fun i j => .int (i / j)) := ⟨op_fdiv, s2_I fun _ _ _ _ => .int _⟩
theorem oo_mod : OO X (binaryOp .Mod) (rI (fun _ j => 0 < j) fun i j => .int (i % j)) (oI (fun _ j => 0 < j) fun i j => .int (i % j)) := ⟨op_mod, s2_I fun _ _ _ _ => .int _⟩
theorem oo_pow : OO X (binaryOp .Pow) (rI CPow fun i j => .int (i ^ j.toNat)) (oI CPow fun i j => .int (i ^ j.toNat)) := ⟨op_pow, s2_I fun _ _ _ _ => .int _⟩
theorem oo_addS : OO X (binaryOp .Add) (fun x y H Q => ∃ i j, x = .str i ∧ y = .str j ∧ i.length + j.length ≤ sizeLine ∧ Q (.str (i ++ j)) H) oAddS := ⟨op_add_str, fun Z H Ω x y a b P Q ok rx ry ⟨i, j, ea, eb, c, p⟩ k => by
  subst ea; subst eb
  exact ⟨i, j, rep_str rx, rep_str ry, c, k.now ok (.str _) p⟩⟩
theorem oo_addB : OO X (binaryOp .Add) (fun x y H Q => ∃ i k, x = .int i ∧ y = .bl k ∧ Q (.int (i + b2i k)) H) oAddB := ⟨op_add_ib, fun Z H Ω x y a b P Q ok rx ry ⟨i, j, ea, eb, p⟩ k => by
  subst ea; subst eb
  exact ⟨i, j, rep_int rx, rep_bl ry, k.now ok (.int _) p⟩⟩
theorem oo_catT {K : PySem.W.Frag} (hK : X.K = K := by rfl) : OO X (binaryOp .Add) (rCatA K) oCatT := by
  subst hK
  exact ⟨op_catA, fun Z H Ω x y a b P Q ok rx ry ⟨i, j, ea, eb, c, p⟩ k => by
  subst ea; subst eb
  obtain ⟨a, xs, rfl, h1, r1⟩ := rep_T rx rfl
  obtain ⟨b, ys, rfl, h2, r2⟩ := rep_T ry rfl
  refine ⟨a, b, xs, ys, rfl, rfl, h1, h2, by rw [r1.length, r2.length]; exact c, fun e => ?_, fun _ e => ?_, fun _ _ p hp => ?_⟩
  · subst e
    cases r1
    exact k.now ok ry p
  · subst e
    cases r2
    rw [List.append_nil] at p
    exact k.now ok rx p
  · exact k.tup ok hp (r1.append r2) (by assumption)⟩
/-- list + list, both tracked as lists -/
def trkL (Ω : Om) : S → Prop
  | .lst _ => True
  | .adr a => ∃ xs, Ω a = some (.lst xs)
  | _ => False
end
end Om
/-! Om: more operators, tests, items, slices, calls of built-ins. -/
namespace Om
open PySem L2
open PyProof.Rows (b2i)
section
variable {K : PySem.W.Frag} {Z : Addr → Prop} {Ω Ω1 : Om} {H H1 : Hp} {P : WP} {Q : VK} {v : V} {s : S}
/-- a new list: left as data, or a thing of the store -/
def nw (ss : List S) (Ω : Om) (P : WP) : Prop := P (.lst ss) Ω ∨ ∀ p, Ω p = none → P (.adr p) (put Ω p (.lst ss))
theorem Fin.nw {p : Addr} {xs : List V} {ss : List S} (k : Fin K Z Ω H P Q) (o : Ok K Z Ω H) (hp : H p = none) (r : RepL K (mu Z Ω) H xs ss) (q : nw ss Ω P) : Q (.ref p) (upd H p (.lst xs)) := by
  rcases q with q | q
  · exact k.lst o hp r q
  · exact k.cell o hp r (q p (o.freshO hp))
/-- lists that stand as such -/
def asK (Ω : Om) : S → Option (List S)
  | .lst xs => some xs
  | .adr a => cellL (Ω a)
  | _ => none
theorem cellL_some {c : Option Cell} {ss : List S} (h : cellL c = some ss) : c = some (.lst ss) := by
  cases c with
  | none => cases h
  | some c =>
    cases c with
    | lst xs => cases h; rfl
    | _ => cases h
theorem rep_K {ss : List S} (o : Ok K Z Ω H) (r : Rep K (mu Z Ω) H v s) (e : asK Ω s = some ss) : ∃ a xs, v = .ref a ∧ H a = some (.lst xs) ∧ RepL K (mu Z Ω) H xs ss := by
  cases r with
  | lst h0 h r => cases e; exact ⟨_, _, rfl, h, r⟩
  | adr a =>
    have e : cellL (Ω a) = some ss := e
    obtain ⟨ys, h1, h2⟩ := o.cells a _ (cellL_some e)
    exact ⟨_, _, rfl, h1, h2⟩
  | _ => cases e
end
section
variable {X : Cx}
def oCatL : W2 := fun a b Ω P => ∃ xs ys, asK Ω a = some xs ∧ asK Ω b = some ys ∧ xs.length + ys.length ≤ sizeLine ∧ nw (xs ++ ys) Ω P
theorem oo_cat : OO X (binaryOp .Add) rCat oCatL := ⟨op_cat, fun Z H Ω x y a b P Q ok rx ry ⟨i, j, ea, eb, c, p⟩ k => by
  obtain ⟨l, xs, rfl, h1, r1⟩ := rep_K ok rx ea
  obtain ⟨m, ys, rfl, h2, r2⟩ := rep_K ok ry eb
  exact ⟨l, m, xs, ys, rfl, rfl, h1, h2, by rw [r1.length, r2.length]; exact c, fun p hp => k.nw ok hp (r1.append r2) (by assumption)⟩⟩
def oRepL : W2 := fun a b Ω P => ∃ xs i, asK Ω a = some xs ∧ b = .int i ∧ -(2 ^ 63) ≤ i ∧ i < 2 ^ 63 ∧ xs.length * i.toNat ≤ sizeLine ∧ nw (List.replicate i.toNat xs).flatten Ω P
theorem repL_rep {K : PySem.W.Frag} {N : Addr → Prop} {H : Hp} {vs : List V} {ss : List S} (r : RepL K N H vs ss) : ∀ n : Nat, RepL K N H (List.replicate n vs).flatten (List.replicate n ss).flatten
  | 0 => .nil
  | n + 1 => by
    rw [List.replicate_succ, List.replicate_succ, List.flatten_cons, List.flatten_cons]
    exact r.append (repL_rep r n)
theorem oo_rep : OO X (binaryOp .Mult) rRep oRepL := ⟨op_rep, fun Z H Ω x y a b P Q ok rx ry ⟨i, j, ea, eb, c1, c2, c3, p⟩ k => by
  subst eb
  obtain ⟨l, xs, rfl, h1, r1⟩ := rep_K ok rx ea
  exact ⟨l, j, xs, rfl, rep_int ry, h1, c1, c2, by rw [r1.length]; exact c3, fun p hp => k.nw ok hp (repL_rep r1 _) (by assumption)⟩⟩

/-! ### comparisons -/
def oB (g : Int → Int → Bool) : W2 := oI (fun _ _ => True) fun i j => .bl (g i j)
theorem oo_lt : OO X (compareOp .Lt) (rI0 fun i j => .bl (decide (i < j))) (oB fun i j => decide (i < j)) := ⟨op_lt, s2_I0 fun _ _ _ _ => .bl _⟩
theorem oo_le : OO X (compareOp .LtE) (rI0 fun i j => .bl (decide (i ≤ j))) (oB fun i j => decide (i ≤ j)) := ⟨op_le, s2_I0 fun _ _ _ _ => .bl _⟩
theorem oo_gt : OO X (compareOp .Gt) (rI0 fun i j => .bl (decide (j < i))) (oB fun i j => decide (j < i)) := ⟨op_gt, s2_I0 fun _ _ _ _ => .bl _⟩
theorem oo_ge : OO X (compareOp .GtE) (rI0 fun i j => .bl (decide (j ≤ i))) (oB fun i j => decide (j ≤ i)) := ⟨op_ge, s2_I0 fun _ _ _ _ => .bl _⟩
def oLtS : W2 := fun a b Ω P => ∃ x y, a = .str x ∧ b = .str y ∧ P (.bl (decide (x.cps.toList < y.cps.toList))) Ω
theorem oo_ltS : OO X (compareOp .Lt) (fun x y H Q => ∃ i j, x = .str i ∧ y = .str j ∧ Q (.bl (decide (i.cps.toList < j.cps.toList))) H) oLtS := ⟨op_lt_str, fun Z H Ω x y a b P Q ok rx ry ⟨i, j, ea, eb, p⟩ k => by
  subst ea; subst eb
  exact ⟨i, j, rep_str rx, rep_str ry, k.now ok (.bl _) p⟩⟩
/-- two scalars that == tells apart as data does -/
inductive Sca : S → S → Bool → Prop
  | nn : Sca .non .non true
  | ii (i j : Int) : Sca (.int i) (.int j) (decide (i = j))
  | bb (i j : Bool) : Sca (.bl i) (.bl j) (decide (i = j))
  | ss (i j : Str) : Sca (.str i) (.str j) (decide (i = j))
  | ns (j : Str) : Sca .non (.str j) false
  | sn (j : Str) : Sca (.str j) .non false
  | ni (j : Int) : Sca .non (.int j) false
  | in_ (j : Int) : Sca (.int j) .non false
  | nb (j : Bool) : Sca .non (.bl j) false
  | bn (j : Bool) : Sca (.bl j) .non false
  | is (i : Int) (j : Str) : Sca (.int i) (.str j) false
  | si (i : Int) (j : Str) : Sca (.str j) (.int i) false
theorem sca_of {K : PySem.W.Frag} {N : Addr → Prop} {H : Hp} {x y : V} {a b : S} {c : Bool} (h : Sca a b c) (rx : Rep K N H x a) (ry : Rep K N H y b) : scal x y = true ∧ decide (x = y) = c := by
  cases h with
  | nn => cases rx; cases ry; exact ⟨rfl, by simp⟩
  | ii => cases rx; cases ry; exact ⟨rfl, by simp⟩
  | bb => cases rx; cases ry; exact ⟨rfl, by simp⟩
  | ss => cases rx; cases ry; exact ⟨rfl, by simp⟩
  | ns => cases rx; cases ry; exact ⟨rfl, by simp⟩
  | sn => cases rx; cases ry; exact ⟨rfl, by simp⟩
  | ni => cases rx; cases ry; exact ⟨rfl, by simp⟩
  | in_ => cases rx; cases ry; exact ⟨rfl, by simp⟩
  | nb => cases rx; cases ry; exact ⟨rfl, by simp⟩
  | bn => cases rx; cases ry; exact ⟨rfl, by simp⟩
  | is => cases rx; cases ry; exact ⟨rfl, by simp⟩
  | si => cases rx; cases ry; exact ⟨rfl, by simp⟩
/-- == : of scalars; of data as a whole -/
def oEq : W2 := fun a b Ω P => (∃ c, Sca a b c ∧ P (.bl c) Ω) ∨ (eqOk a ∧ eqOk b ∧ P (.bl (PyData.eqv (toD a) (toD b))) Ω)
def oNe : W2 := fun a b Ω P => (∃ c, Sca a b c ∧ P (.bl (!c)) Ω) ∨ (eqOk a ∧ eqOk b ∧ P (.bl (!PyData.eqv (toD a) (toD b))) Ω)
theorem oo_eq {K : PySem.W.Frag} (hu : X.A.units + 64 < cLine) (hK : X.K = K := by rfl) : OO X (compareOp .Eq) (fun x y H Q => rEq x y H Q ∨ rEqD K x y H Q) oEq := by
  subst hK
  exact ⟨op_eq.or (op_eqD hu), fun Z H Ω x y a b P Q ok rx ry w k => by
  rcases w with ⟨c, h, p⟩ | ⟨h1, h2, p⟩
  · obtain ⟨e1, e2⟩ := sca_of h rx ry
    exact .inl ⟨e1, by rw [e2]; exact k.now ok (.bl _) p⟩
  · exact .inr ⟨_, _, rep_D rx h1.1, rep_D ry h2.1, h1.2, h2.2, k.now ok (.bl _) p⟩⟩
theorem oo_ne {K : PySem.W.Frag} (hu : X.A.units + 64 < cLine) (hK : X.K = K := by rfl) : OO X (compareOp .NotEq) (fun x y H Q => rNe x y H Q ∨ rNeD K x y H Q) oNe := by
  subst hK
  exact ⟨op_ne.or (op_neD hu), fun Z H Ω x y a b P Q ok rx ry w k => by
  rcases w with ⟨c, h, p⟩ | ⟨h1, h2, p⟩
  · obtain ⟨e1, e2⟩ := sca_of h rx ry
    exact .inl ⟨e1, by rw [e2]; exact k.now ok (.bl _) p⟩
  · exact .inr ⟨_, _, rep_D rx h1.1, rep_D ry h2.1, h1.2, h2.2, k.now ok (.bl _) p⟩⟩
/-- is None -/
def isN : S → Option Bool
  | .non => some true
  | .bl _ | .int _ | .str _ | .lst _ | .tup _ | .adr _ | .wls _ | .dic _ => some false
  | .ty _ => some false
def oIs : W2 := fun a b Ω P => b = .non ∧ ∃ c, isN a = some c ∧ P (.bl c) Ω
def oIsN : W2 := fun a b Ω P => b = .non ∧ ∃ c, isN a = some c ∧ P (.bl (!c)) Ω
theorem isN_of {K : PySem.W.Frag} {N : Addr → Prop} {H : Hp} {x : V} {a : S} {c : Bool} (h : isN a = some c) (r : Rep K N H x a) : decide (x = V.non) = c := by
  cases r <;> cases h <;> simp
theorem oo_is : OO X (compareOp .Is) (fun x y H Q => y = .non ∧ Q (.bl (decide (x = .non))) H) oIs := ⟨op_isN, fun Z H Ω x y a b P Q ok rx ry ⟨eb, c, h, p⟩ k => by
  subst eb
  exact ⟨rep_non ry, by rw [isN_of h rx]; exact k.now ok (.bl _) p⟩⟩
theorem oo_isN : OO X (compareOp .IsNot) (fun x y H Q => y = .non ∧ Q (.bl (!decide (x = .non))) H) oIsN := ⟨op_notN, fun Z H Ω x y a b P Q ok rx ry ⟨eb, c, h, p⟩ k => by
  subst eb
  exact ⟨rep_non ry, by rw [isN_of h rx]; exact k.now ok (.bl _) p⟩⟩
/-- in a list or tuple of scalars -/
def toV : S → V
  | .non => .non
  | .bl b => .bl b
  | .int i => .int i
  | .str x => .str x
  | .ty n => .ty n
  | _ => .flt 0
def scaS : S → Bool
  | .non | .bl _ | .int _ | .str _ => true
  | _ => false
theorem toV_of {K : PySem.W.Frag} {N : Addr → Prop} {H : Hp} {x : V} {a : S} (h : scaS a = true) (r : Rep K N H x a) : x = toV a ∧ flatV x = true := by
  cases r <;> first | exact ⟨rfl, rfl⟩ | cases h
theorem toV_all {K : PySem.W.Frag} {N : Addr → Prop} {H : Hp} : ∀ {xs : List V} {ss : List S}, ss.all scaS = true → RepL K N H xs ss → xs = ss.map toV ∧ xs.all flatV = true
  | _, _, _, .nil => ⟨rfl, rfl⟩
  | _, _, h, .cons r q => by
    rw [List.all_cons, Bool.and_eq_true] at h
    obtain ⟨e1, e2⟩ := toV_of h.1 r
    obtain ⟨e3, e4⟩ := toV_all h.2 q
    exact ⟨by rw [e1, e3]; rfl, by rw [List.all_cons, e2, e4]; rfl⟩
def oIn (neg : Bool) : W2 := fun a b Ω P => ∃ ss, asQ Ω b = some ss ∧ scaS a = true ∧ ss.all scaS = true ∧ P (.bl (if neg then !inV (toV a) (ss.map toV) else inV (toV a) (ss.map toV))) Ω
theorem s2_in {K : PySem.W.Frag} {neg : Bool} : S2 K (rIn K neg) (oIn neg) := fun Z H Ω x y a b P Q ok rx ry ⟨ss, e, h1, h2, p⟩ k => by
  obtain ⟨l, xs, rfl, hq, r⟩ := rep_Q ok ry e
  obtain ⟨e1, e2⟩ := toV_of h1 rx
  obtain ⟨e3, e4⟩ := toV_all h2 r
  exact ⟨l, xs, rfl, hq, e2, e4, by rw [e1, e3]; exact k.now ok (.bl _) p⟩
theorem oo_in {K : PySem.W.Frag} (hK : X.K = K := by rfl) : OO X (compareOp .In) (rIn K false) (oIn false) := by
  subst hK
  exact ⟨op_in_seq, s2_in⟩
theorem oo_notIn {K : PySem.W.Frag} (hK : X.K = K := by rfl) : OO X (compareOp .NotIn) (rIn K true) (oIn true) := by
  subst hK
  exact ⟨op_notIn_seq, s2_in⟩

/-! ### and, or, not, if else -/
def wAndV (wa wb : WE) : WE := fun Γ Ω P => wa Γ Ω fun s Ω1 => ∃ c, s = .bl c ∧ if c = true then wb Γ Ω1 P else P (.bl false) Ω1
def wOrV (wa wb : WE) : WE := fun Γ Ω P => wa Γ Ω fun s Ω1 => ∃ c, s = .bl c ∧ if c = true then P (.bl true) Ω1 else wb Γ Ω1 P
def wNotV (wa : WE) : WE := fun Γ Ω P => wa Γ Ω fun s Ω1 => ∃ c, s = .bl c ∧ P (.bl (!c)) Ω1
def wAnd (wa wb : WT) : WT := fun Γ Ω P => wa Γ Ω fun c Ω1 => if c = true then wb Γ Ω1 P else P false Ω1
def wOr (wa wb : WT) : WT := fun Γ Ω P => wa Γ Ω fun c Ω1 => if c = true then P true Ω1 else wb Γ Ω1 P
def wNot (wa : WT) : WT := fun Γ Ω P => wa Γ Ω fun c Ω1 => P (!c) Ω1
def wIf (wt : WT) (wa wb : WE) : WE := fun Γ Ω P => wt Γ Ω fun c Ω1 => if c = true then wa Γ Ω1 P else wb Γ Ω1 P
variable {a b c e : Expr} {rest : List Expr} {ta tb tc : TE} {wa wb wc : WE} {tt tu : TT} {wt wu : WT} {pos : Pos}
theorem oe_one {op} (h : OE X a ta wa) : OE X (.BoolOp op [a] pos) ta wa := ⟨pe_one h.pe, h.se⟩
theorem oe_and (ha : OE X a ta wa) (hb : OE X (.BoolOp .And (b :: rest) pos) tb wb) : OE X (.BoolOp .And (a :: b :: rest) pos) (tAndV ta tb) (wAndV wa wb) :=
  ⟨pe_and ha.pe hb.pe, fun Z σ H Γ Ω P Q ok e w k => ha.se Z σ H Γ Ω _ _ ok e w fun x s Ω1 H1 o1 f1 r1 ⟨c, ec, w1⟩ => by
    subst ec
    refine ⟨c, rep_bl r1, ?_⟩
    cases c with
    | true => exact hb.se Z σ H1 Γ Ω1 _ _ o1 (e.frm f1 ok) w1 (k.frm f1)
    | false => exact (k.frm f1).now o1 (.bl _) w1⟩
theorem oe_or (ha : OE X a ta wa) (hb : OE X (.BoolOp .Or (b :: rest) pos) tb wb) : OE X (.BoolOp .Or (a :: b :: rest) pos) (tOrV ta tb) (wOrV wa wb) :=
  ⟨pe_or ha.pe hb.pe, fun Z σ H Γ Ω P Q ok e w k => ha.se Z σ H Γ Ω _ _ ok e w fun x s Ω1 H1 o1 f1 r1 ⟨c, ec, w1⟩ => by
    subst ec
    refine ⟨c, rep_bl r1, ?_⟩
    cases c with
    | false => exact hb.se Z σ H1 Γ Ω1 _ _ o1 (e.frm f1 ok) w1 (k.frm f1)
    | true => exact (k.frm f1).now o1 (.bl _) w1⟩
theorem oe_not (ha : OE X a ta wa) : OE X (.UnaryOp .Not a pos) (tNotV ta) (wNotV wa) :=
  ⟨pe_not ha.pe, fun Z σ H Γ Ω P Q ok e w k => ha.se Z σ H Γ Ω _ _ ok e w fun x s Ω1 H1 o1 f1 r1 ⟨c, ec, w1⟩ => by
    subst ec
    exact ⟨c, rep_bl r1, (k.frm f1).now o1 (.bl _) w1⟩⟩
def wB (we : WE) : WT := wTest we
theorem ot_val {t : TE} {w : WE} (h : OE X e t w) (he : ∀ whole, isTrue e X.env whole = (do let v ← whole; standAt e.pos; holding [v] (truthy v)) := by intro _; rfl) : OT X e (tB t) (wTest w) :=
  ⟨pt_val h.pe he, st_test h.se⟩
theorem ot_not (h : OT X a tt wt) : OT X (.UnaryOp .Not a pos) (tNot tt) (wNot wt) :=
  ⟨pt_not h.pe, fun Z σ H Γ Ω P Q ok e w k => h.se Z σ H Γ Ω _ _ ok e w fun b Ω1 H1 o1 f1 p => k _ _ _ o1 f1 p⟩
structure OW (X : Cx) (e : Expr) (t : TT) (w : WT) : Prop where
  pe : PW X e t
  se : ST X.K t w
theorem OW.ot (h : OW X e tt wt) : OT X e tt wt := ⟨h.pe.pt, h.se⟩
theorem ow_and1 (h : OT X a tt wt) : OW X (.BoolOp .And [a] pos) tt wt := ⟨pw_and1 h.pe, h.se⟩
theorem ow_or1 (h : OT X a tt wt) : OW X (.BoolOp .Or [a] pos) tt wt := ⟨pw_or1 h.pe, h.se⟩
theorem st_ite {K : PySem.W.Frag} {Z : Addr → Prop} {σ : L2.St} {H : Hp} {Γ : Ga} {Ω : Om} {P : Bool → Om → Prop} {Q : Bool → Hp → Prop} (h : ST K tu wu) (o : Ok K Z Ω H) (e : Env K Z Ω H σ Γ) (w : wu Γ Ω P) (k : ∀ b Ω' H', Ok K Z Ω' H' → Frm Ω H Ω' H' → P b Ω' → Q b H') : tu σ H Q := h Z σ H Γ Ω P Q o e w k
theorem ow_and (ha : OT X a tt wt) (hb : OW X (.BoolOp .And (b :: rest) pos) tu wu) : OW X (.BoolOp .And (a :: b :: rest) pos) (tAnd tt tu) (wAnd wt wu) :=
  ⟨pw_and ha.pe hb.pe, fun Z σ H Γ Ω P Q ok e w k => ha.se Z σ H Γ Ω _ _ ok e w fun c Ω1 H1 o1 f1 w1 => by
    cases c with
    | true => exact st_ite hb.se o1 (e.frm f1 ok) w1 fun b Ω' H' o g p => k b Ω' H' o (f1.trans g) p
    | false => exact k false Ω1 H1 o1 f1 w1⟩
theorem ow_or (ha : OT X a tt wt) (hb : OW X (.BoolOp .Or (b :: rest) pos) tu wu) : OW X (.BoolOp .Or (a :: b :: rest) pos) (tOr tt tu) (wOr wt wu) :=
  ⟨pw_or ha.pe hb.pe, fun Z σ H Γ Ω P Q ok e w k => ha.se Z σ H Γ Ω _ _ ok e w fun c Ω1 H1 o1 f1 w1 => by
    cases c with
    | false => exact st_ite hb.se o1 (e.frm f1 ok) w1 fun b Ω' H' o g p => k b Ω' H' o (f1.trans g) p
    | true => exact k true Ω1 H1 o1 f1 w1⟩
theorem oe_if (hc : OT X c tt wt) (ha : OE X a ta wa) (hb : OE X b tb wb) : OE X (.IfExp c a b pos) (tIf tt ta tb) (wIf wt wa wb) :=
  ⟨pe_ifExp hc.pe ha.pe hb.pe, fun Z σ H Γ Ω P Q ok e w k => hc.se Z σ H Γ Ω _ _ ok e w fun c Ω1 H1 o1 f1 w1 => by
    cases c with
    | true => exact ha.se Z σ H1 Γ Ω1 _ _ o1 (e.frm f1 ok) w1 (k.frm f1)
    | false => exact hb.se Z σ H1 Γ Ω1 _ _ o1 (e.frm f1 ok) w1 (k.frm f1)⟩

/-! ### items and slices -/
def oIx : W2 := fun a b Ω P => (∃ xs i s, asQ Ω a = some xs ∧ b = .int i ∧ atI xs i = some s ∧ P s Ω) ∨ (∃ z i c, a = .str z ∧ b = .int i ∧ z.length ≤ sizeLine ∧ atI z.cps.toList i = some c ∧ P (.str ⟨#[c]⟩) Ω)
theorem atI_len {α β : Type} {xs : List α} {ys : List β} {i : Int} {y : β} (h : atI ys i = some y) (e : xs.length = ys.length) : ∃ j : Nat, ys[j]? = some y ∧ ∀ x, xs[j]? = some x → atI xs i = some x := by
  unfold atI at h
  cases q : ixN ys.length i with
  | none => rw [q] at h; cases h
  | some j =>
    rw [q] at h
    refine ⟨j, h, fun x hx => ?_⟩
    unfold atI
    rw [e, q]
    exact hx
theorem repL_at {K : PySem.W.Frag} {N : Addr → Prop} {H : Hp} {vs : List V} {ss : List S} {i : Int} {s : S} (r : RepL K N H vs ss) (h : atI ss i = some s) : ∃ v, atI vs i = some v ∧ Rep K N H v s := by
  obtain ⟨j, h1, h2⟩ := atI_len (xs := vs) h r.length
  obtain ⟨v, h3, h4⟩ := r.get h1
  exact ⟨v, h2 v h3, h4⟩
theorem s2_ix {K : PySem.W.Frag} : S2 K (rIx K) oIx := fun Z H Ω x y a b P Q ok rx ry w k => by
  rcases w with ⟨ss, i, s, e, eb, h, p⟩ | ⟨z, i, c, ea, eb, hz, h, p⟩
  · subst eb
    obtain ⟨l, xs, rfl, hq, r⟩ := rep_Q ok rx e
    obtain ⟨v, h1, h2⟩ := repL_at r h
    rcases hq with hq | hq
    · exact .inl ⟨l, xs, i, v, rfl, rep_int ry, hq, h1, k.now ok h2 p⟩
    · exact .inr (.inl ⟨l, xs, i, v, rfl, rep_int ry, hq, h1, k.now ok h2 p⟩)
  · subst ea; subst eb
    exact .inr (.inr ⟨z, i, c, rep_str rx, rep_int ry, hz, h, k.now ok (.str _) p⟩)
theorem oe_ix {K : PySem.W.Frag} (ha : OE X a ta wa) (hb : OE X b tb wb) (hs : PlainIx b) (hK : X.K = K := by rfl) : OE X (.Subscript a b pos) (tOp (rIx K) ta tb) (wOp oIx wa wb) := by
  subst hK
  exact ⟨pe_ix ix_seq ha.pe hb.pe hs, se_op s2_ix ha.se hb.se⟩
abbrev WO := Ga → Om → (Option Int → Om → Prop) → Prop
structure OP (X : Cx) (e : Option Expr) (t : TO) (w : WO) : Prop where
  pe : PO X e t
  se : ∀ Z σ H Γ Ω (P : Option Int → Om → Prop) (Q : Option Int → Hp → Prop), Ok X.K Z Ω H → Env X.K Z Ω H σ Γ → w Γ Ω P → (∀ b Ω' H', Ok X.K Z Ω' H' → Frm Ω H Ω' H' → P b Ω' → Q b H') → t σ H Q
def wNoP : WO := fun _ Ω P => P none Ω
def wPart (we : WE) : WO := fun Γ Ω P => we Γ Ω fun s Ω1 => ∃ i, s = .int i ∧ P (some i) Ω1
theorem op_none : OP X none tNoPart wNoP := ⟨po_none, fun Z σ H Γ Ω P Q ok e w k => k none Ω H ok .refl w⟩
theorem op_some (h : OE X e ta wa) : OP X (some e) (tPart ta) (wPart wa) := ⟨po_some h.pe, fun Z σ H Γ Ω P Q ok e w k => h.se Z σ H Γ Ω _ _ ok e w fun x s Ω1 H1 o1 f1 r1 ⟨i, es, w1⟩ => by
  subst es
  exact ⟨i, rep_int r1, k _ _ _ o1 f1 w1⟩⟩
def cutL {α : Type} (xs : List α) (lo hi : Option Int) : List α := (xs.drop (HT.sIx xs.length 0 lo)).take (HT.sIx xs.length xs.length hi - HT.sIx xs.length 0 lo)
theorem repL_cut {K : PySem.W.Frag} {N : Addr → Prop} {H : Hp} {vs : List V} {ss : List S} {lo hi : Option Int} (r : RepL K N H vs ss) : RepL K N H (cutV vs lo hi) (cutL ss lo hi) := by
  unfold cutV cutL
  rw [r.length]
  exact (r.drop _).take _
def oSl (a : S) (lo hi : Option Int) (Ω : Om) (P : WP) : Prop := (∃ xs, asL Ω a = some xs ∧ nw (cutL xs lo hi) Ω P) ∨ (∃ xs, a = .tup xs ∧ P (.tup (cutL xs lo hi)) Ω) ∨ (∃ z, a = .str z ∧ z.length ≤ sizeLine ∧ P (.str (cutS z lo hi)) Ω)
def wSl (wa : WE) (wl wh : WO) : WE := fun Γ Ω P => wa Γ Ω fun s Ω1 => wl Γ Ω1 fun lo Ω2 => wh Γ Ω2 fun hi Ω3 => oSl s lo hi Ω3 P
abbrev rSlU (K : PySem.W.Frag) : V → Option Int → Option Int → Hp → VK → Prop := fun x lo hi H Q => rSlL K x lo hi H Q ∨ (rSlA K x lo hi H Q ∨ rSlS x lo hi H Q)
theorem cut_all {xs : List V} {lo hi : Option Int} (h : HT.sIx xs.length 0 lo = 0 ∧ HT.sIx xs.length xs.length hi = xs.length) : cutV xs lo hi = xs := by
  unfold cutV
  rw [h.1, h.2, List.drop_zero, Nat.sub_zero, List.take_length]
theorem oe_sl {K : PySem.W.Frag} {lo hi : Option Expr} {tl th : TO} {wl wh : WO} {p2 : Pos} (ha : OE X a ta wa) (hl : OP X lo tl wl) (hh : OP X hi th wh) (hK : X.K = K := by rfl) : OE X (.Subscript a (.Slice lo hi none p2) pos) (tSl (rSlU K) ta tl th) (wSl wa wl wh) := by
  subst hK
  exact ⟨pe_slice (sl_list.or (sl_tupA.or sl_str)) ha.pe hl.pe hh.pe, fun Z σ H Γ Ω P Q ok e w k => ha.se Z σ H Γ Ω _ _ ok e w fun x s Ω1 H1 o1 f1 r1 w1 =>
    hl.se Z σ H1 Γ Ω1 _ _ o1 (e.frm f1 ok) w1 fun lo Ω2 H2 o2 f2 w2 => hh.se Z σ H2 Γ Ω2 _ _ o2 ((e.frm f1 ok).frm f2 o1) w2 fun hi Ω3 H3 o3 f3 w3 => by
      have rx := f3.rep o2 (f2.rep o1 r1)
      have k3 := k.frm (f1.trans (f2.trans f3))
      rcases w3 with ⟨xs, e1, w3⟩ | ⟨xs, e1, w3⟩ | ⟨z, e1, hz, w3⟩
      · obtain ⟨l, ys, rfl, hq, r⟩ := rep_L o3 rx e1
        exact .inl ⟨l, ys, rfl, hq, fun p hp => k3.nw o3 hp (repL_cut r) w3⟩
      · subst e1
        obtain ⟨l, ys, rfl, hq, r⟩ := rep_T rx rfl
        refine .inr (.inl ⟨l, ys, rfl, hq, fun h => ?_, fun _ p hp => k3.tup o3 hp (repL_cut r) w3⟩)
        have q := repL_cut (lo := lo) (hi := hi) r
        rw [cut_all h] at q
        have e2 : cutL xs lo hi = xs := by
          unfold cutL
          rw [← r.length, h.1, h.2, List.drop_zero, Nat.sub_zero, r.length, List.take_length]
        rw [e2] at w3
        exact k3.now o3 rx w3
      · subst e1
        exact .inr (.inr ⟨z, rep_str rx, hz, k3.now o3 (.str _) w3⟩)⟩
def wRev (wa : WE) : WE := fun Γ Ω P => wa Γ Ω fun s Ω1 => ∃ xs, asL Ω1 s = some xs ∧ nw xs.reverse Ω1 P
theorem oe_rev {K : PySem.W.Frag} {k : Nat} {p1 p2 p3 : Pos} (ha : OE X a ta wa) (hK : X.K = K := by rfl) : OE X (.Subscript a (.Slice none none (some (.UnaryOp .USub (.Constant (.int 1) k p1) p2)) p3) pos) (tRevL K ta) (wRev wa) := by
  subst hK
  exact ⟨pe_revL ha.pe, fun Z σ H Γ Ω P Q ok e w k => ha.se Z σ H Γ Ω _ _ ok e w fun x s Ω1 H1 o1 f1 r1 ⟨xs, e1, w1⟩ => by
    obtain ⟨l, ys, rfl, hq, r⟩ := rep_L o1 r1 e1
    exact ⟨l, ys, rfl, hq, fun p hp => (k.frm f1).nw o1 hp r.rev w1⟩⟩

/-! ### displays -/
def wNil : WA := fun _ Ω P => P [] Ω
def wCons (we : WE) (wr : WA) : WA := fun Γ Ω P => we Γ Ω fun s Ω1 => wr Γ Ω1 fun ss Ω2 => P (s :: ss) Ω2
theorem oa_nil : OA X [] tNil wNil := ⟨pa_nil, fun Z σ H Γ Ω P Q ok e w k => k _ _ _ _ ok .refl .nil w⟩
theorem oa_cons {es : List Expr} {t : TA} {w : WA} (h : OE X e ta wa) (r : OA X es t w) (he : starEach (e :: es) X.env = (false, eval e X.env) :: starEach es X.env := by rfl) : OA X (e :: es) (tCons ta t) (wCons wa w) :=
  ⟨pa_cons h.pe r.pe he, fun Z σ H Γ Ω P Q ok en w k => h.se Z σ H Γ Ω _ _ ok en w fun x s Ω1 H1 o1 f1 r1 w1 =>
    r.se Z σ H1 Γ Ω1 _ _ o1 (en.frm f1 ok) w1 fun vs ss Ω2 H2 o2 f2 r2 w2 => k _ _ _ _ o2 (f1.trans f2) (.cons (f2.rep o1 r1) r2) w2⟩
def wTup (w : WA) : WE := fun Γ Ω P => w Γ Ω fun ss Ω1 => ss.length ≤ sizeLine ∧ P (.tup ss) Ω1
def wLst (w : WA) : WE := fun Γ Ω P => w Γ Ω fun ss Ω1 => ss.length ≤ sizeLine ∧ nw ss Ω1 P
theorem oe_tup {es : List Expr} {t : TA} {w : WA} {x1} (h : OA X es t w) : OE X (.Tuple es x1 pos) (tTup t) (wTup w) :=
  ⟨pe_tup h.pe, fun Z σ H Γ Ω P Q ok e w k => h.se Z σ H Γ Ω _ _ ok e w fun vs ss Ω1 H1 o1 f1 r1 ⟨hl, w1⟩ => ⟨by rw [r1.length]; exact hl, fun p hp => (k.frm f1).tup o1 hp r1 w1⟩⟩
theorem oe_lst {es : List Expr} {t : TA} {w : WA} (h : OA X es t w) : OE X (.List es pos) (tLst t) (wLst w) :=
  ⟨pe_lst h.pe, fun Z σ H Γ Ω P Q ok e w k => h.se Z σ H Γ Ω _ _ ok e w fun vs ss Ω1 H1 o1 f1 r1 ⟨hl, w1⟩ => ⟨by rw [r1.length]; exact hl, fun p hp => (k.frm f1).nw o1 hp r1 w1⟩⟩

/-! ### calls of built-ins -/
def wCB (o : WL) (w : WA) : WE := fun Γ Ω P => w Γ Ω fun ss Ω1 => o ss Ω1 P
theorem se_cb {K : PySem.W.Frag} {r : List V → Hp → VK → Prop} {o : WL} {t : TA} {w : WA} (h : SA K t w) (ho : SL K r o) : SE K (tCB r t) (wCB o w) := fun Z σ H Γ Ω P Q ok e w k =>
  h Z σ H Γ Ω _ _ ok e w fun vs ss Ω1 H1 o1 f1 r1 w1 => ho Z H1 Ω1 vs ss P Q o1 r1 w1 (k.frm f1)
theorem oe_callB {id : String} {r : List V → Hp → VK → Prop} {o : WL} {es : List Expr} {t : TA} {w : WA} {x : Str} {p : Pos} (hc : OC X (.builtin id) r o) (hg : Gl X x) (hm : X.mg x = none) (hv : bootBuiltins x = some (.builtin id)) (ha : OA X (e :: es) t w) (hn : x ≠ "__name__" := by decide) (hdb : (x == ("__debug__" : Str)) = false := by decide)
    (he : starEach (e :: es) X.env = (false, eval e X.env) :: starEach es X.env := by rfl) (hpl : (backTo pos (starEach es X.env)).any (·.1) = false := by rfl) : OE X (.Call (.Name x p) (e :: es) [] pos) (tCB r t) (wCB o w) :=
  ⟨pe_callB hc.pe hg hm hv ha.pe hn hdb he hpl, se_cb ha.se hc.se⟩
theorem oe_callTy {T : String} {r : List V → Hp → VK → Prop} {o : WL} {es : List Expr} {t : TA} {w : WA} {x : Str} {p : Pos} (hc : OC X (.type T) r o) (hg : Gl X x) (hm : X.mg x = none) (hv : bootBuiltins x = some (.type T)) (ha : OA X (e :: es) t w) (hn : x ≠ "__name__" := by decide) (hdb : (x == ("__debug__" : Str)) = false := by decide)
    (he : starEach (e :: es) X.env = (false, eval e X.env) :: starEach es X.env := by rfl) (hpl : (backTo pos (starEach es X.env)).any (·.1) = false := by rfl) : OE X (.Call (.Name x p) (e :: es) [] pos) (tCB r t) (wCB o w) :=
  ⟨pe_callTy hc.pe hg hm hv ha.pe hn hdb he hpl, se_cb ha.se hc.se⟩
theorem repL1 {K : PySem.W.Frag} {N : Addr → Prop} {H : Hp} {vs : List V} {s : S} (r : RepL K N H vs [s]) : ∃ v, vs = [v] ∧ Rep K N H v s := by
  cases r with | cons h q => cases q; exact ⟨_, rfl, h⟩
theorem repL2 {K : PySem.W.Frag} {N : Addr → Prop} {H : Hp} {vs : List V} {s u : S} (r : RepL K N H vs [s, u]) : ∃ v w, vs = [v, w] ∧ Rep K N H v s ∧ Rep K N H w u := by
  cases r with | cons h q => cases q with | cons h2 q2 => cases q2; exact ⟨_, _, rfl, h, h2⟩
def oLen : WL := fun ss Ω P => (∃ s xs, ss = [s] ∧ asQ Ω s = some xs ∧ P (.int xs.length) Ω) ∨ (∃ z, ss = [.str z] ∧ z.length ≤ sizeLine ∧ P (.int z.length) Ω)
theorem oc_len {K : PySem.W.Frag} (hK : X.K = K := by rfl) : OC X (.builtin "len") (fun xs H Q => (∃ p ys, xs = [.ref p] ∧ (SqL K H p ys ∨ SqT K H p ys) ∧ Q (.int ys.length) H) ∨ (∃ z, xs = [.str z] ∧ z.length ≤ sizeLine ∧ Q (.int z.length) H)) oLen := by
  subst hK
  exact ⟨call_len_seq.or call_len_str, fun Z H Ω xs ss P Q ok r w k => by
    rcases w with ⟨s, ys, e, h, p⟩ | ⟨z, e, hz, p⟩
    · subst e
      obtain ⟨v, rfl, q1⟩ := repL1 r
      obtain ⟨l, zs, rfl, hq, q2⟩ := rep_Q ok q1 h
      exact .inl ⟨l, zs, rfl, hq, by rw [q2.length]; exact k.now ok (.int _) p⟩
    · subst e
      obtain ⟨v, rfl, q1⟩ := repL1 r
      cases q1
      exact .inr ⟨z, rfl, hz, k.now ok (.int _) p⟩⟩
def oAbs : WL := fun ss Ω P => ∃ i, ss = [.int i] ∧ P (.int (if i < 0 then -i else i)) Ω
theorem oc_abs : OC X (.builtin "abs") (fun xs H Q => ∃ i, xs = [.int i] ∧ Q (.int (if i < 0 then -i else i)) H) oAbs := ⟨call_abs, fun Z H Ω xs ss P Q ok r ⟨i, e, p⟩ k => by
  subst e
  obtain ⟨v, rfl, q1⟩ := repL1 r
  cases q1
  exact ⟨i, rfl, k.now ok (.int _) p⟩⟩
def oMax : WL := fun ss Ω P => ∃ i j, ss = [.int i, .int j] ∧ P (.int (if j > i then j else i)) Ω
theorem oc_max (hc : X.calm = true) : OC X (.builtin "max") (fun xs H Q => ∃ i j, xs = [.int i, .int j] ∧ Q (.int (if j > i then j else i)) H) oMax := ⟨call_max2 hc, fun Z H Ω xs ss P Q ok r ⟨i, j, e, p⟩ k => by
  subst e
  obtain ⟨v, w, rfl, r1, r2⟩ := repL2 r
  cases r1; cases r2
  exact ⟨i, j, rfl, k.now ok (.int _) p⟩⟩
def oMin : WL := fun ss Ω P => ∃ i j, ss = [.int i, .int j] ∧ P (.int (if j < i then j else i)) Ω
theorem oc_min (hc : X.calm = true) : OC X (.builtin "min") (fun xs H Q => ∃ i j, xs = [.int i, .int j] ∧ Q (.int (if j < i then j else i)) H) oMin := ⟨call_min2 hc, fun Z H Ω xs ss P Q ok r ⟨i, j, e, p⟩ k => by
  subst e
  obtain ⟨v, w, rfl, r1, r2⟩ := repL2 r
  cases r1; cases r2
  exact ⟨i, j, rfl, k.now ok (.int _) p⟩⟩
def oDivmod : WL := fun ss Ω P => ∃ i j, ss = [.int i, .int j] ∧ CDiv i j ∧ P (.tup [.int (i / j), .int (i % j)]) Ω
theorem oc_divmod : OC X (.builtin "divmod") (fun xs H Q => ∃ i j, xs = [.int i, .int j] ∧ CDiv i j ∧ ∀ p, H p = none → Q (.ref p) (upd H p (.tup [.int (i / j), .int (i % j)]))) oDivmod := ⟨call_divmod, fun Z H Ω xs ss P Q ok r ⟨i, j, e, c, p⟩ k => by
  subst e
  obtain ⟨v, w, rfl, r1, r2⟩ := repL2 r
  cases r1; cases r2
  exact ⟨i, j, rfl, c, fun q hq => k.tup ok hq (.cons (.int _) (.cons (.int _) .nil)) p⟩⟩
def oInt : WL := fun ss Ω P => (∃ i, ss = [.int i] ∧ P (.int i) Ω) ∨ ∃ b, ss = [.bl b] ∧ P (.int (b2i b)) Ω
theorem oc_int : OC X (.type "int") (fun xs H Q => (∃ i, xs = [.int i] ∧ Q (.int i) H) ∨ ∃ k, xs = [.bl k] ∧ Q (.int (b2i k)) H) oInt := ⟨call_int1, fun Z H Ω xs ss P Q ok r w k => by
  rcases w with ⟨i, e, p⟩ | ⟨i, e, p⟩
  · subst e
    obtain ⟨v, rfl, q1⟩ := repL1 r
    cases q1
    exact .inl ⟨i, rfl, k.now ok (.int _) p⟩
  · subst e
    obtain ⟨v, rfl, q1⟩ := repL1 r
    cases q1
    exact .inr ⟨i, rfl, k.now ok (.int _) p⟩⟩
def oList : WL := fun ss Ω P => ∃ s xs, ss = [s] ∧ asQ Ω s = some xs ∧ nw xs Ω P
theorem oc_list {K : PySem.W.Frag} (hK : X.K = K := by rfl) : OC X (.type "list") (fun xs H Q => ∃ p ys, xs = [.ref p] ∧ (SqL K H p ys ∨ SqT K H p ys) ∧ ∀ l, H l = none → Q (.ref l) (upd H l (.lst ys))) oList := by
  subst hK
  exact ⟨call_list_of, fun Z H Ω xs ss P Q ok r ⟨s, ys, e, h, p⟩ k => by
  subst e
  obtain ⟨v, rfl, q1⟩ := repL1 r
  obtain ⟨l, zs, rfl, hq, q2⟩ := rep_Q ok q1 h
  exact ⟨l, zs, rfl, hq, fun q hp => k.nw ok hp q2 p⟩⟩
def oAny : WL := fun ss Ω P => ∃ (s : S) (bs : List Bool), ss = [s] ∧ asL Ω s = some (bs.map S.bl) ∧ P (.bl (bs.any id)) Ω
theorem oc_any {K : PySem.W.Frag} (hc : X.calm = true) (hK : X.K = K := by rfl) : OC X (.builtin "any") (rAny K) oAny := by
  subst hK
  exact ⟨cr_any hc, fun Z H Ω xs ss P Q ok r ⟨s, bs, e, h, p⟩ k => by
  subst e
  obtain ⟨v, rfl, q1⟩ := repL1 r
  obtain ⟨l, zs, rfl, hq, q2⟩ := rep_L ok q1 h
  rw [repL_bls q2] at hq
  exact ⟨l, bs, rfl, hq, k.now ok (.bl _) p⟩⟩
def oAll : WL := fun ss Ω P => ∃ (s : S) (bs : List Bool), ss = [s] ∧ asL Ω s = some (bs.map S.bl) ∧ P (.bl (bs.all id)) Ω
theorem oc_all {K : PySem.W.Frag} (hc : X.calm = true) (hK : X.K = K := by rfl) : OC X (.builtin "all") (rAll K) oAll := by
  subst hK
  exact ⟨cr_all hc, fun Z H Ω xs ss P Q ok r ⟨s, bs, e, h, p⟩ k => by
  subst e
  obtain ⟨v, rfl, q1⟩ := repL1 r
  obtain ⟨l, zs, rfl, hq, q2⟩ := rep_L ok q1 h
  rw [repL_bls q2] at hq
  exact ⟨l, bs, rfl, hq, k.now ok (.bl _) p⟩⟩
def oSum : WL := fun ss Ω P => ∃ (s : S) (ns : List Int), ss = [s] ∧ asL Ω s = some (ns.map S.int) ∧ P (.int ns.sum) Ω
theorem oc_sum {K : PySem.W.Frag} (hc : X.calm = true) (hK : X.K = K := by rfl) : OC X (.builtin "sum") (rSum K) oSum := by
  subst hK
  exact ⟨cr_sum hc, fun Z H Ω xs ss P Q ok r ⟨s, bs, e, h, p⟩ k => by
  subst e
  obtain ⟨v, rfl, q1⟩ := repL1 r
  obtain ⟨l, zs, rfl, hq, q2⟩ := rep_L ok q1 h
  rw [repL_ints q2] at hq
  exact ⟨l, bs, rfl, hq, k.now ok (.int _) p⟩⟩
end
end Om
/-! Om: statements, targets, walks, comprehensions, defs. -/
namespace Om
open PySem L2

structure OEnds where
  nx : Ga → Om → Prop
  rt : WP
  bk : Ga → Om → Prop := fun _ _ => False
  ct : Ga → Om → Prop := fun _ _ => False
abbrev WS := OEnds → Ga → Om → Prop
abbrev WG := S → Ga → Om → (Ga → Om → Prop) → Prop
abbrev WGs := List S → Ga → Om → (Ga → Om → Prop) → Prop
def FinG (K : PySem.W.Frag) (Z : Addr → Prop) (Ω : Om) (H : Hp) (P : Ga → Om → Prop) (Q : L2.St → Hp → Prop) : Prop :=
  ∀ σ' Γ' Ω' H', Ok K Z Ω' H' → Frm Ω H Ω' H' → Env K Z Ω' H' σ' Γ' → P Γ' Ω' → Q σ' H'
structure FinS (K : PySem.W.Frag) (Z : Addr → Prop) (Ω : Om) (H : Hp) (O : OEnds) (D : Ends) : Prop where
  nx : FinG K Z Ω H O.nx D.nx
  rt : Fin K Z Ω H O.rt D.rt
  bk : FinG K Z Ω H O.bk D.bk
  ct : FinG K Z Ω H O.ct D.ct
def SS (K : PySem.W.Frag) (t : TS) (w : WS) : Prop := ∀ Z σ H Γ Ω O D, Ok K Z Ω H → Env K Z Ω H σ Γ → w O Γ Ω → FinS K Z Ω H O D → t D σ H
structure OS (X : Cx) (e : Stmt) (t : TS) (w : WS) : Prop where
  pe : PS X e t
  se : SS X.K t w
structure OSs (X : Cx) (e : List Stmt) (t : TS) (w : WS) : Prop where
  pe : PSs X e t
  se : SS X.K t w
/-- only the slots js are stored -/
def Only (js : List Nat) (σ σ' : L2.St) : Prop := σ'.length = σ.length ∧ ∀ j, j ∉ js → σ'[j]? = σ[j]?
def SG (K : PySem.W.Frag) (js : List Nat) (g : TG) (w : WG) : Prop := ∀ Z v s σ H Γ Ω (P : Ga → Om → Prop) (Q : L2.St → Hp → Prop), Ok K Z Ω H → Env K Z Ω H σ Γ → Rep K (mu Z Ω) H v s → w s Γ Ω P →
  (∀ σ' Γ' Ω' H', Ok K Z Ω' H' → Frm Ω H Ω' H' → Env K Z Ω' H' σ' Γ' → Only js σ σ' → P Γ' Ω' → Q σ' H') → g v σ H Q
def SGs (K : PySem.W.Frag) (js : List Nat) (g : TGs) (w : WGs) : Prop := ∀ Z v s σ H Γ Ω (P : Ga → Om → Prop) (Q : L2.St → Hp → Prop), Ok K Z Ω H → Env K Z Ω H σ Γ → RepL K (mu Z Ω) H v s → w s Γ Ω P →
  (∀ σ' Γ' Ω' H', Ok K Z Ω' H' → Frm Ω H Ω' H' → Env K Z Ω' H' σ' Γ' → Only js σ σ' → P Γ' Ω' → Q σ' H') → g v σ H Q
structure OG (X : Cx) (e : Expr) (js : List Nat) (g : TG) (w : WG) : Prop where
  pe : PG X e g
  se : SG X.K js g w
structure OGs (X : Cx) (e : List Expr) (js : List Nat) (g : TGs) (w : WGs) : Prop where
  pe : PGs X e g
  se : SGs X.K js g w

section
variable {K : PySem.W.Frag} {Z : Addr → Prop} {Ω Ω1 : Om} {H H1 : Hp} {O : OEnds} {D : Ends} {P : Ga → Om → Prop} {Q : L2.St → Hp → Prop}
theorem FinG.frm (k : FinG K Z Ω H P Q) (f : Frm Ω H Ω1 H1) : FinG K Z Ω1 H1 P Q := fun σ Γ Ω' H' o g e p => k σ Γ Ω' H' o (f.trans g) e p
theorem FinS.frm (k : FinS K Z Ω H O D) (f : Frm Ω H Ω1 H1) : FinS K Z Ω1 H1 O D := ⟨k.nx.frm f, k.rt.frm f, k.bk.frm f, k.ct.frm f⟩
theorem Only.refl {js : List Nat} {σ : L2.St} : Only js σ σ := ⟨rfl, fun _ _ => rfl⟩
theorem Only.trans {js ls : List Nat} {σ τ υ : L2.St} (a : Only js σ τ) (b : Only ls τ υ) : Only (js ++ ls) σ υ :=
  ⟨b.1.trans a.1, fun j h => by
    rw [List.mem_append, not_or] at h
    exact (b.2 j h.2).trans (a.2 j h.1)⟩
theorem Only.set {i : Nat} {σ : L2.St} {v : Option V} : Only [i] σ (σ.set i v) := ⟨List.length_set, fun j h => List.getElem?_set_ne (fun e => h (by rw [e]; exact List.mem_singleton.mpr rfl))⟩
end

section
variable {X : Cx} {e a b c : Expr} {te ta tb : TE} {we wa wb : WE} {pos : Pos} {st1 : Stmt} {rest : List Stmt} {t u : TS} {w x : WS}
/-! ### plain statements -/
def wNext : WS := fun O Γ Ω => O.nx Γ Ω
def wSeq (w x : WS) : WS := fun O Γ Ω => w { O with nx := x O } Γ Ω
theorem oss_nil : OSs X [] tNext wNext := ⟨pss_nil, fun Z σ H Γ Ω O D ok e w k => k.nx _ _ _ _ ok .refl e w⟩
theorem oss_cons (h : OS X st1 t w) (r : OSs X rest u x) : OSs X (st1 :: rest) (tSeq t u) (wSeq w x) :=
  ⟨pss_cons h.pe r.pe, fun Z σ H Γ Ω O D ok e ww k => h.se Z σ H Γ Ω { O with nx := x O } { D with nx := u D } ok e ww
    ⟨fun σ' Γ' Ω' H' o f e' p => r.se Z σ' H' Γ' Ω' O D o e' p (k.frm f), k.rt, k.bk, k.ct⟩⟩
theorem oss_one (h : OS X st1 t w) : OSs X [st1] t w := ⟨pss_one h.pe, h.se⟩
theorem os_pass : OS X (.Pass pos) tNext wNext := ⟨ps_pass, oss_nil (X := X).se⟩
theorem os_doc {y j p2} : OS X (.Expr (.Constant (.str y) j p2) pos) tNext wNext := ⟨ps_doc, oss_nil (X := X).se⟩
def wBrk : WS := fun O Γ Ω => O.bk Γ Ω
def wCont : WS := fun O Γ Ω => O.ct Γ Ω
theorem os_break : OS X (.Break pos) tBreak wBrk := ⟨ps_break, fun Z σ H Γ Ω O D ok e w k => k.bk _ _ _ _ ok .refl e w⟩
theorem os_continue : OS X (.Continue pos) tCont wCont := ⟨ps_continue, fun Z σ H Γ Ω O D ok e w k => k.ct _ _ _ _ ok .refl e w⟩
def wDrop (we : WE) : WS := fun O Γ Ω => we Γ Ω fun _ Ω1 => O.nx Γ Ω1
theorem os_expr (h : OE X e te we) (hs : swapsWith e none pos.line X.env = pure false := by rfl) : OS X (.Expr e pos) (tDrop te) (wDrop we) :=
  ⟨ps_expr h.pe hs, fun Z σ H Γ Ω O D ok en w k => h.se Z σ H Γ Ω _ _ ok en w fun v s Ω1 H1 o1 f1 r1 p => k.nx _ _ _ _ o1 f1 (en.frm f1 ok) p⟩
def wRet (we : WE) : WS := fun O Γ Ω => we Γ Ω O.rt
theorem os_ret (h : OE X e te we) : OS X (.Return (some e) pos) (tRet te) (wRet we) := ⟨ps_ret h.pe, fun Z σ H Γ Ω O D ok en w k => h.se Z σ H Γ Ω _ _ ok en w k.rt⟩
def wRetN : WS := fun O _ Ω => O.rt .non Ω
theorem os_retN : OS X (.Return none pos) tRetN wRetN := ⟨ps_retN, fun Z σ H Γ Ω O D ok en w k => k.rt.now ok .non w⟩
def wIfS (c : WT) (w x : WS) : WS := fun O Γ Ω => c Γ Ω fun b Ω1 => if b = true then w O Γ Ω1 else x O Γ Ω1
theorem os_if {tc : TT} {wc : WT} {p q : List Stmt} (hc : OT X c tc wc) (ha : OSs X p t w) (hb : OSs X q u x) : OS X (.If c p q pos) (tIfS tc t u) (wIfS wc w x) :=
  ⟨ps_if hc.pe ha.pe hb.pe, fun Z σ H Γ Ω O D ok en ww k => hc.se Z σ H Γ Ω _ _ ok en ww fun b Ω1 H1 o1 f1 w1 => by
    cases b with
    | true => exact ha.se Z σ H1 Γ Ω1 O D o1 (en.frm f1 ok) w1 (k.frm f1)
    | false => exact hb.se Z σ H1 Γ Ω1 O D o1 (en.frm f1 ok) w1 (k.frm f1)⟩
def wSet (we : WE) (i : Nat) : WS := fun O Γ Ω => we Γ Ω fun s Ω1 => O.nx (st Γ i (some s)) Ω1
theorem os_set {i : Nat} {y : Str} {pos' : Pos} (hN : X.N.Nodup) (hi : X.N[i]? = some y) (hx : Loc X.env.scope y) (he : OE X e te we) (hs : swapsWith e (some (.Name y pos')) pos.line X.env = pure false := by rfl) (hf : X.fn y = true ∨ X.env.scope.names.lookup y = some .local := by first | exact .inl rfl | exact .inr rfl | assumption) :
    OS X (.Assign [.Name y pos'] e pos) (tAsg te (gName i)) (wSet we i) :=
  ⟨ps_set hN hi hx he.pe hs hf, fun Z σ H Γ Ω O D ok en w k => he.se Z σ H Γ Ω _ _ ok en w fun v s Ω1 H1 o1 f1 r1 p => k.nx _ _ _ _ o1 f1 ((en.frm f1 ok).set r1) p⟩
/-! ### targets -/
def wgName (i : Nat) : WG := fun s Γ Ω P => P (st Γ i (some s)) Ω
theorem og_name {i : Nat} {y : Str} (hN : X.N.Nodup) (hi : X.N[i]? = some y) (hx : Loc X.env.scope y) (hf : X.fn y = true ∨ X.env.scope.names.lookup y = some .local := by first | exact .inl rfl | exact .inr rfl | assumption) : OG X (.Name y pos) [i] (gName i) (wgName i) :=
  ⟨pg_name hN hi hx hf, fun Z v s σ H Γ Ω P Q ok en r w k => k _ _ _ _ ok .refl (en.set r) .set w⟩
def wgNil : WGs := fun ss Γ Ω P => ss = [] ∧ P Γ Ω
def wgCons (w : WG) (x : WGs) : WGs := fun ss Γ Ω P => ∃ s r, ss = s :: r ∧ w s Γ Ω fun Γ1 Ω1 => x r Γ1 Ω1 P
theorem ogs_nil : OGs X [] [] gNil wgNil := ⟨pgs_nil, fun Z v s σ H Γ Ω P Q ok en r w k => by
  obtain ⟨rfl, p⟩ := w
  cases r
  exact ⟨rfl, k _ _ _ _ ok .refl en .refl p⟩⟩
theorem ogs_cons {es : List Expr} {js ls : List Nat} {g : TG} {gs : TGs} {w : WG} {x : WGs} (h : OG X e js g w) (r : OGs X es ls gs x) (hpe : PGs X (e :: es) (gCons g gs)) : OGs X (e :: es) (js ++ ls) (gCons g gs) (wgCons w x) :=
  ⟨hpe, fun Z v s σ H Γ Ω P Q ok en rr ww k => by
    obtain ⟨s1, s2, rfl, p⟩ := ww
    cases rr with
    | cons r1 r2 =>
      refine ⟨_, _, rfl, h.se Z _ _ σ H Γ Ω _ _ ok en r1 p fun σ1 Γ1 Ω1 H1 o1 f1 e1 n1 p1 => ?_⟩
      exact r.se Z _ _ σ1 H1 Γ1 Ω1 _ _ o1 e1 (f1.repL ok r2) p1 fun σ2 Γ2 Ω2 H2 o2 f2 e2 n2 p2 => k _ _ _ _ o2 (f1.trans f2) e2 (n1.trans n2) p2⟩
def wgTup (n : Nat) (w : WGs) : WG := fun s Γ Ω P => ∃ ss, s = .tup ss ∧ ss.length = n ∧ w ss Γ Ω P
theorem og_tup {K : PySem.W.Frag} {es : List Expr} {k n : Nat} {js : List Nat} {g : TGs} {w : WGs} (hc : X.calm = true) (h : OGs X es js g w)
    (hn : (assignEach es X.env).length = n := by rfl) (hst : (assignEach es X.env).findIdx? (·.1) = none := by rfl) (hK : X.K = K := by rfl) : OG X (.Tuple es k pos) js (gTup K n g) (wgTup n w) := by
  subst hK
  exact ⟨pg_tup hc h.pe hn hst, fun Z v s σ H Γ Ω P Q ok en r ww k => by
    obtain ⟨ss, rfl, hl, p⟩ := ww
    obtain ⟨l, xs, rfl, hq, rr⟩ := rep_T r rfl
    exact ⟨l, xs, rfl, hq, rr.length.trans hl, h.se Z _ _ σ H Γ Ω _ _ ok en rr p k⟩⟩
/-- o[i] = v, o a list of the store -/
def subAt (P : Ga → Om → Prop) (s : S) (Γ : Ga) (o i : S) (Ω2 : Om) : Prop := ∃ p xs k j, o = .adr p ∧ i = .int k ∧ Ω2 p = some (.lst xs) ∧ ixN xs.length k = some j ∧ P Γ (put Ω2 p (.lst (xs.set j s)))
def wgSub (wo wi : WE) : WG := fun s Γ Ω P => wo Γ Ω fun o Ω1 => wi Γ Ω1 fun i Ω2 => subAt P s Γ o i Ω2
theorem og_sub {o i : Expr} {to ti : TE} {wo wi : WE} (ho : OE X o to wo) (hi : OE X i ti wi)
    (ha : ∀ v, assign (.Subscript o i pos) X.env v = (do
      let ov ← holding [v] (eval o X.env)
      let iv ← holding [v, ov] (eval i X.env)
      standAt pos
      holding [v, ov, iv] (setItem ov iv v)
      release [v, ov, iv] []) := by intro _; rfl) : OG X (.Subscript o i pos) [] (gSub to ti rSetL) (wgSub wo wi) :=
  ⟨pg_sub ho.pe hi.pe set_list ha, fun Z v s σ H Γ Ω P Q ok en r w k => ho.se Z σ H Γ Ω _ _ ok en w fun x sx Ω1 H1 o1 f1 r1 w1 => hi.se Z σ H1 Γ Ω1 _ _ o1 (en.frm f1 ok) w1 fun y sy Ω2 H2 o2 f2 r2 w2 => by
    obtain ⟨p, xs, n, j, rfl, rfl, hp, hj, q⟩ := w2
    have r1' := f2.rep o1 r1
    have rv := (f1.trans f2).rep ok r
    cases r1'
    cases r2
    obtain ⟨ys, h1, h2⟩ := o2.cells p _ hp
    refine ⟨p, ys, n, j, rfl, rfl, h1, by rw [h2.length]; exact hj, ?_⟩
    have fm : Frm Ω2 H2 (put Ω2 p (.lst (xs.set j s))) (upd H2 p (.lst (ys.set j v))) := frm_mut hp
    have om : Ok X.K Z (put Ω2 p (.lst (xs.set j s))) (upd H2 p (.lst (ys.set j v))) := o2.mut (d := .lst (xs.set j s)) hp ⟨_, upd_same, repL_upd hp (h2.set rv j)⟩
    exact k _ _ _ _ om ((f1.trans f2).trans fm) (((en.frm f1 ok).frm f2 o1).frm fm o2) .refl q⟩
def wAsg (we : WE) (g : WG) : WS := fun O Γ Ω => we Γ Ω fun s Ω1 => g s Γ Ω1 O.nx
theorem os_asg {tg : Expr} {js : List Nat} {g : TG} {wg : WG} (he : OE X e te we) (hg : OG X tg js g wg) (hs : swapsWithSole [tg] e pos.line X.env = pure false := by rfl) (hw : swappedStores [tg] e X.env = pure none := by rfl)
    (h1 : (assignEach [tg] X.env).map (·.2) = [assign tg X.env] := by rfl) : OS X (.Assign [tg] e pos) (tAsg te g) (wAsg we wg) :=
  ⟨ps_asg he.pe hg.pe hs hw h1, fun Z σ H Γ Ω O D ok en w k => he.se Z σ H Γ Ω _ _ ok en w fun v s Ω1 H1 o1 f1 r1 p => hg.se Z v s σ H1 Γ Ω1 _ _ o1 (en.frm f1 ok) r1 p fun σ' Γ' Ω' H' o' f' e' _ p' => k.nx _ _ _ _ o' (f1.trans f') e' p'⟩
def wPar (i j : Nat) (wa : WA) : WS := fun O Γ Ω => wa Γ Ω fun ss Ω1 => ∃ s u, ss = [s, u] ∧ O.nx (st (st Γ i (some s)) j (some u)) Ω1
theorem os_par {i j : Nat} {y z : Str} {ta : TA} {wa : WA} {px py pt : Pos} {kt k2 pt2} (hc : X.calm = true) (hN : X.N.Nodup) (hi : X.N[i]? = some y) (hj : X.N[j]? = some z) (hij : i ≠ j)
    (hx : X.env.scope.names.lookup y = some .local) (hy : X.env.scope.names.lookup z = some .local) (ha : OA X [a, b] ta wa)
    (hw : swappedStores [.Tuple [.Name y px, .Name z py] kt pt] (.Tuple [a, b] k2 pt2) X.env = pure (some [y, z]))
    (hs : swapsWithSole [.Tuple [.Name y px, .Name z py] kt pt] (.Tuple [a, b] k2 pt2) pos.line X.env = pure false := by rfl) :
    OS X (.Assign [.Tuple [.Name y px, .Name z py] kt pt] (.Tuple [a, b] k2 pt2) pos) (tPar i j ta) (wPar i j wa) :=
  ⟨ps_par hc hN hi hj hij hx hy ha.pe hw hs, fun Z σ H Γ Ω O D ok en w k => ha.se Z σ H Γ Ω _ _ ok en w fun vs ss Ω1 H1 o1 f1 r1 ⟨s, u, es, p⟩ => by
    subst es
    obtain ⟨v, x, rfl, ra, rb⟩ := repL2 r1
    exact ⟨v, x, rfl, k.nx _ _ _ _ o1 f1 (((en.frm f1 ok).set ra).set rb) p⟩⟩
theorem repL3 {K : PySem.W.Frag} {N : Addr → Prop} {H : Hp} {vs : List V} {s u r : S} (q : RepL K N H vs [s, u, r]) : ∃ v w x, vs = [v, w, x] ∧ Rep K N H v s ∧ Rep K N H w u ∧ Rep K N H x r := by
  cases q with | cons h q => cases q with | cons h2 q2 => cases q2 with | cons h3 q3 => cases q3; exact ⟨_, _, _, rfl, h, h2, h3⟩
def wPar3 (i j l : Nat) (wa : WA) : WS := fun O Γ Ω => wa Γ Ω fun ss Ω1 => ∃ s u r, ss = [s, u, r] ∧ O.nx (st (st (st Γ i (some s)) j (some u)) l (some r)) Ω1
theorem os_par3 {i j l : Nat} {y z y3 : Str} {ta : TA} {wa : WA} {px py pz pt : Pos} {kt k2 pt2} (hc : X.calm = true) (hN : X.N.Nodup) (hi : X.N[i]? = some y) (hj : X.N[j]? = some z) (hl : X.N[l]? = some y3) (hij : i ≠ j) (hil : i ≠ l) (hjl : j ≠ l)
    (hx : X.env.scope.names.lookup y = some .local) (hy : X.env.scope.names.lookup z = some .local) (hz : X.env.scope.names.lookup y3 = some .local) (ha : OA X [a, b, c] ta wa)
    (hw : swappedStores [.Tuple [.Name y px, .Name z py, .Name y3 pz] kt pt] (.Tuple [a, b, c] k2 pt2) X.env = pure (some [y, z, y3]))
    (hs : swapsWithSole [.Tuple [.Name y px, .Name z py, .Name y3 pz] kt pt] (.Tuple [a, b, c] k2 pt2) pos.line X.env = pure false := by rfl) :
    OS X (.Assign [.Tuple [.Name y px, .Name z py, .Name y3 pz] kt pt] (.Tuple [a, b, c] k2 pt2) pos) (tPar3 i j l ta) (wPar3 i j l wa) :=
  ⟨ps_par3 hc hN hi hj hl hij hil hjl hx hy hz ha.pe hw hs, fun Z σ H Γ Ω O D ok en w k => ha.se Z σ H Γ Ω _ _ ok en w fun vs ss Ω1 H1 o1 f1 r1 ⟨s, u, r, es, p⟩ => by
    subst es
    obtain ⟨v, x, q, rfl, ra, rb, rc⟩ := repL3 r1
    exact ⟨v, x, q, rfl, k.nx _ _ _ _ o1 f1 ((((en.frm f1 ok).set ra).set rb).set rc) p⟩⟩
/-- x += e, x -= e of ups -/
def wAug (i : Nat) (f : Int → Int → Int) (we : WE) : WS := fun O Γ Ω => ∃ m, gt Γ i = some (.int m) ∧ we Γ Ω fun s Ω1 => ∃ n, s = .int n ∧ O.nx (st Γ i (some (.int (f m n)))) Ω1
theorem os_aug {i : Nat} {y : Str} {op : Operator} {f : Int → Int → Int} {pos' : Pos} (hN : X.N.Nodup) (hi : X.N[i]? = some y) (hx : Loc X.env.scope y) (he : OE X e te we) (ho : PIp X op (ipI f)) (hf : X.fn y = true ∨ X.env.scope.names.lookup y = some .local := by first | exact .inl rfl | exact .inr rfl | assumption) :
    OS X (.AugAssign (.Name y pos') op e pos) (tAug i te (ipI f)) (wAug i f we) :=
  ⟨ps_aug hN hi hx he.pe ho hf, fun Z σ H Γ Ω O D ok en w k => by
    obtain ⟨m, hm, w⟩ := w
    obtain ⟨v, h1, h2⟩ := en.at_ i _ hm
    cases h2
    exact ⟨_, h1, he.se Z σ H Γ Ω _ _ ok en w fun v s Ω1 H1 o1 f1 r1 ⟨n, es, p⟩ => by
      subst es
      cases r1
      exact ⟨m, n, rfl, rfl, k.nx _ _ _ _ o1 f1 ((en.frm f1 ok).set (.int _)) p⟩⟩⟩
end

/-! ### what a for walks -/
abbrev WI := Ga → Om → (List S → (Om → Prop) → Om → Prop) → Prop
/-- while G holds of the store: ss, one at each turn -/
def Wk (K : PySem.W.Frag) (Z : Addr → Prop) (J : It) (ss : List S) (G : Om → Prop) (Ω1 : Om) (H1 : Hp) : Prop :=
  ∀ Z2 Ω' H', (∀ a, Z2 a → Z a ∨ H1 a = none) → Ok K Z2 Ω' H' → Frm Ω1 H1 Ω' H' → G Ω' → (∀ i, i < ss.length → J.go i H') ∧ J.stop ss.length H' ∧
    ∀ i x H2, i < ss.length → J.yld i H' x H2 → ∃ s, ss[i]? = some s ∧ Ok K Z2 Ω' H2 ∧ Frm Ω' H' Ω' H2 ∧ Rep K (mu Z2 Ω') H2 x s
def SI (K : PySem.W.Frag) (wi : TI) (ww : WI) : Prop := ∀ Z σ H Γ Ω P R, Ok K Z Ω H → Env K Z Ω H σ Γ → ww Γ Ω P → (∀ J ss G Ω1 H1, Ok K Z Ω1 H1 → Frm Ω H Ω1 H1 → Wk K Z J ss G Ω1 H1 → P ss G Ω1 → R J H1) → wi σ H R
structure OI (X : Cx) (tg iter : Expr) (wi : TI) (ww : WI) : Prop where
  pe : PI X tg iter wi
  se : SI X.K wi ww
section
variable {K : PySem.W.Frag} {Z Z2 : Addr → Prop} {Ω Ω1 Ω2 : Om} {H H1 H2 : Hp}
theorem repL_later {vs : List V} {ss : List S} (hz : ∀ a, Z2 a → Z a ∨ H1 a = none) (f : Frm Ω1 H1 Ω2 H2) (r : RepL K (mu Z Ω1) H1 vs ss) : RepL K (mu Z2 Ω2) H2 vs ss :=
  r.keep (fun a o e h => f.keep a o e (no_some fun q => h (.inr q))) fun a o e h q => by
    rcases q with q | q
    · rcases hz a q with q | q
      · exact h (.inl q)
      · rw [q] at e; cases e
    · rcases f.dom a q with q | q
      · exact h (.inr q)
      · rw [q] at e; cases e
/-- a list, a tuple: as it stands when the walk begins -/
def seqG (s : S) (ss : List S) : Om → Prop := fun Ω' => ∀ a, s = .adr a → Ω' a = some (.lst ss)
theorem wk_list {v : V} {s : S} {ss : List S} {a : Addr} (o : Ok K Z Ω1 H1) (r : Rep K (mu Z Ω1) H1 v s) (e : asL Ω1 s = some ss) (ea : v = .ref a) : Wk K Z (Itl K a) ss (seqG s ss) Ω1 H1 := by
  subst ea
  intro Z2 Ω' H' hz o' f g
  obtain ⟨xs, hq, rr⟩ : ∃ xs, SqL K H' a xs ∧ RepL K (mu Z2 Ω') H' xs ss := by
    cases r with
    | lst h0 h r =>
      cases e
      exact ⟨_, .inl (.inl (f.keep _ _ h (no_some fun q => h0 (.inr q)))), repL_later hz f r⟩
    | sc h0 h r =>
      cases e
      exact ⟨_, .inl (rd_keep (fun o e => f.keep _ _ e (no_some fun q => h0 (.inr q))) h), repL_later hz f r⟩
    | wl h r =>
      cases e
      exact ⟨_, h H', repL_later hz f r⟩
    | adr =>
      obtain ⟨xs, h1, h2⟩ := o'.cells a _ (g a rfl)
      exact ⟨xs, .inl (.inl h1), h2⟩
    | _ => cases e
  refine ⟨fun i hi => ?_, ⟨xs, hq, by rw [rr.length]; exact Nat.le_refl _⟩, fun i x H2 hi y => ?_⟩
  · obtain ⟨v, h1, _⟩ := rr.get (List.getElem?_eq_getElem hi)
    exact ⟨xs, v, hq, h1⟩
  · obtain ⟨rfl, y⟩ := y
    obtain ⟨s, h1, h2⟩ := rr.getV (y xs hq)
    exact ⟨s, h1, o', .refl, h2⟩
theorem wk_tup {v : V} {ss : List S} {a : Addr} (o : Ok K Z Ω1 H1) (r : Rep K (mu Z Ω1) H1 v (.tup ss)) (ea : v = .ref a) : Wk K Z (Itt K a) ss (fun _ => True) Ω1 H1 := by
  subst ea
  intro Z2 Ω' H' hz o' f g
  obtain ⟨xs, hq, rr⟩ : ∃ xs, SqT K H' a xs ∧ RepL K (mu Z2 Ω') H' xs ss := by
    cases r with
    | tup h0 h r => exact ⟨_, .inl (.inl (f.keep _ _ h (no_some fun q => h0 (.inr q)))), repL_later hz f r⟩
    | wt h r => exact ⟨_, h H', repL_later hz f r⟩
  refine ⟨fun i hi => ?_, ⟨xs, hq, by rw [rr.length]; exact Nat.le_refl _⟩, fun i x H2 hi y => ?_⟩
  · obtain ⟨v, h1, _⟩ := rr.get (List.getElem?_eq_getElem hi)
    exact ⟨xs, v, hq, h1⟩
  · obtain ⟨rfl, y⟩ := y
    obtain ⟨s, h1, h2⟩ := rr.getV (y xs hq)
    exact ⟨s, h1, o', .refl, h2⟩
end
section
variable {X : Cx} {tg e a b : Expr} {te ta tb : TE} {we wa wb : WE} {pos p : Pos}
/-- a list or a tuple -/
abbrev WQ := List S → (Om → Prop) → Om → Prop
def seqAt (P : WQ) (s : S) (Ω1 : Om) : Prop := (∃ ss, asL Ω1 s = some ss ∧ P ss (seqG s ss) Ω1) ∨ (∃ ss, s = .tup ss ∧ P ss (fun _ => True) Ω1)
def wiSeq (we : WE) : WI := fun Γ Ω P => we Γ Ω fun s Ω1 => seqAt P s Ω1
/-- a list or a tuple, walked -/
def iAny (K : PySem.W.Frag) (tl : TE) : TI := fun σ H R => tl σ H fun x H1 => ∃ a, x = .ref a ∧ (((∃ xs, SqL K H1 a xs) ∧ R (Itl K a) H1) ∨ ((∃ xs, SqT K H1 a xs) ∧ R (Itt K a) H1))
theorem pi_any (hl : PE X e te) : PI X tg e (iAny X.K te) := by
  refine ⟨fun pins s σ H R I w => thn (hl.run pins s σ H _ I w) fun v s1 hv => ?_⟩
  obtain ⟨x, H1, J, rx, q⟩ := hv
  obtain ⟨l, rfl, q⟩ := q
  cases rx
  have fp : ∀ b ∈ [s1.heap.objs.size], FpOk X pins H1 b := fun b hb => by
    rw [List.mem_singleton.mp hb]
    exact J.fpOk (Nat.le_refl _) (J.hok.fresh (Nat.le_refl _))
  rcases q with ⟨⟨xs, hq⟩, q⟩ | ⟨⟨xs, hq⟩, q⟩
  · obtain ⟨is_, _, hp, _⟩ := J.list hq
    exact wpAny_pyIter_list hp.isList ⟨_, [s1.heap.objs.size], _, _, H1, rfl, J.kept (t' := s1.toks) fun b o z => Heap.get?_push_of_some _ z, turn_list l _, ⟨_, Heap.get?_push_size _ rfl, rfl, rfl⟩, fp, q⟩
  · obtain ⟨is_, _, hp, _⟩ := J.tuple hq
    exact wpAny_pyIter_tuple (show s1.heap.IsTuple l is_.toArray from hp) ⟨_, [s1.heap.objs.size], _, _, H1, rfl, J.kept (t' := s1.toks) fun b o z => Heap.get?_push_of_some _ z, turn_tuple l _, ⟨_, Heap.get?_push_size _ rfl, rfl, rfl⟩, fp, q⟩
theorem oi_seq {K : PySem.W.Frag} (h : OE X e te we) (hK : X.K = K := by rfl) : OI X tg e (iAny K te) (wiSeq we) := by
  subst hK
  exact ⟨pi_any h.pe, fun Z σ H Γ Ω P R ok en w k => h.se Z σ H Γ Ω _ _ ok en w fun v s Ω1 H1 o1 f1 r1 q => by
    rcases q with ⟨ss, e1, q⟩ | ⟨ss, e1, q⟩
    · obtain ⟨l, xs, rfl, hq, r⟩ := rep_L o1 r1 e1
      exact ⟨l, rfl, .inl ⟨⟨xs, hq⟩, k _ _ _ _ _ o1 f1 (wk_list o1 r1 e1 rfl) q⟩⟩
    · subst e1
      obtain ⟨l, xs, rfl, hq, r⟩ := rep_T r1 rfl
      exact ⟨l, rfl, .inr ⟨⟨xs, hq⟩, k _ _ _ _ _ o1 f1 (wk_tup o1 r1 rfl) q⟩⟩⟩
/-- lo, lo + 1, .. -/
def ups (lo : Int) (n : Nat) : List S := (List.range n).map fun i => .int (lo + (i : Nat))
theorem ups_len {lo : Int} {n : Nat} : (ups lo n).length = n := by unfold ups; rw [List.length_map, List.length_range]
theorem ups_at {lo : Int} {n i : Nat} (h : i < n) : (ups lo n)[i]? = some (.int (lo + (i : Nat))) := by
  unfold ups
  rw [List.getElem?_map, List.getElem?_range h]
  rfl
theorem wk_range {K : PySem.W.Frag} {Z : Addr → Prop} {lo : Int} {n : Nat} {Ω1 : Om} {H1 : Hp} : Wk K Z (Itr lo n) (ups lo n) (fun _ => True) Ω1 H1 := fun Z2 Ω' H' hz o f g =>
  ⟨fun i hi => by rw [ups_len] at hi; exact hi, Nat.le_of_eq ups_len.symm, fun i x H2 hi y => by
    obtain ⟨rfl, rfl⟩ := y
    rw [ups_len] at hi
    exact ⟨_, ups_at hi, o, .refl, .int _⟩⟩
def rngAt1 (P : WQ) (ss : List S) (Ω1 : Om) : Prop := ∃ n : Int, ss = [.int n] ∧ -(2 ^ 62) ≤ n ∧ n < 2 ^ 62 ∧ P (ups 0 n.toNat) (fun _ => True) Ω1
def wiRng1 (wa : WA) : WI := fun Γ Ω P => wa Γ Ω fun ss Ω1 => rngAt1 P ss Ω1
theorem oi_rng1 {ta : TA} {wa : WA} (hg : Gl X "range") (hm : X.mg "range" = none) (h : OA X [e] ta wa) (hs : starEach [e] X.env = [(false, eval e X.env)] := by rfl) : OI X tg (.Call (.Name "range" p) [e] [] pos) (iRng1 ta) (wiRng1 wa) :=
  ⟨pi_range1 hg hm h.pe hs, fun Z σ H Γ Ω P R ok en w k => h.se Z σ H Γ Ω _ _ ok en w fun v s Ω1 H1 o1 f1 r1 ⟨n, e1, h1, h2, q⟩ => by
    subst e1
    obtain ⟨x, rfl, r⟩ := repL1 r1
    cases r
    exact ⟨n, rfl, h1, h2, k _ _ _ _ _ o1 f1 wk_range q⟩⟩
def rngAt2 (P : WQ) (ss : List S) (Ω1 : Om) : Prop := ∃ m n : Int, ss = [.int m, .int n] ∧ (-(2 ^ 62) ≤ m ∧ m < 2 ^ 62 ∧ -(2 ^ 62) ≤ n ∧ n < 2 ^ 62) ∧ P (ups m (n - m).toNat) (fun _ => True) Ω1
def wiRng2 (wa : WA) : WI := fun Γ Ω P => wa Γ Ω fun ss Ω1 => rngAt2 P ss Ω1
theorem oi_rng2 {ta : TA} {wa : WA} (hg : Gl X "range") (hm : X.mg "range" = none) (h : OA X [a, b] ta wa) (hs : starEach [a, b] X.env = [(false, eval a X.env), (false, eval b X.env)] := by rfl) (hs2 : starEach [b] X.env = [(false, eval b X.env)] := by rfl) :
    OI X tg (.Call (.Name "range" p) [a, b] [] pos) (iRng2 ta) (wiRng2 wa) :=
  ⟨pi_range2 hg hm h.pe hs hs2, fun Z σ H Γ Ω P R ok en w k => h.se Z σ H Γ Ω _ _ ok en w fun v s Ω1 H1 o1 f1 r1 ⟨m, n, e1, h1, q⟩ => by
    subst e1
    obtain ⟨x, y, rfl, r, r'⟩ := repL2 r1
    cases r; cases r'
    exact ⟨m, n, rfl, h1, k _ _ _ _ _ o1 f1 wk_range q⟩⟩
/-- n - 1, .., 0 -/
def downs (n : Nat) : List S := (List.range n).map fun i => .int ((n : Int) - 1 - (i : Nat))
theorem downs_len {n : Nat} : (downs n).length = n := by unfold downs; rw [List.length_map, List.length_range]
theorem downs_at {n i : Nat} (h : i < n) : (downs n)[i]? = some (.int ((n : Int) - 1 - (i : Nat))) := by
  unfold downs
  rw [List.getElem?_map, List.getElem?_range h]
  rfl
def downAt (P : WQ) (s : S) (Ω1 : Om) : Prop := ∃ n : Int, s = .int n ∧ -(2 ^ 62) ≤ n ∧ n < 2 ^ 62 ∧ P (downs n.toNat) (fun _ => True) Ω1
def wiDown (we : WE) : WI := fun Γ Ω P => we Γ Ω fun s Ω1 => downAt P s Ω1
theorem wk_down {K : PySem.W.Frag} {Z : Addr → Prop} {n : Nat} {lo : Int} {Ω1 : Om} {H1 : Hp} (h : lo = (n : Int) - 1) : Wk K Z (Itc lo (-1) n) (downs n) (fun _ => True) Ω1 H1 := fun Z2 Ω' H' hz o f g =>
  ⟨fun i hi => by rw [downs_len] at hi; exact hi, Nat.le_of_eq downs_len.symm, fun i x H2 hi y => by
    obtain ⟨rfl, rfl⟩ := y
    rw [downs_len] at hi
    refine ⟨_, downs_at hi, o, .refl, ?_⟩
    have e : lo + (i : Nat) * (-1) = (n : Int) - 1 - (i : Nat) := by omega
    rw [e]
    exact .int _⟩
theorem oi_down {p1 p2 : Pos} (hg : Gl X "reversed") (hm : X.mg "reversed" = none) (hg2 : Gl X "range") (hm2 : X.mg "range" = none) (h : OE X e te we) (na : starEach [e] X.env = (false, eval e X.env) :: starEach [] X.env := by rfl)
    (hs : starEach [.Call (.Name "range" p1) [e] [] p2] X.env = (false, eval (.Call (.Name "range" p1) [e] [] p2) X.env) :: starEach [] X.env := by rfl) :
    OI X tg (.Call (.Name "reversed" p) [.Call (.Name "range" p1) [e] [] p2] [] pos) (iRevR (tRg1 te)) (wiDown we) :=
  ⟨pi_revR hg hm (prg_1 hg2 hm2 h.pe na) hs, fun Z σ H Γ Ω P R ok en w k => h.se Z σ H Γ Ω _ _ ok en w fun v s Ω1 H1 o1 f1 r1 ⟨n, e1, h1, h2, q⟩ => by
    subst e1
    cases r1
    refine ⟨n, rfl, by decide, by decide, h1, h2, ?_⟩
    have e2 : (n - 0).toNat = n.toNat := by rw [Int.sub_zero]
    rw [e2]
    exact k _ _ _ _ _ o1 f1 (wk_down (by omega)) q⟩
/-- pairs that are made as the walk goes -/
theorem wk_pairs {K : PySem.W.Frag} {Z2 : Addr → Prop} {Ω' : Om} {H' : Hp} {T : Addr} {x y : V} {sx sy : S} (o : Ok K Z2 Ω' H') (hT : H' T = none) (rx : Rep K (mu Z2 Ω') H' x sx) (ry : Rep K (mu Z2 Ω') H' y sy) :
    Ok K Z2 Ω' (upd H' T (.tup [x, y])) ∧ Frm Ω' H' Ω' (upd H' T (.tup [x, y])) ∧ Rep K (mu Z2 Ω') (upd H' T (.tup [x, y])) (.ref T) (.tup [sx, sy]) :=
  ⟨o.new hT, frm_new hT, .tup (o.fresh hT) upd_same ((frm_new hT).repL o (.cons rx (.cons ry .nil)))⟩
theorem seq_at {K : PySem.W.Frag} {Z Z2 : Addr → Prop} {Ω1 Ω' : Om} {H1 H' : Hp} {v : V} {s : S} {ss : List S} {l : Addr} (o : Ok K Z Ω1 H1) (r : Rep K (mu Z Ω1) H1 v s) (e : asL Ω1 s = some ss) (ea : v = .ref l)
    (hz : ∀ a, Z2 a → Z a ∨ H1 a = none) (o' : Ok K Z2 Ω' H') (f : Frm Ω1 H1 Ω' H') (g : seqG s ss Ω') : ∃ xs, SqL K H' l xs ∧ RepL K (mu Z2 Ω') H' xs ss := by
  subst ea
  cases r with
  | lst h0 h r =>
    cases e
    exact ⟨_, .inl (.inl (f.keep _ _ h (no_some fun q => h0 (.inr q)))), repL_later hz f r⟩
  | sc h0 h r =>
    cases e
    exact ⟨_, .inl (rd_keep (fun o e => f.keep _ _ e (no_some fun q => h0 (.inr q))) h), repL_later hz f r⟩
  | wl h r =>
    cases e
    exact ⟨_, h H', repL_later hz f r⟩
  | adr =>
    obtain ⟨xs, h1, h2⟩ := o'.cells _ _ (g _ rfl)
    exact ⟨xs, .inl (.inl h1), h2⟩
  | _ => cases e
def enumL (k : Nat) : List S → List S
  | [] => []
  | s :: r => .tup [.int (k : Nat), s] :: enumL (k + 1) r
theorem enumL_len : ∀ {k : Nat} {ss : List S}, (enumL k ss).length = ss.length
  | _, [] => rfl
  | k, s :: r => congrArg (· + 1) (enumL_len (k := k + 1) (ss := r))
theorem enumL_at : ∀ {k i : Nat} {ss : List S} {s : S}, ss[i]? = some s → (enumL k ss)[i]? = some (.tup [.int ((k + i : Nat) : Int), s])
  | _, _, [], _, h => by simp at h
  | k, 0, x :: r, s, h => by
    simp at h
    subst h
    rfl
  | k, i + 1, x :: r, s, h => by
    have q := enumL_at (k := k + 1) (i := i) (ss := r) (s := s) (by simpa using h)
    have e : k + 1 + i = k + (i + 1) := by omega
    rw [e] at q
    simpa [enumL] using q
def enumAt (P : WQ) (as : List S) (Ω1 : Om) : Prop := ∃ s ss, as = [s] ∧ asL Ω1 s = some ss ∧ P (enumL 0 ss) (seqG s ss) Ω1
def wiEnum (wa : WA) : WI := fun Γ Ω P => wa Γ Ω fun as Ω1 => enumAt P as Ω1
theorem oi_enum {K : PySem.W.Frag} {ta : TA} {wa : WA} {tpos : Pos} {elts : List Expr} {kk : Nat} (hg : Gl X "enumerate") (hm : X.mg "enumerate" = none) (h : OA X [e] ta wa) (hs : starEach [e] X.env = [(false, eval e X.env)] := by rfl) (hK : X.K = K := by rfl) :
    OI X (.Tuple elts kk tpos) (.Call (.Name "enumerate" p) [e] [] pos) (iEnum K ta) (wiEnum wa) := by
  subst hK
  exact ⟨pi_enum hg hm h.pe hs, fun Z σ H Γ Ω P R ok en w k => h.se Z σ H Γ Ω _ _ ok en w fun v as Ω1 H1 o1 f1 r1 ⟨s, ss, e1, e2, q⟩ => by
    subst e1
    obtain ⟨x, rfl, r⟩ := repL1 r1
    obtain ⟨l, xs, rfl, hq, _⟩ := rep_L o1 r e2
    refine ⟨l, xs, rfl, hq, k _ _ _ _ _ o1 f1 (fun Z2 Ω' H' hz o' f' g => ?_) q⟩
    obtain ⟨ys, hy, ry⟩ := seq_at o1 r e2 rfl hz o' f' g
    rw [enumL_len]
    refine ⟨fun i hi => ?_, ⟨ys, hy, Nat.le_of_eq ry.length⟩, fun i x H2 hi y => ?_⟩
    · obtain ⟨v, h1, _⟩ := ry.get (List.getElem?_eq_getElem hi)
      exact ⟨ys, v, hy, h1⟩
    · obtain ⟨T, z, rfl, hT, rfl, hx⟩ := y
      obtain ⟨u, h1, h2⟩ := ry.getV (hx ys hy)
      obtain ⟨p1, p2, p3⟩ := wk_pairs o' hT (.int (i : Nat)) h2
      refine ⟨_, enumL_at h1, p1, p2, ?_⟩
      rw [Nat.zero_add]
      exact p3⟩
def zipL : List S → List S → List S
  | s :: r, u :: q => .tup [s, u] :: zipL r q
  | _, _ => []
theorem zipL_len : ∀ {a b : List S}, (zipL a b).length = min a.length b.length
  | [], _ => by simp [zipL]
  | _ :: _, [] => by simp [zipL]
  | s :: r, u :: q => by
    show (zipL r q).length + 1 = min (r.length + 1) (q.length + 1)
    rw [zipL_len (a := r) (b := q)]
    omega
theorem zipL_at : ∀ {i : Nat} {a b : List S} {s u : S}, a[i]? = some s → b[i]? = some u → (zipL a b)[i]? = some (.tup [s, u])
  | _, [], _, _, _, h, _ => by simp at h
  | _, _ :: _, [], _, _, _, h => by simp at h
  | 0, x :: a, y :: b, s, u, h, h' => by
    simp at h h'
    subst h h'
    rfl
  | i + 1, x :: a, y :: b, s, u, h, h' => by
    have q := zipL_at (i := i) (a := a) (b := b) (s := s) (u := u) (by simpa using h) (by simpa using h')
    simpa [zipL] using q
def zipAt (P : WQ) (as : List S) (Ω1 : Om) : Prop := ∃ s u ss us, as = [s, u] ∧ asL Ω1 s = some ss ∧ asL Ω1 u = some us ∧ P (zipL ss us) (fun Ω' => seqG s ss Ω' ∧ seqG u us Ω') Ω1
def wiZip (wa : WA) : WI := fun Γ Ω P => wa Γ Ω fun as Ω1 => zipAt P as Ω1
theorem oi_zip {K : PySem.W.Frag} {ta : TA} {wa : WA} {tpos : Pos} {elts : List Expr} {kk : Nat} (hg : Gl X "zip") (hm : X.mg "zip" = none) (h : OA X [a, b] ta wa)
    (hs : starEach [a, b] X.env = (false, eval a X.env) :: starEach [b] X.env := by rfl) (hpl : (backTo pos (starEach [b] X.env)).any (·.1) = false := by rfl) (hK : X.K = K := by rfl) :
    OI X (.Tuple elts kk tpos) (.Call (.Name "zip" p) [a, b] [] pos) (iZip K ta) (wiZip wa) := by
  subst hK
  exact ⟨pi_zip hg hm h.pe hs hpl, fun Z σ H Γ Ω P R ok en w k => h.se Z σ H Γ Ω _ _ ok en w fun v as Ω1 H1 o1 f1 r1 ⟨s, u, ss, us, e1, e2, e3, q⟩ => by
    subst e1
    obtain ⟨x, y, rfl, r, r'⟩ := repL2 r1
    obtain ⟨l, xs, rfl, hq, _⟩ := rep_L o1 r e2
    obtain ⟨m, ys, rfl, hq', _⟩ := rep_L o1 r' e3
    refine ⟨l, m, xs, ys, rfl, hq, hq', k _ _ _ _ _ o1 f1 (fun Z2 Ω' H' hz o' f' g => ?_) q⟩
    obtain ⟨xs2, hx, rx⟩ := seq_at o1 r e2 rfl hz o' f' g.1
    obtain ⟨ys2, hy, ry⟩ := seq_at o1 r' e3 rfl hz o' f' g.2
    rw [zipL_len]
    refine ⟨fun i hi => ?_, ⟨xs2, ys2, hx, hy, by rw [rx.length, ry.length]; omega⟩, fun i x H2 hi y => ?_⟩
    · obtain ⟨v, h1, _⟩ := rx.get (List.getElem?_eq_getElem (show i < ss.length by omega))
      obtain ⟨v', h1', _⟩ := ry.get (List.getElem?_eq_getElem (show i < us.length by omega))
      exact ⟨xs2, ys2, v, v', hx, hy, h1, h1'⟩
    · obtain ⟨T, z, z', rfl, hT, rfl, h1, h2⟩ := y
      obtain ⟨c, c1, c2⟩ := rx.getV (h1 xs2 hx)
      obtain ⟨d, d1, d2⟩ := ry.getV (h2 ys2 hy)
      obtain ⟨p1, p2, p3⟩ := wk_pairs o' hT c2 d2
      exact ⟨_, zipL_at c1 d1, p1, p2, p3⟩⟩

/-! ### for -/
def forAt (wg : WG) (wb : WS) (O : OEnds) (Γ : Ga) (ss : List S) (G : Om → Prop) (Ω1 : Om) : Prop := ∃ Pv : Nat → Ga → Om → Prop, Pv 0 Γ Ω1 ∧ (∀ i Γ' Ω', i ≤ ss.length → Pv i Γ' Ω' → G Ω') ∧
  (∀ i s Γ' Ω', ss[i]? = some s → Pv i Γ' Ω' → wg s Γ' Ω' fun Γ2 Ω2 => wb { O with nx := Pv (i + 1), ct := Pv (i + 1), bk := O.nx } Γ2 Ω2) ∧ ∀ Γ' Ω', Pv ss.length Γ' Ω' → O.nx Γ' Ω'
def wFor (ww : WI) (wg : WG) (wb : WS) : WS := fun O Γ Ω => ww Γ Ω fun ss G Ω1 => forAt wg wb O Γ ss G Ω1
theorem os_for {iter : Expr} {body : List Stmt} {wi : TI} {ww : WI} {js : List Nat} {g : TG} {wg : WG} {tb : TS} {wb : WS} (hp : PassesOwn (model X.prog X.w) X.A X.env X.xe) (hc : X.calm = true) (hi : OI X tg iter wi ww) (hg : OG X tg js g wg) (hb : OSs X body tb wb)
    (hs : ∀ x, foldedSetIterable iter X.env x = pure x := by intro _; rfl) : OS X (.For tg iter body [] pos) (tFor wi g tb) (wFor ww wg wb) :=
  ⟨ps_for hp hc hi.pe hg.pe hb.pe hs, fun Z σ H Γ Ω O D ok en w k => hi.se Z σ H Γ Ω _ _ ok en w fun J ss G Ω1 H1 o1 f1 wk q => by
    obtain ⟨Pv, h0, hG, hst, hd⟩ := q
    refine ⟨fun i m σ' H' => m = ss.length - i ∧ i ≤ ss.length ∧ ∃ Γ' Ω', Ok X.K Z Ω' H' ∧ Frm Ω1 H1 Ω' H' ∧ Env X.K Z Ω' H' σ' Γ' ∧ Pv i Γ' Ω', ⟨_, rfl, Nat.zero_le _, Γ, Ω1, o1, .refl, en.frm f1 ok, h0⟩, ?_⟩
    rintro i m σ' H' ⟨rfl, hi, Γ', Ω', o', f', e', p⟩
    obtain ⟨w1, w2, w3⟩ := wk Z Ω' H' (fun a h => .inl h) o' f' (hG i Γ' Ω' hi p)
    by_cases hl : i < ss.length
    · refine .inr ⟨w1 i hl, fun σ2 H2 => i < ss.length ∧ ∃ Γ2 Ω2, Ok X.K Z Ω2 H2 ∧ Frm Ω1 H1 Ω2 H2 ∧ Env X.K Z Ω2 H2 σ2 Γ2 ∧ Pv (i + 1) Γ2 Ω2, fun σ2 H2 ⟨_, n⟩ => ⟨ss.length - (i + 1), by omega, rfl, hl, n⟩, fun x H2 y => ?_⟩
      obtain ⟨s, hs, o2, f2, r2⟩ := w3 i x H2 hl y
      refine hg.se Z x s σ' H2 Γ' Ω' _ _ o2 (e'.frm f2 o') r2 (hst i s Γ' Ω' hs p) fun σ3 Γ3 Ω3 H3 o3 f3 e3 _ p3 => ?_
      have F : Frm Ω1 H1 Ω3 H3 := f'.trans (f2.trans f3)
      have kk := k.frm (f1.trans F)
      exact hb.se Z σ3 H3 Γ3 Ω3 _ _ o3 e3 p3 ⟨fun σ4 Γ4 Ω4 H4 o4 f4 e4 p4 => ⟨hl, Γ4, Ω4, o4, F.trans f4, e4, p4⟩, kk.rt, kk.nx, fun σ4 Γ4 Ω4 H4 o4 f4 e4 p4 => ⟨hl, Γ4, Ω4, o4, F.trans f4, e4, p4⟩⟩
    · have ei : i = ss.length := by omega
      subst ei
      exact .inl ⟨w2, (k.frm (f1.trans f')).nx _ _ _ _ o' .refl e' (hd _ _ p)⟩⟩
def wWhile (c : WT) (wb : WS) : WS := fun O Γ Ω => ∃ W : Nat → Ga → Om → Prop, (∃ m, W m Γ Ω) ∧ ∀ m Γ Ω, W m Γ Ω →
  c Γ Ω fun b Ω1 => if b = true then wb { O with nx := fun Γ' Ω' => ∃ m', m' < m ∧ W m' Γ' Ω', ct := fun Γ' Ω' => ∃ m', m' < m ∧ W m' Γ' Ω', bk := O.nx } Γ Ω1 else O.nx Γ Ω1
theorem os_while {c : Expr} {body : List Stmt} {tc : TT} {wc : WT} {tb : TS} {wb : WS} (hp : PassesOwn (model X.prog X.w) X.A X.env X.xe) (hc : OT X c tc wc) (hb : OSs X body tb wb) : OS X (.While c body [] pos) (tWhile tc tb) (wWhile wc wb) :=
  ⟨ps_while hp hc.pe hb.pe, fun Z σ H Γ Ω O D ok en w k => by
    obtain ⟨W, ⟨m0, w0⟩, hst⟩ := w
    refine ⟨fun m σ' H' => ∃ Γ' Ω', Ok X.K Z Ω' H' ∧ Frm Ω H Ω' H' ∧ Env X.K Z Ω' H' σ' Γ' ∧ W m Γ' Ω', ⟨m0, Γ, Ω, ok, .refl, en, w0⟩, ?_⟩
    rintro m σ' H' ⟨Γ', Ω', o', f', e', p⟩
    refine hc.se Z σ' H' Γ' Ω' _ _ o' e' (hst m Γ' Ω' p) fun b Ω1 H1 o1 f1 p1 => ?_
    have kk := k.frm (f'.trans f1)
    cases b with
    | true =>
      refine ⟨fun σ2 H2 => ∃ m', m' < m ∧ ∃ Γ2 Ω2, Ok X.K Z Ω2 H2 ∧ Frm Ω H Ω2 H2 ∧ Env X.K Z Ω2 H2 σ2 Γ2 ∧ W m' Γ2 Ω2, fun σ2 H2 n => n, ?_⟩
      exact hb.se Z σ' H1 Γ' Ω1 _ _ o1 (e'.frm f1 o') p1 ⟨fun σ4 Γ4 Ω4 H4 o4 f4 e4 ⟨m', l, p4⟩ => ⟨m', l, Γ4, Ω4, o4, (f'.trans f1).trans f4, e4, p4⟩, kk.rt, kk.nx, fun σ4 Γ4 Ω4 H4 o4 f4 e4 ⟨m', l, p4⟩ => ⟨m', l, Γ4, Ω4, o4, (f'.trans f1).trans f4, e4, p4⟩⟩
    | false => exact kk.nx _ _ _ _ o1 .refl (e'.frm f1 o') p1⟩
end
end Om
/-! Om: comprehensions, defs and their calls, ways of seeing. -/
namespace Om
open PySem L2

/-! ### comprehensions -/
def wipeG (Γ : Ga) : List Nat → Ga
  | [] => Γ
  | v :: vs => st (wipeG Γ vs) v none
section
variable {K : PySem.W.Frag} {Z Z2 : Addr → Prop} {Ω Ω1 Ω2 : Om} {H H1 H2 : Hp} {σ σ' : L2.St} {Γ : Ga}
theorem Env.wipe (e : Env K Z Ω H σ Γ) : ∀ vs : List Nat, Env K Z Ω H (wipe σ vs) (wipeG Γ vs)
  | [] => e
  | _ :: vs => (Env.wipe e vs).unset
theorem Only.wipe {js vs : List Nat} (h : Only js (wipe σ vs) σ') (hj : ∀ j ∈ js, j ∈ vs) : wipe σ' vs = wipe σ vs := by
  have hw : ∀ (τ : L2.St) (ws : List Nat) (j : Nat), (L2.wipe τ ws)[j]? = if j ∈ ws ∧ j < τ.length then some none else τ[j]? := by
    intro τ ws
    induction ws with
    | nil => intro j; simp [L2.wipe]
    | cons v ws ih =>
      intro j
      unfold L2.wipe
      by_cases e : v = j
      · subst e
        by_cases hl : v < τ.length
        · rw [List.getElem?_set_self (by rw [wipe_length]; exact hl)]
          simp [hl]
        · rw [List.getElem?_eq_none (by rw [List.length_set, wipe_length]; omega)]
          rw [if_neg (fun q => hl q.2), List.getElem?_eq_none (by omega)]
      · rw [List.getElem?_set_ne e, ih j]
        have q : (j ∈ v :: ws) ↔ j ∈ ws := by simp [List.mem_cons, show ¬ j = v from fun z => e z.symm]
        by_cases h1 : j ∈ ws ∧ j < τ.length
        · rw [if_pos h1, if_pos ⟨q.mpr h1.1, h1.2⟩]
        · rw [if_neg h1, if_neg (fun z => h1 ⟨q.mp z.1, z.2⟩)]
  apply List.ext_getElem?
  intro j
  rw [hw, hw]
  have hl : σ'.length = σ.length := by rw [h.1, wipe_length]
  rw [hl]
  by_cases h1 : j ∈ vs ∧ j < σ.length
  · rw [if_pos h1, if_pos h1]
  · rw [if_neg h1, if_neg h1]
    by_cases h2 : j ∈ vs
    · have h3 : ¬ j < σ.length := fun z => h1 ⟨h2, z⟩
      rw [List.getElem?_eq_none (by omega), List.getElem?_eq_none (by omega)]
    · rw [h.2 j (fun z => h2 (hj j z)), hw, if_neg (fun z => h2 z.1)]
/-- a thing that stands apart is hidden -/
def hide (Z : Addr → Prop) (D : Addr) : Addr → Prop := fun a => Z a ∨ a = D
theorem mu_hide {D a : Addr} (h : ¬ mu Z Ω a) (ne : a ≠ D) : ¬ mu (hide Z D) Ω a := by
  rintro ((q | q) | q)
  · exact h (.inl q)
  · exact ne q
  · exact h (.inr q)
theorem mu_show {D a : Addr} (h : ¬ mu (hide Z D) Ω a) : ¬ mu Z Ω a ∧ a ≠ D := ⟨fun q => h (q.elim (fun z => .inl (.inl z)) .inr), fun q => h (.inl (.inr q))⟩
theorem ok_hide {D : Addr} {u : HO} (o : Ok K Z Ω H) (hD : H D = none) : Ok K (hide Z D) Ω (upd H D u) := by
  refine ⟨fun a c h => ?_, fun a h => ?_⟩
  · exact CellRep.keep (o.cells a c h) (fun x e => by rw [upd_ne (ne_of_none e hD)]; exact e) (fun b x e _ => by rw [upd_ne (ne_of_none e hD)]; exact e) fun b x e q => mu_hide q (ne_of_none e hD)
  · rcases h with h | h
    · obtain ⟨h1, x, e⟩ := o.hid a h
      exact ⟨h1, x, by rw [upd_ne (ne_of_none e hD)]; exact e⟩
    · subst h
      exact ⟨o.freshO hD, u, upd_same⟩
theorem env_hide {D : Addr} {u : HO} (e : Env K Z Ω H σ Γ) (hD : H D = none) : Env K (hide Z D) Ω (upd H D u) σ Γ :=
  ⟨e.len, fun i s h => let ⟨v, h1, h2⟩ := e.at_ i s h; ⟨v, h1, h2.keep (fun a o q _ => by rw [upd_ne (ne_of_none q hD)]; exact q) fun a o q n => mu_hide n (ne_of_none q hD)⟩⟩
/-- the hidden thing changes -/
theorem ok_upd {D : Addr} {u : HO} (o : Ok K (hide Z D) Ω H) : Ok K (hide Z D) Ω (upd H D u) := by
  have hne : ∀ a, Ω a ≠ none → a ≠ D := fun a h e => h (by rw [e]; exact (o.hid D (.inr rfl)).1)
  refine ⟨fun a c h => ?_, fun a h => ?_⟩
  · have ne := hne a (by rw [h]; simp)
    exact CellRep.keep (o.cells a c h) (fun x e => by rw [upd_ne ne]; exact e) (fun b x e n => by rw [upd_ne (mu_show n).2]; exact e) fun _ _ _ n => n
  · obtain ⟨h1, x, e⟩ := o.hid a h
    refine ⟨h1, ?_⟩
    by_cases q : a = D
    · subst q; exact ⟨u, upd_same⟩
    · exact ⟨x, by rw [upd_ne q]; exact e⟩
theorem repL_updD {D : Addr} {u : HO} {vs : List V} {ss : List S} (r : RepL K (mu (hide Z D) Ω) H vs ss) : RepL K (mu (hide Z D) Ω) (upd H D u) vs ss :=
  r.keep (fun a x e n => by rw [upd_ne (mu_show n).2]; exact e) fun _ _ _ n => n
theorem repL_show {D : Addr} {vs : List V} {ss : List S} (r : RepL K (mu (hide Z D) Ω) H vs ss) : RepL K (mu Z Ω) H vs ss := r.keep (fun _ _ e _ => e) fun _ _ _ n => (mu_show n).1
theorem ok_show {D : Addr} (o : Ok K (hide Z D) Ω H) : Ok K Z Ω H :=
  ⟨fun a c h => CellRep.keep (o.cells a c h) (fun _ e => e) (fun _ _ e _ => e) fun _ _ _ n => (mu_show n).1, fun a h => o.hid a (.inl h)⟩
end
structure OTs (X : Cx) (ifs : List Expr) (t : TT) (w : WT) : Prop where
  pe : PTs X ifs t
  se : ST X.K t w
def wYes : WT := fun _ Ω P => P true Ω
def lcAt (wg : WG) (wt : WT) (we : WE) (Γw : Ga) (P : WP) (ss : List S) (G : Om → Prop) (Ω1 : Om) : Prop := ∃ Pv : Nat → List S → Om → Prop, Pv 0 [] Ω1 ∧ (∀ i acc Ω', i ≤ ss.length → Pv i acc Ω' → G Ω') ∧
  (∀ i s acc Ω', ss[i]? = some s → Pv i acc Ω' → wg s Γw Ω' fun Γ2 Ω2 => wt Γ2 Ω2 fun b Ω3 => if b = true then we Γ2 Ω3 fun y Ω4 => acc.length < sizeLine ∧ Pv (i + 1) (acc ++ [y]) Ω4 else Pv (i + 1) acc Ω3) ∧
  ∀ acc Ω', Pv ss.length acc Ω' → nw acc Ω' P
def wLc (ww : WI) (wg : WG) (wt : WT) (we : WE) (vs : List Nat) : WE := fun Γ Ω P => ww Γ Ω fun ss G Ω1 => lcAt wg wt we (wipeG Γ vs) P ss G Ω1
section
variable {X : Cx}
theorem ots_nil : OTs X [] tYes wYes := ⟨pts_nil, fun Z σ H Γ Ω P Q ok en w k => k _ _ _ ok .refl w⟩
theorem ots_one {c : Expr} {t : TT} {w : WT} (h : OT X c t w) : OTs X [c] t w := ⟨pts_one h.pe, h.se⟩
theorem se_lc {K : PySem.W.Frag} {wi : TI} {ww : WI} {js vs : List Nat} {g : TG} {wg : WG} {tt : TT} {wt : WT} {te : TE} {we : WE} (hi : SI K wi ww) (hg : SG K js g wg) (ht : ST K tt wt) (he : SE K te we) (hj : ∀ j ∈ js, j ∈ vs) : SE K (tLc wi g tt te vs) (wLc ww wg wt we vs) := by
  intro Z σ H Γ Ω P Q ok en w k
  refine hi Z σ H Γ Ω _ _ ok en w fun J ss G Ω1 H1 o1 f1 wk q => ?_
  obtain ⟨Pv, h0, hG, hst, hd⟩ := q
  intro D hD
  have e1 := en.frm f1 ok
  refine ⟨fun i m H' => m = ss.length - i ∧ i ≤ ss.length ∧ ∃ acc xs Ω', Ok K (hide Z D) Ω' H' ∧ Frm Ω1 H1 Ω' H' ∧ Env K (hide Z D) Ω' H' (wipe σ vs) (wipeG Γ vs) ∧ H' D = some (.lst xs) ∧ RepL K (mu (hide Z D) Ω') H' xs acc ∧ Pv i acc Ω',
    ⟨_, rfl, Nat.zero_le _, [], [], Ω1, ok_hide o1 hD, frm_new hD, (env_hide e1 hD).wipe vs, upd_same, .nil, h0⟩, ?_⟩
  rintro i m H' ⟨rfl, hi, acc, xs, Ω', o', f', e', hd', ra, p⟩
  obtain ⟨w1, w2, w3⟩ := wk (hide Z D) Ω' H' (fun a h => h.elim .inl fun e => .inr (by rw [e]; exact hD)) o' f' (hG i acc Ω' hi p)
  by_cases hl : i < ss.length
  · refine .inr ⟨w1 i hl, fun H2 => i < ss.length ∧ ∃ acc xs Ω', Ok K (hide Z D) Ω' H2 ∧ Frm Ω1 H1 Ω' H2 ∧ Env K (hide Z D) Ω' H2 (wipe σ vs) (wipeG Γ vs) ∧ H2 D = some (.lst xs) ∧ RepL K (mu (hide Z D) Ω') H2 xs acc ∧ Pv (i + 1) acc Ω',
      fun H2 ⟨_, n⟩ => ⟨ss.length - (i + 1), by omega, rfl, hl, n⟩, fun x H2 y => ?_⟩
    obtain ⟨s, hs, o2, f2, r2⟩ := w3 i x H2 hl y
    have zD : ∀ {Ωa : Om} {Ha : Hp}, Ok K (hide Z D) Ωa Ha → Ωa D = none := fun o => (o.hid D (.inr rfl)).1
    refine hg (hide Z D) x s (wipe σ vs) H2 (wipeG Γ vs) Ω' _ _ o2 (e'.frm f2 o') r2 (hst i s acc Ω' hs p) fun σ3 Γ3 Ω3 H3 o3 f3 e3 n3 p3 => ?_
    refine ⟨n3.wipe hj, ht (hide Z D) σ3 H3 Γ3 Ω3 _ _ o3 e3 p3 fun b Ω4 H4 o4 f4 p4 => ?_⟩
    cases b with
    | false =>
      have F := f2.trans (f3.trans f4)
      exact ⟨hl, acc, xs, Ω4, o4, f'.trans F, e'.frm F o', F.keep _ _ hd' (zD o'), F.repL o' ra, p4⟩
    | true =>
      refine he (hide Z D) σ3 H4 Γ3 Ω4 _ _ o4 (e3.frm f4 o3) p4 fun v y Ω5 H5 o5 f5 r5 p5 => ?_
      have F := f2.trans (f3.trans (f4.trans f5))
      have ra5 := F.repL o' ra
      refine ⟨xs, F.keep _ _ hd' (zD o'), by rw [ra5.length]; exact p5.1, hl, acc ++ [y], xs ++ [v], Ω5, ok_upd o5, ⟨fun a o e h => ?_, (f'.trans F).dom⟩, ?_, upd_same, repL_updD (ra5.append (.cons r5 .nil)), p5.2⟩
      · rw [upd_ne (ne_of_none e hD)]
        exact (f'.trans F).keep a o e h
      · exact ⟨e'.len, fun j s h => let ⟨v, h1, h2⟩ := (e'.frm F o').at_ j s h; ⟨v, h1, h2.keep (fun a x e n => by rw [upd_ne (mu_show n).2]; exact e) fun _ _ _ n => n⟩⟩
  · have ei : i = ss.length := by omega
    subst ei
    have nD : ¬ mu Z Ω' D := by
      rintro (q | q)
      · obtain ⟨_, x, e⟩ := o1.hid D q
        rw [hD] at e; cases e
      · exact q ((o'.hid D (.inr rfl)).1)
    have F := f1.trans f'
    have os := ok_show o'
    refine .inl ⟨w2, ?_⟩
    rcases hd _ _ p with q | q
    · exact k _ _ Ω' H' os F (.lst nD hd' (repL_show ra)) q
    · have zd := (o'.hid D (.inr rfl)).1
      refine k _ _ (put Ω' D (.lst acc)) H' ?_ ?_ (.adr D) (q D zd)
      · refine ⟨fun a c h => ?_, fun a h => ?_⟩
        · by_cases e : a = D
          · subst e
            rw [put_same] at h
            cases h
            exact ⟨xs, hd', ra.keep (fun _ _ e _ => e) fun b _ _ n => mu_put (mu_show n).1 (mu_show n).2⟩
          · rw [put_ne e] at h
            exact CellRep.keep (o'.cells a c h) (fun _ e => e) (fun _ _ e _ => e) fun b _ _ n => mu_put (mu_show n).1 (mu_show n).2
        · obtain ⟨h1, x⟩ := os.hid a h
          exact ⟨by rw [put_ne (fun e => nD (.inl (by rw [← e]; exact h)))]; exact h1, x⟩
      · refine ⟨F.keep, fun a h => ?_⟩
        by_cases e : a = D
        · subst e
          cases z : H a with
          | none => exact .inr rfl
          | some o =>
            by_cases zo : Ω a = none
            · rw [f1.keep a o z zo] at hD; cases hD
            · exact .inl zo
        · rw [put_ne e] at h
          exact F.dom a h
theorem oe_lc {elt tg iter : Expr} {ifs : List Expr} {scope : Scope} {own : List (Str × Nat)} {pos : Pos} {wi : TI} {ww : WI} {js : List Nat} {g : TG} {wg : WG} {tt : TT} {wt : WT} {te : TE} {we : WE} (hc : X.calm = true) (hN : X.N.Nodup) (hi : OI X tg iter wi ww) (ok : BlkOk X.N X.env.scope scope own)
    (hg : ∀ (s : Shared) (H : Hp) (C : Addr) (cl : List (Str × Addr)) (fp : List Addr), OG (X.blk s H scope (compEnvC scope cl C X.env) fp) tg js g wg) (ht : ∀ (s : Shared) (H : Hp) (C : Addr) (cl : List (Str × Addr)) (fp : List Addr), OTs (X.blk s H scope (compEnvC scope cl C X.env) fp) ifs tt wt)
    (he : ∀ (s : Shared) (H : Hp) (C : Addr) (cl : List (Str × Addr)) (fp : List Addr), OE (X.blk s H scope (compEnvC scope cl C X.env) fp) elt te we) (hj : ∀ j ∈ js, j ∈ own.map (·.2)) (hs : ∀ x, foldedSetIterable iter X.env x = pure x := by intro _; rfl) :
    OE X (.ListComp elt [⟨tg, iter, ifs, 0⟩] scope pos) (tLc wi g tt te (own.map (·.2))) (wLc ww wg wt we (own.map (·.2))) :=
  ⟨pe_lc hc hN hi.pe ok (fun s H C cl fp => (hg s H C cl fp).pe) (fun s H C cl fp => (ht s H C cl fp).pe) (fun s H C cl fp => (he s H C cl fp).pe) hs,
    se_lc hi.se (hg X.s_0 X.H_0 0 [] []).se (ht X.s_0 X.H_0 0 [] []).se (he X.s_0 X.H_0 0 [] []).se hj⟩
theorem os_setLc {i : Nat} {y : Str} {py : Pos} {elt tg iter : Expr} {ifs : List Expr} {scope : Scope} {own : List (Str × Nat)} {pos spos : Pos} {wi : TI} {ww : WI} {js : List Nat} {g : TG} {wg : WG} {tt : TT} {wt : WT} {te : TE} {we : WE} (hc : X.calm = true) (hN : X.N.Nodup) (hy : X.N[i]? = some y) (hyl : X.env.scope.names.lookup y = some .local)
    (hsw : swapsWith (.ListComp elt [⟨tg, iter, ifs, 0⟩] scope pos) (some (.Name y py)) spos.line X.env = pure true) (hi : OI X tg iter wi ww) (ok : BlkOk X.N X.env.scope scope own)
    (hg : ∀ (s : Shared) (H : Hp) (C : Addr) (cl : List (Str × Addr)) (fp : List Addr), OG (X.blk s H scope (compEnvC scope cl C X.env) fp) tg js g wg) (ht : ∀ (s : Shared) (H : Hp) (C : Addr) (cl : List (Str × Addr)) (fp : List Addr), OTs (X.blk s H scope (compEnvC scope cl C X.env) fp) ifs tt wt)
    (he : ∀ (s : Shared) (H : Hp) (C : Addr) (cl : List (Str × Addr)) (fp : List Addr), OE (X.blk s H scope (compEnvC scope cl C X.env) fp) elt te we) (hj : ∀ j ∈ js, j ∈ own.map (·.2)) (hs : ∀ x, foldedSetIterable iter X.env x = pure x := by intro _; rfl) :
    OS X (.Assign [.Name y py] (.ListComp elt [⟨tg, iter, ifs, 0⟩] scope pos) spos) (tAsg (tLc wi g tt te (own.map (·.2))) (gName i)) (wSet (wLc ww wg wt we (own.map (·.2))) i) :=
  ⟨ps_setLc hc hN hy hyl hsw hi.pe ok (fun s H C cl fp => (hg s H C cl fp).pe) (fun s H C cl fp => (ht s H C cl fp).pe) (fun s H C cl fp => (he s H C cl fp).pe) hs,
    fun Z σ H Γ Ω O D okk en w k => se_lc hi.se (hg X.s_0 X.H_0 0 [] []).se (ht X.s_0 X.H_0 0 [] []).se (he X.s_0 X.H_0 0 [] []).se hj Z σ H Γ Ω _ _ okk en w fun v s Ω1 H1 o1 f1 r1 p => k.nx _ _ _ _ o1 f1 ((en.frm f1 okk).set r1) p⟩
end

/-! ### seeing things another way: a thing of the store as data from now on; a thing let go -/
def Vw (s : S) (Ω : Om) (s' : S) (Ω' : Om) : Prop := ∀ K Z H v, Ok K Z Ω H → Rep K (mu Z Ω) H v s → Ok K Z Ω' H ∧ Frm Ω H Ω' H ∧ Rep K (mu Z Ω') H v s'
theorem Vw.refl {s : S} {Ω : Om} : Vw s Ω s Ω := fun K Z H v o r => ⟨o, .refl, r⟩
theorem Vw.trans {s s1 s2 : S} {Ω Ω1 Ω2 : Om} (a : Vw s Ω s1 Ω1) (b : Vw s1 Ω1 s2 Ω2) : Vw s Ω s2 Ω2 := fun K Z H v o r => by
  obtain ⟨o1, f1, r1⟩ := a K Z H v o r
  obtain ⟨o2, f2, r2⟩ := b K Z H v o1 r1
  exact ⟨o2, f1.trans f2, r2⟩
theorem Vw.drop {s : S} {Ω : Om} {a : Addr} : Vw s Ω s (drp Ω a) := fun K Z H v o r => ⟨o.drp, frm_drp, frm_drp.rep o r⟩
theorem rep_frz {K : PySem.W.Frag} {Z : Addr → Prop} {Ω : Om} {H : Hp} {a : Addr} {ss : List S} (o : Ok K Z Ω H) (h : Ω a = some (.lst ss)) : Rep K (mu Z (drp Ω a)) H (.ref a) (.lst ss) := by
  obtain ⟨xs, h1, h2⟩ := o.cells a _ h
  refine .lst ?_ h1 (frm_drp.repL o h2)
  rintro (q | q)
  · rw [(o.hid a q).1] at h; cases h
  · rw [drp_same] at q; exact q rfl
theorem Vw.freeze {Ω : Om} {a : Addr} {ss : List S} (h : Ω a = some (.lst ss)) : Vw (.adr a) Ω (.lst ss) (drp Ω a) := fun K Z H v o r => by
  cases r
  exact ⟨o.drp, frm_drp, rep_frz o h⟩
/-- behind a return -/
def seen (P : WP) : WP := fun s Ω => ∃ s' Ω', Vw s Ω s' Ω' ∧ P s' Ω'
theorem Fin.seen {K : PySem.W.Frag} {Z : Addr → Prop} {Ω : Om} {H : Hp} {P : WP} {Q : VK} (k : Fin K Z Ω H P Q) : Fin K Z Ω H (seen P) Q := fun v s Ω' H' o f r ⟨s2, Ω2, vw, p⟩ => by
  obtain ⟨o2, f2, r2⟩ := vw K Z H' v o r
  exact k v s2 Ω2 H' o2 (f.trans f2) r2 p
/-- a block begun with another way of seeing -/
def VwE (Γ : Ga) (Ω : Om) (Γ' : Ga) (Ω' : Om) : Prop := ∀ K Z H σ, Ok K Z Ω H → Env K Z Ω H σ Γ → Ok K Z Ω' H ∧ Frm Ω H Ω' H ∧ Env K Z Ω' H σ Γ'
theorem VwE.refl {Γ : Ga} {Ω : Om} : VwE Γ Ω Γ Ω := fun K Z H σ o e => ⟨o, .refl, e⟩
theorem VwE.trans {Γ Γ1 Γ2 : Ga} {Ω Ω1 Ω2 : Om} (a : VwE Γ Ω Γ1 Ω1) (b : VwE Γ1 Ω1 Γ2 Ω2) : VwE Γ Ω Γ2 Ω2 := fun K Z H σ o e => by
  obtain ⟨o1, f1, e1⟩ := a K Z H σ o e
  obtain ⟨o2, f2, e2⟩ := b K Z H σ o1 e1
  exact ⟨o2, f1.trans f2, e2⟩
theorem VwE.drop {Γ : Ga} {Ω : Om} {a : Addr} : VwE Γ Ω Γ (drp Ω a) := fun K Z H σ o e => ⟨o.drp, frm_drp, e.frm frm_drp o⟩
theorem VwE.freeze {Γ : Ga} {Ω : Om} {i : Nat} {a : Addr} {ss : List S} (hi : gt Γ i = some (.adr a)) (h : Ω a = some (.lst ss)) : VwE Γ Ω (st Γ i (some (.lst ss))) (drp Ω a) := fun K Z H σ o e => by
  refine ⟨o.drp, frm_drp, ?_⟩
  have e2 := e.frm (frm_drp (a := a)) o
  obtain ⟨v, h1, h2⟩ := e.at_ i _ hi
  cases h2
  refine ⟨by rw [st_len]; exact e2.len, fun j u hj => ?_⟩
  rcases gt_st hj with ⟨rfl, e3⟩ | ⟨ne, e3⟩
  · cases e3
    exact ⟨_, h1, rep_frz o h⟩
  · exact e2.at_ j u e3
def wView (w : WS) : WS := fun O Γ Ω => ∃ Γ' Ω', VwE Γ Ω Γ' Ω' ∧ w O Γ' Ω'
theorem oss_view {X : Cx} {sts : List Stmt} {t : TS} {w : WS} (h : OSs X sts t w) : OSs X sts t (wView w) := ⟨h.pe, fun Z σ H Γ Ω O D ok en ⟨Γ', Ω', v, w⟩ k => by
  obtain ⟨o1, f1, e1⟩ := v X.K Z H σ ok en
  exact h.se Z σ H Γ' Ω' O D o1 e1 w (k.frm f1)⟩

/-! ### cuts: what is wanted of a part, and what follows from that alone -/
def wCutS (w : WS) : WS := fun O Γ Ω => ∃ O' : OEnds, w O' Γ Ω ∧ (∀ Γ Ω, O'.nx Γ Ω → O.nx Γ Ω) ∧ (∀ s Ω, O'.rt s Ω → O.rt s Ω) ∧ (∀ Γ Ω, O'.bk Γ Ω → O.bk Γ Ω) ∧ (∀ Γ Ω, O'.ct Γ Ω → O.ct Γ Ω)
theorem os_cut {X : Cx} {s : Stmt} {t : TS} {w : WS} (h : OS X s t w) : OS X s t (wCutS w) := ⟨h.pe, fun Z σ H Γ Ω O D ok en ⟨O', w, h1, h2, h3, h4⟩ k =>
  h.se Z σ H Γ Ω O' D ok en w ⟨fun σ' Γ' Ω' H' o f e p => k.nx σ' Γ' Ω' H' o f e (h1 _ _ p), fun v s Ω' H' o f r p => k.rt v s Ω' H' o f r (h2 _ _ p), fun σ' Γ' Ω' H' o f e p => k.bk σ' Γ' Ω' H' o f e (h3 _ _ p), fun σ' Γ' Ω' H' o f e p => k.ct σ' Γ' Ω' H' o f e (h4 _ _ p)⟩⟩
def wCut (w : WE) : WE := fun Γ Ω P => ∃ P' : WP, w Γ Ω P' ∧ ∀ s Ω, P' s Ω → P s Ω
theorem oe_cut {X : Cx} {e : Expr} {t : TE} {w : WE} (h : OE X e t w) : OE X e t (wCut w) := ⟨h.pe, fun Z σ H Γ Ω P Q ok en ⟨P', w, h1⟩ k => h.se Z σ H Γ Ω P' Q ok en w fun v s Ω' H' o f r p => k v s Ω' H' o f r (h1 _ _ p)⟩
def wCutT (w : WT) : WT := fun Γ Ω P => ∃ P' : Bool → Om → Prop, w Γ Ω P' ∧ ∀ s Ω, P' s Ω → P s Ω
theorem ot_cut {X : Cx} {e : Expr} {t : TT} {w : WT} (h : OT X e t w) : OT X e t (wCutT w) := ⟨h.pe, fun Z σ H Γ Ω P Q ok en ⟨P', w, h1⟩ k => h.se Z σ H Γ Ω P' Q ok en w fun b Ω' H' o f p => k b Ω' H' o f (h1 _ _ p)⟩

/-! ### defs -/
abbrev WF := List S → Om → WP → Prop
def spO (K : PySem.W.Frag) (W : WF) : Sp := fun vs H Q _ => ∃ Z Ω ss P, Ok K Z Ω H ∧ RepL K (mu Z Ω) H vs ss ∧ W ss Ω P ∧ Fin K Z Ω H P Q
def startG (N : List Str) (ss : List S) : Ga := ss.map some ++ List.replicate (N.length - ss.length) none
theorem gt_app : ∀ {ss : List S} {n i : Nat} {s : S}, gt (ss.map some ++ List.replicate n none) i = some s → ss[i]? = some s
  | [], 0, _, _, h => by cases h
  | [], n + 1, 0, _, h => by cases h
  | [], n + 1, i + 1, s, h => gt_app (ss := []) (n := n) (i := i) (s := s) h
  | x :: r, n, 0, s, h => by
    have h : some x = some s := h
    simpa using h
  | x :: r, n, i + 1, s, h => by
    have q := gt_app (ss := r) (n := n) (i := i) (s := s) h
    simpa using q
theorem env_start {K : PySem.W.Frag} {Z : Addr → Prop} {Ω : Om} {H : Hp} {N : List Str} {vs : List V} {ss : List S} (r : RepL K (mu Z Ω) H vs ss) : Env K Z Ω H (L2.start N vs) (startG N ss) := by
  refine ⟨?_, fun i s h => ?_⟩
  · unfold L2.start startG
    rw [List.length_append, List.length_append, List.length_map, List.length_map, List.length_replicate, List.length_replicate, r.length]
  · have h1 := gt_app h
    obtain ⟨v, h2, h3⟩ := r.get h1
    refine ⟨v, ?_, h3⟩
    have hl := (List.getElem?_eq_some_iff.mp h2).1
    unfold L2.start
    rw [List.getElem?_append_left (by rw [List.length_map]; exact hl), List.getElem?_map, h2]
    rfl
section
variable {P : Program} {w : World} {K : PySem.W.Frag} {mg : Str → Option Value} {base : Heap} {x qual : Str} {params : Arguments} {body : List Stmt} {scope : Scope} {dvs : List V} {kws : List (Str × V)} {f : Addr} {fd : FuncData}
/-- a def keeps its promise -/
theorem fnO {CX : CXT} {N ps : List Str} {k : Nat} {W : WF} {v : WS} (F : FunD K x qual params body scope dvs kws f fd) (S0 : FnScope N ps scope) (len : ∀ ss Ω P, W ss Ω P → ss.length = ps.length)
    (hb : ∀ (cdv : Value) (A : Around) (outer : List PySem.Env) (s : Shared) (H : Hp) (E : XK), Room k (A.deeper (PyProof.Rows.envOfC qual scope s.heap.objs.size f cdv)) → ∃ t, OSs (cxOf CX P w K mg base N qual scope f cdv A outer s H E) body t v)
    (hv : ∀ ss Ω P, W ss Ω P → v { nx := fun _ Ω' => seen P .non Ω', rt := seen P } (startG N ss) Ω) : FnOk P w K mg base CX (k + 1) f fd ps (spO K W) := by
  refine F.ok S0 (fun vs H Q E h => ?_) (fun cdv A outer s H vs Q E hr h => ?_)
  · obtain ⟨Z, Ω, ss, PP, _, r, h, _⟩ := h
    exact r.length.trans (len _ _ _ h)
  · obtain ⟨t, ht⟩ := hb cdv A outer s H E hr
    obtain ⟨Z, Ω, ss, PP, o, r, h, kk⟩ := h
    refine ⟨t, ht.pe, ht.se Z _ H _ Ω _ _ o (env_start r) (hv ss Ω PP h) ⟨fun σ' Γ' Ω' H' o' f' e' p => kk.seen .non .non Ω' H' o' f' .non p, kk.seen, fun _ _ _ _ _ _ _ z => z.elim, fun _ _ _ _ _ _ _ z => z.elim⟩⟩
end
def wCall (W : WF) (w : WA) : WE := fun Γ Ω P => w Γ Ω fun ss Ω1 => W ss Ω1 P
section
variable {X : Cx} {CX : CXT} {k : Nat} {f : Addr} {fd : FuncData} {ps : List Str} {W : WF} {E : XK} {x : Str} {p pos : Pos} {e : Expr} {es : List Expr} {t : TA} {w : WA}
theorem se_call {K : PySem.W.Frag} {t : TA} {w : WA} (h : SA K t w) : SE K (tCall (spO K W) [] E t) (wCall W w) := fun Z σ H Γ Ω P Q ok en ww k => h Z σ H Γ Ω _ _ ok en ww fun vs ss Ω1 H1 o1 f1 r1 w1 =>
  ⟨Z, Ω1, ss, P, o1, by rw [List.append_nil]; exact r1, w1, k.frm f1⟩
theorem oe_call (F : FnOk X.prog X.w X.K X.mg X.base CX k f fd ps (spO X.K W)) (hr : Room k X.A) (hg : Gl X x) (hm : X.mg x = some (.ref f)) (hk : PySem.W.keepIn X.K (.ref f) = true) (hb : Binds X.K fd ps []) (hx : Passes CX X E)
    (ha : OA X (e :: es) t w) (hdb : (x == ("__debug__" : Str)) = false := by decide) (he : starEach (e :: es) X.env = (false, eval e X.env) :: starEach es X.env := by rfl) (hpl : (backTo pos (starEach es X.env)).any (·.1) = false := by rfl) :
    OE X (.Call (.Name x p) (e :: es) [] pos) (tCall (spO X.K W) [] E t) (wCall W w) :=
  ⟨pe_call F hr hg hm hk hb .nil hx ha.pe hdb he hpl, se_call ha.se⟩
end
end Om
/-! Om: defs by name; the steps of a walk. -/
namespace Om
open PySem L2
open PyProof.Rows (b2i)

/-! ### the joined operators -/
def oAddI : W2 := oI (fun _ _ => True) fun i j => .int (i + j)
def oSubI : W2 := oI (fun _ _ => True) fun i j => .int (i - j)
def oMulI : W2 := oI CMul fun i j => .int (i * j)
def oDivI : W2 := oI CDiv fun i j => .int (i / j)
def oModI : W2 := oI (fun _ j => 0 < j) fun i j => .int (i % j)
def oPowI : W2 := oI CPow fun i j => .int (i ^ j.toNat)
def oAdd : W2 := fun a b Ω P => oAddI a b Ω P ∨ (oAddS a b Ω P ∨ (oCatL a b Ω P ∨ (oCatT a b Ω P ∨ oAddB a b Ω P)))
def oMulS : W2 := fun a b Ω P => ∃ x i, a = .str x ∧ b = .int i ∧ i ≤ 1000 ∧ -1000 ≤ i ∧ x.length ≤ 1000 ∧ P (.str ⟨(List.replicate i.toNat x.cps.toList).flatten.toArray⟩) Ω
def oMul : W2 := fun a b Ω P => oMulI a b Ω P ∨ (oRepL a b Ω P ∨ oMulS a b Ω P)
def oLt : W2 := fun a b Ω P => oB (fun i j => decide (i < j)) a b Ω P ∨ oLtS a b Ω P
def oLe : W2 := oB fun i j => decide (i ≤ j)
def oGt : W2 := oB fun i j => decide (j < i)
def oGe : W2 := oB fun i j => decide (j ≤ i)
section
variable {X : Cx}
abbrev rAddU (K : PySem.W.Frag) : R2 := fun x y H Q => rI0 (fun i j => .int (i + j)) x y H Q ∨ ((∃ i j, x = .str i ∧ y = .str j ∧ i.length + j.length ≤ sizeLine ∧ Q (.str (i ++ j)) H) ∨ (rCat x y H Q ∨ (rCatA K x y H Q ∨ ∃ i k, x = .int i ∧ y = .bl k ∧ Q (.int (i + b2i k)) H)))
theorem oo_add {K : PySem.W.Frag} (hK : X.K = K := by rfl) : OO X (binaryOp .Add) (rAddU K) oAdd := by
  subst hK
  exact OO.or oo_addI (OO.or oo_addS (OO.or oo_cat (OO.or oo_catT oo_addB)))
theorem foldl_app (x : List Nat) : ∀ (n : Nat) (a : Array Nat), ((List.replicate n (Array.mk x)).foldl (· ++ ·) a) = ⟨a.toList ++ (List.replicate n x).flatten⟩
  | 0, a => by simp
  | n + 1, a => by
    rw [List.replicate_succ, List.foldl_cons, foldl_app x n, List.replicate_succ, List.flatten_cons]
    simp
theorem op_mulS : OpR X (binaryOp .Mult) (fun x y H Q => ∃ z i, x = .str z ∧ y = .int i ∧ i ≤ 1000 ∧ -1000 ≤ i ∧ z.length ≤ 1000 ∧ Q (.str ⟨(List.replicate i.toNat z.cps.toList).flatten.toArray⟩) H) := by
  intro pins s σ H x y v u Q I rx ry h
  obtain ⟨z, i, rfl, rfl, h1, h2, h3, q⟩ := h
  obtain ⟨t, rfl⟩ := rx
  obtain ⟨t', rfl⟩ := ry
  refine PySem.P.mul_str ?_ ?_ ?_ ?_
  · rw [decide_eq_false (by omega), decide_eq_false (by omega)]; rfl
  · intro h4 h5 h6
    have h7 : (9223372036854775 : Int) ≤ (2 ^ 63 - 1 : Int) / i := Int.le_ediv_of_mul_le (by omega) (by omega)
    omega
  · intro h4 h5
    have h9 : z.length * i.toNat ≤ 1000 * 1000 := Nat.mul_le_mul h3 (by omega)
    have := (by decide : (1000 * 1000 : Nat) ≤ sizeLine)
    show decide (z.length * i.toNat > sizeLine) = false
    exact decide_eq_false (by omega)
  · by_cases h4 : i < 1
    · rw [if_pos h4]
      have e : i.toNat = 0 := by omega
      rw [e] at q
      exact ⟨by decide, .str _, H, I.tok _, ⟨_, rfl⟩, q⟩
    · rw [if_neg h4]
      by_cases h5 : (i == 1 || z.length == 0) = true
      · rw [if_pos h5]
        have e : (⟨(List.replicate i.toNat z.cps.toList).flatten.toArray⟩ : Str) = z := by
          rw [Bool.or_eq_true, beq_iff_eq, beq_iff_eq] at h5
          rcases h5 with h5 | h5
          · subst h5
            simp
          · have e0 : z.cps = #[] := Array.eq_empty_of_size_eq_zero h5
            obtain ⟨c⟩ := z
            simp only at e0
            subst e0
            simp
        rw [e] at q
        exact ⟨.str _, H, I, ⟨_, rfl⟩, q⟩
      · rw [if_neg h5]
        have e : (List.replicate i.toNat z.cps).foldl (· ++ ·) #[] = (List.replicate i.toNat z.cps.toList).flatten.toArray := by
          have q := foldl_app z.cps.toList i.toNat #[]
          simpa using q
        have hl : (⟨(List.replicate i.toNat z.cps.toList).flatten.toArray⟩ : Str).length ≤ sizeLine := by
          show (List.replicate i.toNat z.cps.toList).flatten.toArray.size ≤ sizeLine
          rw [List.size_toArray, List.length_flatten, List.map_replicate, List.sum_replicate_nat]
          have h9 : i.toNat * z.length ≤ 1000 * 1000 := Nat.mul_le_mul (by omega) h3
          have := (by decide : (1000 * 1000 : Nat) ≤ sizeLine)
          have h10 : z.cps.toList.length = z.length := by simp [Str.length]
          rw [h10]
          omega
        rw [e]
        exact ⟨hl, .str _, H, I.tok _, ⟨_, rfl⟩, q⟩
theorem oo_mulS : OO X (binaryOp .Mult) (fun x y H Q => ∃ z i, x = .str z ∧ y = .int i ∧ i ≤ 1000 ∧ -1000 ≤ i ∧ z.length ≤ 1000 ∧ Q (.str ⟨(List.replicate i.toNat z.cps.toList).flatten.toArray⟩) H) oMulS := ⟨op_mulS, fun Z H Ω x y a b P Q ok rx ry ⟨i, j, ea, eb, c1, c2, c3, p⟩ k => by
  subst ea; subst eb
  exact ⟨i, j, rep_str rx, rep_int ry, c1, c2, c3, k.now ok (.str _) p⟩⟩
abbrev rMulU : R2 := fun x y H Q => rI CMul (fun i j => .int (i * j)) x y H Q ∨ (rRep x y H Q ∨ (∃ z i, x = .str z ∧ y = .int i ∧ i ≤ 1000 ∧ -1000 ≤ i ∧ z.length ≤ 1000 ∧ Q (.str ⟨(List.replicate i.toNat z.cps.toList).flatten.toArray⟩) H))
theorem oo_mul : OO X (binaryOp .Mult) rMulU oMul := oo_mulI.or (oo_rep.or oo_mulS)
abbrev rLtU : R2 := fun x y H Q => rI0 (fun i j => .bl (decide (i < j))) x y H Q ∨ ∃ i j, x = .str i ∧ y = .str j ∧ Q (.bl (decide (i.cps.toList < j.cps.toList))) H
theorem oo_ltU : OO X (compareOp .Lt) rLtU oLt := oo_lt.or oo_ltS
end
end Om
/-! Om: defs by name; the steps of a walk. -/
namespace Om
open PySem L2
open PyProof.Rows (b2i)

/-! ### what the top has left, by names -/
structure Top (fa : List He.Fa) (fn : List He.DefD) (K : PySem.W.Frag) (mg : Str → Option Value) : Prop where
  says : He.SaysD fa fn K
  hp : ∃ h : Heap, K.In h ∧ h.Ns mainGlobals mg
section
variable {fa : List He.Fa} {fn : List He.DefD} {K : PySem.W.Frag} {mg : Str → Option Value}
theorem Top.free (T : Top fa fn K mg) (i : Nat) {x : Str} (h : fa[i]? = some (.free x) := by rfl) : mg x = none := by
  obtain ⟨h0, X, G⟩ := T.hp
  exact He.free_ok X G (T.says.fact i h)
theorem Top.glo (T : Top fa fn K mg) (i : Nat) {x : Str} (h : fa[i]? = some (.glo x) := by rfl) : mg x = some (.ref (He.ga K x)) := by
  obtain ⟨h0, X, G⟩ := T.hp
  exact He.glo_ok X G (T.says.fact i h)
/-- a def known by its name -/
structure Kn (P : Program) (w : World) (K : PySem.W.Frag) (mg : Str → Option Value) (base : Heap) (CX : CXT) (k : Nat) (x : Str) (ps : List Str) (W : WF) : Prop where
  ex : ∃ f fd, FnOk P w K mg base CX k f fd ps (spO K W) ∧ mg x = some (.ref f) ∧ PySem.W.keepIn K (.ref f) = true ∧ Binds K fd ps []
theorem kn_of {P : Program} {w : World} {base : Heap} {CX : CXT} {k : Nat} {x : Str} {N ps : List Str} {W : WF} {v : WS} {args : Arguments} {body : List Stmt} {scope : Scope} (T : Top fa fn K mg) (i j : Nat) (hd : fn[i]? = some ⟨(x, none), x, x, args, body, scope, [], []⟩) (hg : fa[j]? = some (.glo x))
    (hbind : ∀ (kV doc pm : Value) (an : Option Addr) (cdv ct : Value) (us : List Value), us.length = ps.length → bindArgs (PySem.W.fnOf x x args body scope .none kV doc pm an cdv ct) ⟨us, []⟩ = pure (ps.zip us))
    (S0 : FnScope N ps scope) (len : ∀ ss Ω P, W ss Ω P → ss.length = ps.length)
    (hb : ∀ (f : Addr) (cdv : Value) (A : Around) (outer : List PySem.Env) (s : Shared) (H : Hp) (E : XK), Room k (A.deeper (PyProof.Rows.envOfC x scope s.heap.objs.size f cdv)) → ∃ t, OSs (cxOf CX P w K mg base N x scope f cdv A outer s H E) body t v)
    (hv : ∀ ss Ω P, W ss Ω P → v { nx := fun _ Ω' => seen P .non Ω', rt := seen P } (startG N ss) Ω) : Kn P w K mg base CX (k + 1) x ps W := by
  obtain ⟨fd, F⟩ := T.says.def_ i hd
  exact ⟨_, fd, fnO F S0 len (fun cdv A outer s H E hr => hb _ cdv A outer s H E hr) hv, T.glo j hg, F.kp, FunD.bindsN F hbind⟩
/-- the same of a def that lets no exception out -/
theorem fnO0 {P : Program} {w : World} {base : Heap} {x qual : Str} {params : Arguments} {body : List Stmt} {scope : Scope} {dvs : List V} {kws : List (Str × V)} {f : Addr} {fd : FuncData} {N ps : List Str} {k : Nat} {W : WF} {v : WS} (F : FunD K x qual params body scope dvs kws f fd) (S0 : FnScope N ps scope) (len : ∀ ss Ω P, W ss Ω P → ss.length = ps.length)
    (hb : ∀ (cdv : Value) (A : Around) (outer : List PySem.Env) (s : Shared) (H : Hp) (E : XK), Room k (A.deeper (PyProof.Rows.envOfC qual scope s.heap.objs.size f cdv)) → ∃ t, OSs (cxOf CX0 P w K mg base N qual scope f cdv A outer s H E).nox body t v)
    (hv : ∀ ss Ω P, W ss Ω P → v { nx := fun _ Ω' => seen P .non Ω', rt := seen P } (startG N ss) Ω) : FnOk P w K mg base CX0 (k + 1) f fd ps (spO K W) :=
  fnO F S0 len (fun cdv A outer s H E hr => by
    obtain ⟨t, ht⟩ := hb cdv A outer s H E hr
    exact ⟨t, ⟨ht.pe.nox, ht.se⟩⟩) hv
theorem kn_of0 {P : Program} {w : World} {base : Heap} {k : Nat} {x : Str} {N ps : List Str} {W : WF} {v : WS} {args : Arguments} {body : List Stmt} {scope : Scope} (T : Top fa fn K mg) (i j : Nat) (hd : fn[i]? = some ⟨(x, none), x, x, args, body, scope, [], []⟩) (hg : fa[j]? = some (.glo x))
    (hbind : ∀ (kV doc pm : Value) (an : Option Addr) (cdv ct : Value) (us : List Value), us.length = ps.length → bindArgs (PySem.W.fnOf x x args body scope .none kV doc pm an cdv ct) ⟨us, []⟩ = pure (ps.zip us))
    (S0 : FnScope N ps scope) (len : ∀ ss Ω P, W ss Ω P → ss.length = ps.length)
    (hb : ∀ (f : Addr) (cdv : Value) (A : Around) (outer : List PySem.Env) (s : Shared) (H : Hp) (E : XK), Room k (A.deeper (PyProof.Rows.envOfC x scope s.heap.objs.size f cdv)) → ∃ t, OSs (cxOf CX0 P w K mg base N x scope f cdv A outer s H E).nox body t v)
    (hv : ∀ ss Ω P, W ss Ω P → v { nx := fun _ Ω' => seen P .non Ω', rt := seen P } (startG N ss) Ω) : Kn P w K mg base CX0 (k + 1) x ps W := by
  obtain ⟨fd, F⟩ := T.says.def_ i hd
  exact ⟨_, fd, fnO0 F S0 len (fun cdv A outer s H E hr => hb _ cdv A outer s H E hr) hv, T.glo j hg, F.kp, FunD.bindsN F hbind⟩
end
section
variable {X : Cx} {CX : CXT} {k : Nat} {ps : List Str} {W : WF} {x : Str} {p pos : Pos} {e : Expr} {es : List Expr} {t : TA} {w : WA}
theorem oe_callK {P : Program} {w0 : World} {K : PySem.W.Frag} {mg : Str → Option Value} {base : Heap} (B : Kn P w0 K mg base CX k x ps W) (hr : Room k X.A) (hg : Gl X x) (hx : Passes CX X E0)
    (ha : OA X (e :: es) t w) (h1 : X.prog = P := by rfl) (h2 : X.w = w0 := by rfl) (h3 : X.K = K := by rfl) (h4 : X.mg = mg := by rfl) (h5 : X.base = base := by rfl)
    (hdb : (x == ("__debug__" : Str)) = false := by decide) (he : starEach (e :: es) X.env = (false, eval e X.env) :: starEach es X.env := by rfl) (hpl : (backTo pos (starEach es X.env)).any (·.1) = false := by rfl) :
    OE X (.Call (.Name x p) (e :: es) [] pos) (tCall (spO K W) [] E0 t) (wCall W w) := by
  subst h1 h2 h3 h4 h5
  obtain ⟨f, fd, F, hm, hk, hb⟩ := B.ex
  exact oe_call F hr hg hm hk hb hx ha hdb he hpl
end

/-! ### steps -/
section
variable {Γ : Ga} {Ω : Om} {P : WP} {s u : S} {wa wb : WE} {wt wu : WT} {o : W2} {i j : Int} {x y : Str} {O : OEnds} {PB : Bool → Om → Prop}
theorem g_var {n : Nat} (h : gt Γ n = some s) (p : P s Ω) : wVar n Γ Ω P := ⟨s, h, p⟩
theorem g_c (p : P s Ω) : wC s Γ Ω P := p
theorem g_op (p : wa Γ Ω fun s Ω1 => wb Γ Ω1 fun s2 Ω2 => o s s2 Ω2 P) : wOp o wa wb Γ Ω P := p
theorem g_test (p : wa Γ Ω fun s Ω1 => ∃ b, s = .bl b ∧ PB b Ω1) : wTest wa Γ Ω PB := p
theorem g_andV (p : wa Γ Ω fun s Ω1 => ∃ c, s = .bl c ∧ if c = true then wb Γ Ω1 P else P (.bl false) Ω1) : wAndV wa wb Γ Ω P := p
theorem g_orV (p : wa Γ Ω fun s Ω1 => ∃ c, s = .bl c ∧ if c = true then P (.bl true) Ω1 else wb Γ Ω1 P) : wOrV wa wb Γ Ω P := p
theorem g_notV (p : wa Γ Ω fun s Ω1 => ∃ c, s = .bl c ∧ P (.bl (!c)) Ω1) : wNotV wa Γ Ω P := p
theorem g_and (p : wt Γ Ω fun c Ω1 => if c = true then wu Γ Ω1 PB else PB false Ω1) : wAnd wt wu Γ Ω PB := p
theorem g_or (p : wt Γ Ω fun c Ω1 => if c = true then PB true Ω1 else wu Γ Ω1 PB) : wOr wt wu Γ Ω PB := p
theorem g_not (p : wt Γ Ω fun c Ω1 => PB (!c) Ω1) : wNot wt Γ Ω PB := p
theorem g_if (p : wt Γ Ω fun c Ω1 => if c = true then wa Γ Ω1 P else wb Γ Ω1 P) : wIf wt wa wb Γ Ω P := p
theorem g_sl {wl wh : WO} (p : wa Γ Ω fun s Ω1 => wl Γ Ω1 fun lo Ω2 => wh Γ Ω2 fun hi Ω3 => oSl s lo hi Ω3 P) : wSl wa wl wh Γ Ω P := p
theorem g_noP {Q : Option Int → Om → Prop} (p : Q none Ω) : wNoP Γ Ω Q := p
theorem g_part {Q : Option Int → Om → Prop} (p : wa Γ Ω fun s Ω1 => ∃ i, s = .int i ∧ Q (some i) Ω1) : wPart wa Γ Ω Q := p
theorem g_nil {Q : List S → Om → Prop} (p : Q [] Ω) : wNil Γ Ω Q := p
theorem g_cons {Q : List S → Om → Prop} {wr : WA} (p : wa Γ Ω fun s Ω1 => wr Γ Ω1 fun ss Ω2 => Q (s :: ss) Ω2) : wCons wa wr Γ Ω Q := p
theorem g_tup {w : WA} (p : w Γ Ω fun ss Ω1 => ss.length ≤ sizeLine ∧ P (.tup ss) Ω1) : wTup w Γ Ω P := p
theorem g_lst {w : WA} (p : w Γ Ω fun ss Ω1 => ss.length ≤ sizeLine ∧ nw ss Ω1 P) : wLst w Γ Ω P := p
theorem g_cb {o : WL} {w : WA} (p : w Γ Ω fun ss Ω1 => o ss Ω1 P) : wCB o w Γ Ω P := p
theorem g_call {W : WF} {w : WA} (p : w Γ Ω fun ss Ω1 => W ss Ω1 P) : wCall W w Γ Ω P := p
theorem g_seq {w v : WS} (p : w { O with nx := v O } Γ Ω) : wSeq w v O Γ Ω := p
theorem g_next (p : O.nx Γ Ω) : wNext O Γ Ω := p
theorem g_brk (p : O.bk Γ Ω) : wBrk O Γ Ω := p
theorem g_cont (p : O.ct Γ Ω) : wCont O Γ Ω := p
theorem g_drop (p : wa Γ Ω fun _ Ω1 => O.nx Γ Ω1) : wDrop wa O Γ Ω := p
theorem g_ret (p : wa Γ Ω O.rt) : wRet wa O Γ Ω := p
theorem g_retN (p : O.rt .non Ω) : wRetN O Γ Ω := p
theorem g_ifS {w v : WS} (p : wt Γ Ω fun b Ω1 => if b = true then w O Γ Ω1 else v O Γ Ω1) : wIfS wt w v O Γ Ω := p
theorem g_set {n : Nat} (p : wa Γ Ω fun s Ω1 => O.nx (st Γ n (some s)) Ω1) : wSet wa n O Γ Ω := p
theorem g_asg {g : WG} (p : wa Γ Ω fun s Ω1 => g s Γ Ω1 O.nx) : wAsg wa g O Γ Ω := p
theorem g_par {m n : Nat} {w : WA} (p : w Γ Ω fun ss Ω1 => ∃ s u, ss = [s, u] ∧ O.nx (st (st Γ m (some s)) n (some u)) Ω1) : wPar m n w O Γ Ω := p
theorem g_par3 {m n l : Nat} {w : WA} (p : w Γ Ω fun ss Ω1 => ∃ s u r, ss = [s, u, r] ∧ O.nx (st (st (st Γ m (some s)) n (some u)) l (some r)) Ω1) : wPar3 m n l w O Γ Ω := p
theorem g_aug {n : Nat} {f : Int → Int → Int} (h : gt Γ n = some (.int i)) (p : wa Γ Ω fun s Ω1 => ∃ m, s = .int m ∧ O.nx (st Γ n (some (.int (f i m)))) Ω1) : wAug n f wa O Γ Ω := ⟨i, h, p⟩
theorem g_name {n : Nat} {Q : Ga → Om → Prop} (p : Q (st Γ n (some s)) Ω) : wgName n s Γ Ω Q := p
theorem g_gtup {n : Nat} {w : WGs} {ss : List S} {Q : Ga → Om → Prop} (h : ss.length = n) (p : w ss Γ Ω Q) : wgTup n w (.tup ss) Γ Ω Q := ⟨ss, rfl, h, p⟩
theorem g_gcons {w : WG} {v : WGs} {ss : List S} {Q : Ga → Om → Prop} (p : w s Γ Ω fun Γ1 Ω1 => v ss Γ1 Ω1 Q) : wgCons w v (s :: ss) Γ Ω Q := ⟨s, ss, rfl, p⟩
theorem g_gnil {Q : Ga → Om → Prop} (p : Q Γ Ω) : wgNil [] Γ Ω Q := ⟨rfl, p⟩
theorem g_gsub {wo wi : WE} {Q : Ga → Om → Prop} (p : wo Γ Ω fun o Ω1 => wi Γ Ω1 fun i Ω2 => subAt Q s Γ o i Ω2) : wgSub wo wi s Γ Ω Q := p
theorem g_at {p : Addr} {xs : List S} {k : Int} {j : Nat} {Q : Ga → Om → Prop} (hp : Ω p = some (.lst xs)) (hj : ixN xs.length k = some j) (q : Q Γ (put Ω p (.lst (xs.set j s)))) : subAt Q s Γ (.adr p) (.int k) Ω := ⟨p, xs, k, j, rfl, rfl, hp, hj, q⟩
theorem g_yes {Q : Bool → Om → Prop} (p : Q true Ω) : wYes Γ Ω Q := p
theorem g_for {ww : WI} {wg : WG} {w : WS} (p : ww Γ Ω fun ss G Ω1 => forAt wg w O Γ ss G Ω1) : wFor ww wg w O Γ Ω := p
theorem g_forP {ss : List S} {G : Om → Prop} {wg : WG} {w : WS} (Pv : Nat → Ga → Om → Prop) (hG : ∀ i Γ' Ω', i ≤ ss.length → Pv i Γ' Ω' → G Ω') (h0 : Pv 0 Γ Ω)
  (hs : ∀ (i : Nat) s Γ' Ω', ss[i]? = some s → Pv i Γ' Ω' → wg s Γ' Ω' fun Γ2 Ω2 => w { O with nx := Pv (i + 1), ct := Pv (i + 1), bk := O.nx } Γ2 Ω2) (hd : ∀ Γ' Ω', Pv ss.length Γ' Ω' → O.nx Γ' Ω') : forAt wg w O Γ ss G Ω := ⟨Pv, h0, hG, hs, hd⟩
theorem g_lc {ww : WI} {wg : WG} {wt : WT} {we : WE} {vs : List Nat} (p : ww Γ Ω fun ss G Ω1 => lcAt wg wt we (wipeG Γ vs) P ss G Ω1) : wLc ww wg wt we vs Γ Ω P := p
theorem g_lcP {ss : List S} {G : Om → Prop} {wg : WG} {wt : WT} {we : WE} (Pv : Nat → List S → Om → Prop) (hG : ∀ i acc Ω', i ≤ ss.length → Pv i acc Ω' → G Ω') (h0 : Pv 0 [] Ω)
  (hs : ∀ (i : Nat) s acc Ω', ss[i]? = some s → Pv i acc Ω' → wg s Γ Ω' fun Γ2 Ω2 => wt Γ2 Ω2 fun b Ω3 => if b = true then we Γ2 Ω3 fun y Ω4 => acc.length < sizeLine ∧ Pv (i + 1) (acc ++ [y]) Ω4 else Pv (i + 1) acc Ω3) (hd : ∀ acc Ω', Pv ss.length acc Ω' → nw acc Ω' P) : lcAt wg wt we Γ P ss G Ω := ⟨Pv, h0, hG, hs, hd⟩
/-- no test, each element one value, the store as it was: a map -/
theorem g_map {ss : List S} {G : Om → Prop} {wg : WG} {we : WE} (f : S → S) (hG : G Ω) (hl : ss.length < sizeLine) (hs : ∀ (i : Nat) s, ss[i]? = some s → ∀ Q : WP, Q (f s) Ω → wg s Γ Ω fun Γ2 Ω2 => we Γ2 Ω2 Q) (hd : nw (ss.map f) Ω P) : lcAt wg wYes we Γ P ss G Ω := by
  refine ⟨fun n acc Ω' => n ≤ ss.length ∧ acc = (ss.take n).map f ∧ Ω' = Ω, ⟨Nat.zero_le _, rfl, rfl⟩, fun n acc Ω' _ h => by rw [h.2.2]; exact hG, ?_, ?_⟩
  · rintro n s acc Ω' hi ⟨h0, rfl, rfl⟩
    have hlt := (List.getElem?_eq_some_iff.mp hi).1
    have e2 : (ss.take n).map f ++ [f s] = (ss.take (n + 1)).map f := by
      rw [List.take_succ, hi, List.map_append]
      rfl
    refine hs n s hi (fun y Ω4 => ((ss.take n).map f).length < sizeLine ∧ n + 1 ≤ ss.length ∧ (ss.take n).map f ++ [y] = (ss.take (n + 1)).map f ∧ Ω4 = Ω') ⟨?_, hlt, e2, rfl⟩
    rw [List.length_map, List.length_take]
    omega
  · rintro acc Ω' ⟨_, rfl, rfl⟩
    rw [List.take_length]
    exact hd
theorem g_rng1 {w : WA} {Q : WQ} (p : w Γ Ω fun ss Ω1 => rngAt1 Q ss Ω1) : wiRng1 w Γ Ω Q := p
theorem g_rng1P {Q : WQ} (h1 : -(2 ^ 62) ≤ i) (h2 : i < 2 ^ 62) (p : Q (ups 0 i.toNat) (fun _ => True) Ω) : rngAt1 Q [.int i] Ω := ⟨i, rfl, h1, h2, p⟩
theorem g_rng2 {w : WA} {Q : WQ} (p : w Γ Ω fun ss Ω1 => rngAt2 Q ss Ω1) : wiRng2 w Γ Ω Q := p
theorem g_rng2P {Q : WQ} (h : -(2 ^ 62) ≤ i ∧ i < 2 ^ 62 ∧ -(2 ^ 62) ≤ j ∧ j < 2 ^ 62) (p : Q (ups i (j - i).toNat) (fun _ => True) Ω) : rngAt2 Q [.int i, .int j] Ω := ⟨i, j, rfl, h, p⟩
theorem g_down {Q : WQ} (p : wa Γ Ω fun s Ω1 => downAt Q s Ω1) : wiDown wa Γ Ω Q := p
theorem g_downP {Q : WQ} (h1 : -(2 ^ 62) ≤ i) (h2 : i < 2 ^ 62) (p : Q (downs i.toNat) (fun _ => True) Ω) : downAt Q (.int i) Ω := ⟨i, rfl, h1, h2, p⟩
theorem g_seqI {Q : WQ} (p : wa Γ Ω fun s Ω1 => seqAt Q s Ω1) : wiSeq wa Γ Ω Q := p
theorem g_seqL {xs : List S} {Q : WQ} (h : asL Ω s = some xs) (p : Q xs (seqG s xs) Ω) : seqAt Q s Ω := .inl ⟨xs, h, p⟩
theorem g_seqT {xs : List S} {Q : WQ} (p : Q xs (fun _ => True) Ω) : seqAt Q (.tup xs) Ω := .inr ⟨xs, rfl, p⟩
theorem g_enumI {w : WA} {Q : WQ} (p : w Γ Ω fun as Ω1 => enumAt Q as Ω1) : wiEnum w Γ Ω Q := p
theorem g_enumP {xs : List S} {Q : WQ} (h : asL Ω s = some xs) (p : Q (enumL 0 xs) (seqG s xs) Ω) : enumAt Q [s] Ω := ⟨s, xs, rfl, h, p⟩
theorem g_zipI {w : WA} {Q : WQ} (p : w Γ Ω fun as Ω1 => zipAt Q as Ω1) : wiZip w Γ Ω Q := p
theorem g_zipP {xs ys : List S} {Q : WQ} (h : asL Ω s = some xs) (h2 : asL Ω u = some ys) (p : Q (zipL xs ys) (fun Ω' => seqG s xs Ω' ∧ seqG u ys Ω') Ω) : zipAt Q [s, u] Ω := ⟨s, u, xs, ys, rfl, h, h2, p⟩
theorem seqG_lst {xs ys : List S} : seqG (.lst xs) ys Ω := fun a h => nomatch h
theorem seqG_wls {xs ys : List S} : seqG (.wls xs) ys Ω := fun a h => nomatch h
theorem seqG_adr {a : Addr} {ys : List S} (h : Ω a = some (.lst ys)) : seqG (.adr a) ys Ω := fun b e => by cases e; exact h

theorem g_ite {c : Prop} [Decidable c] {A B : Prop} (h1 : c → A) (h2 : ¬ c → B) : if decide c = true then A else B := by
  by_cases h : c
  · rw [decide_eq_true h, if_pos rfl]; exact h1 h
  · rw [decide_eq_false h, if_neg Bool.false_ne_true]; exact h2 h
theorem g_iteN {c : Prop} [Decidable c] {A B : Prop} (h1 : ¬ c → A) (h2 : c → B) : if (!decide c) = true then A else B := by
  by_cases h : c
  · rw [decide_eq_true h]; exact h2 h
  · rw [decide_eq_false h]; exact h1 h
theorem g_ifT {c : Bool} {A B : Prop} (h : c = true) (a : A) : if c = true then A else B := by rw [if_pos h]; exact a
theorem g_ifF {c : Bool} {A B : Prop} (h : c = false) (b : B) : if c = true then A else B := by rw [h]; exact b
theorem g_T {A B : Prop} (h : A) : if true = true then A else B := h
theorem g_F {A B : Prop} (h : B) : if false = true then A else B := h

/-! operators by the kinds of their values -/
theorem g_addI (p : P (.int (i + j)) Ω) : oAdd (.int i) (.int j) Ω P := .inl ⟨i, j, rfl, rfl, trivial, p⟩
theorem g_addS (h : x.length + y.length ≤ sizeLine) (p : P (.str (x ++ y)) Ω) : oAdd (.str x) (.str y) Ω P := .inr (.inl ⟨x, y, rfl, rfl, h, p⟩)
theorem g_addL {xs ys : List S} (h1 : asK Ω s = some xs) (h2 : asK Ω u = some ys) (h : xs.length + ys.length ≤ sizeLine) (p : nw (xs ++ ys) Ω P) : oAdd s u Ω P := .inr (.inr (.inl ⟨xs, ys, h1, h2, h, p⟩))
theorem g_addT {xs ys : List S} (h : xs.length + ys.length ≤ sizeLine) (p : P (.tup (xs ++ ys)) Ω) : oAdd (.tup xs) (.tup ys) Ω P := .inr (.inr (.inr (.inl ⟨xs, ys, rfl, rfl, h, p⟩)))
theorem g_addB {b : Bool} (p : P (.int (i + b2i b)) Ω) : oAdd (.int i) (.bl b) Ω P := .inr (.inr (.inr (.inr ⟨i, b, rfl, rfl, p⟩)))
theorem g_subI (p : P (.int (i - j)) Ω) : oSubI (.int i) (.int j) Ω P := ⟨i, j, rfl, rfl, trivial, p⟩
theorem g_mulI (h : (-(2 ^ 64) < i ∧ i < 2 ^ 64) ∨ (-(2 ^ 64) < j ∧ j < 2 ^ 64)) (p : P (.int (i * j)) Ω) : oMul (.int i) (.int j) Ω P := .inl ⟨i, j, rfl, rfl, h, p⟩
theorem g_divI (h : 0 < j ∧ j < 1073741824) (p : P (.int (i / j)) Ω) : oDivI (.int i) (.int j) Ω P := ⟨i, j, rfl, rfl, h, p⟩
theorem g_modI (h : 0 < j) (p : P (.int (i % j)) Ω) : oModI (.int i) (.int j) Ω P := ⟨i, j, rfl, rfl, h, p⟩
theorem g_powI (h : 0 ≤ j ∧ j ≤ 1000000 ∧ i.natAbs < 2 ^ 64) (p : P (.int (i ^ j.toNat)) Ω) : oPowI (.int i) (.int j) Ω P := ⟨i, j, rfl, rfl, h, p⟩
theorem g_ltI (p : P (.bl (decide (i < j))) Ω) : oLt (.int i) (.int j) Ω P := .inl ⟨i, j, rfl, rfl, trivial, p⟩
theorem g_ltS (p : P (.bl (decide (x.cps.toList < y.cps.toList))) Ω) : oLt (.str x) (.str y) Ω P := .inr ⟨x, y, rfl, rfl, p⟩
theorem g_leI (p : P (.bl (decide (i ≤ j))) Ω) : oLe (.int i) (.int j) Ω P := ⟨i, j, rfl, rfl, trivial, p⟩
theorem g_gtI (p : P (.bl (decide (j < i))) Ω) : oGt (.int i) (.int j) Ω P := ⟨i, j, rfl, rfl, trivial, p⟩
theorem g_geI (p : P (.bl (decide (j ≤ i))) Ω) : oGe (.int i) (.int j) Ω P := ⟨i, j, rfl, rfl, trivial, p⟩
theorem g_eqI (p : P (.bl (decide (i = j))) Ω) : oEq (.int i) (.int j) Ω P := .inl ⟨_, .ii i j, p⟩
theorem g_eqS (p : P (.bl (decide (x = y))) Ω) : oEq (.str x) (.str y) Ω P := .inl ⟨_, .ss x y, p⟩
theorem g_eqB {b c : Bool} (p : P (.bl (decide (b = c))) Ω) : oEq (.bl b) (.bl c) Ω P := .inl ⟨_, .bb b c, p⟩
theorem g_neI (p : P (.bl (!decide (i = j))) Ω) : oNe (.int i) (.int j) Ω P := .inl ⟨_, .ii i j, p⟩
theorem g_neS (p : P (.bl (!decide (x = y))) Ω) : oNe (.str x) (.str y) Ω P := .inl ⟨_, .ss x y, p⟩
theorem g_neB {b c : Bool} (p : P (.bl (!decide (b = c))) Ω) : oNe (.bl b) (.bl c) Ω P := .inl ⟨_, .bb b c, p⟩
theorem g_eqD (h1 : eqOk s) (h2 : eqOk u) (p : P (.bl (PyData.eqv (toD s) (toD u))) Ω) : oEq s u Ω P := .inr ⟨h1, h2, p⟩
theorem g_neD (h1 : eqOk s) (h2 : eqOk u) (p : P (.bl (!PyData.eqv (toD s) (toD u))) Ω) : oNe s u Ω P := .inr ⟨h1, h2, p⟩
theorem asQ_adr {a : Addr} {xs : List S} (h : Ω a = some (.lst xs)) : asQ Ω (.adr a) = some xs := asL_adr h
theorem asK_adr {a : Addr} {xs : List S} (h : Ω a = some (.lst xs)) : asK Ω (.adr a) = some xs := asL_adr h
theorem g_ix {xs : List S} (h : asQ Ω s = some xs) (h2 : atI xs i = some u) (p : P u Ω) : oIx s (.int i) Ω P := .inl ⟨xs, i, u, h, rfl, h2, p⟩
theorem g_ixS {c : Nat} (h : x.length ≤ sizeLine) (h2 : atI x.cps.toList i = some c) (p : P (.str ⟨#[c]⟩) Ω) : oIx (.str x) (.int i) Ω P := .inr ⟨x, i, c, rfl, rfl, h, h2, p⟩
theorem g_slL {xs : List S} {lo hi : Option Int} (h : asL Ω s = some xs) (p : nw (cutL xs lo hi) Ω P) : oSl s lo hi Ω P := .inl ⟨xs, h, p⟩
theorem g_slT {xs : List S} {lo hi : Option Int} (p : P (.tup (cutL xs lo hi)) Ω) : oSl (.tup xs) lo hi Ω P := .inr (.inl ⟨xs, rfl, p⟩)
theorem g_rev (p : wa Γ Ω fun s Ω1 => ∃ xs, asL Ω1 s = some xs ∧ nw xs.reverse Ω1 P) : wRev wa Γ Ω P := p
theorem g_len {xs : List S} (h : asQ Ω s = some xs) (p : P (.int xs.length) Ω) : oLen [s] Ω P := .inl ⟨s, xs, rfl, h, p⟩
theorem g_lenS (h : x.length ≤ sizeLine) (p : P (.int x.length) Ω) : oLen [.str x] Ω P := .inr ⟨x, rfl, h, p⟩
theorem g_abs (p : P (.int (if i < 0 then -i else i)) Ω) : oAbs [.int i] Ω P := ⟨i, rfl, p⟩
theorem g_max (p : P (.int (if j > i then j else i)) Ω) : oMax [.int i, .int j] Ω P := ⟨i, j, rfl, p⟩
theorem g_min (p : P (.int (if j < i then j else i)) Ω) : oMin [.int i, .int j] Ω P := ⟨i, j, rfl, p⟩
theorem g_divmod (h : 0 < j ∧ j < 1073741824) (p : P (.tup [.int (i / j), .int (i % j)]) Ω) : oDivmod [.int i, .int j] Ω P := ⟨i, j, rfl, h, p⟩
theorem g_intI (p : P (.int i) Ω) : oInt [.int i] Ω P := .inl ⟨i, rfl, p⟩
theorem g_intB {b : Bool} (p : P (.int (b2i b)) Ω) : oInt [.bl b] Ω P := .inr ⟨b, rfl, p⟩
theorem g_list {xs : List S} (h : asQ Ω s = some xs) (p : nw xs Ω P) : oList [s] Ω P := ⟨s, xs, rfl, h, p⟩
theorem g_any {bs : List Bool} (h : asL Ω s = some (bs.map S.bl)) (p : P (.bl (bs.any id)) Ω) : oAny [s] Ω P := ⟨s, bs, rfl, h, p⟩
theorem g_all {bs : List Bool} (h : asL Ω s = some (bs.map S.bl)) (p : P (.bl (bs.all id)) Ω) : oAll [s] Ω P := ⟨s, bs, rfl, h, p⟩
theorem g_data {ss : List S} (p : P (.lst ss) Ω) : nw ss Ω P := .inl p
theorem g_cell {ss : List S} (p : ∀ a, Ω a = none → P (.adr a) (put Ω a (.lst ss))) : nw ss Ω P := .inr p
end
end Om
/-! Om: more rules. -/
namespace Om
open PySem L2
open PyProof.Rows (b2i)
section
variable {X : Cx}
theorem ogs_c {e : Expr} {es : List Expr} {js ls : List Nat} {g : TG} {gs : TGs} {w : WG} {x : WGs} (h : OG X e js g w) (r : OGs X es ls gs x) (hs : (assignEach (e :: es) X.env).map (·.2) = assign e X.env :: (assignEach es X.env).map (·.2) := by rfl) :
    OGs X (e :: es) (js ++ ls) (gCons g gs) (wgCons w x) := ogs_cons h r (pgs_cons h.pe r.pe hs)
def appAt2 (O : OEnds) (Γ : Ga) (p : Addr) (y : S) (Ω2 : Om) : Prop := ∃ xs, Ω2 p = some (.lst xs) ∧ xs.length < sizeLine ∧ O.nx Γ (put Ω2 p (.lst (xs ++ [y])))
def appAt1 (we : WE) (O : OEnds) (Γ : Ga) (o : S) (Ω1 : Om) : Prop := ∃ p zs, o = .adr p ∧ Ω1 p = some (.lst zs) ∧ we Γ Ω1 fun y Ω2 => appAt2 O Γ p y Ω2
def wAppend (wo we : WE) : WS := fun O Γ Ω => wo Γ Ω fun o Ω1 => appAt1 we O Γ o Ω1
theorem os_append {K : PySem.W.Frag} {o e : Expr} {to te : TE} {wo we : WE} {apos cpos pos : Pos} (ho : OE X o to wo) (he : OE X e te we)
    (hbase : attributeBase o "append" X.env (eval o X.env) = eval o X.env := by rfl)
    (hfew : ((backTo cpos (starEach [e] X.env)).all (fun x => !x.1) && (backToKw cpos (keywordEach [] X.env)).all (fun x => x.1.isSome)
      && decide ([e].length + ([] : List Keyword).length + (if ([] : List Keyword).isEmpty then 0 else 1) < 30)) = true := by rfl)
    (hline : (apos.endLine == cpos.line) = true := by rfl) (hst : starEach [e] X.env = (false, eval e X.env) :: starEach [] X.env := by rfl) (hplain : (backTo cpos (starEach [] X.env)).any (·.1) = false := by rfl)
    (hs : swapsWith (.Call (.Attribute o "append" apos) [e] [] cpos) none pos.line X.env = pure false := by rfl) (hK : X.K = K := by rfl) : OS X (.Expr (.Call (.Attribute o "append" apos) [e] [] cpos) pos) (tDrop (tBM K "list" rAppend to (tCons te tNil))) (wAppend wo we) := by
  subst hK
  exact ⟨ps_expr (pe_bm PySem.F.plainAttrs_list PySem.F.slot_list_append PySem.F.type_list_append mt_append ho.pe (pa_cons he.pe pa_nil hst) hbase hfew hline hst hplain) hs, fun Z σ H Γ Ω O D ok en w k => ho.se Z σ H Γ Ω _ _ ok en w fun v s Ω1 H1 o1 f1 r1 ⟨p, zs, es, hz, w1⟩ => by
    subst es
    cases r1
    obtain ⟨ys, h2, r2⟩ := o1.cells p _ hz
    refine ⟨.inl ⟨rfl, ys, .inl (.inl h2)⟩, he.se Z σ H1 Γ Ω1 _ _ o1 (en.frm f1 ok) w1 fun y u Ω2 H2 o2 f2 r3 ⟨xs, hx, hl, q⟩ => ?_⟩
    obtain ⟨us, h4, r4⟩ := o2.cells p _ hx
    refine ⟨p, us, y, rfl, rfl, h4, by rw [r4.length]; exact hl, ?_⟩
    have fm : Frm Ω2 H2 (put Ω2 p (.lst (xs ++ [u]))) (upd H2 p (.lst (us ++ [y]))) := frm_mut hx
    have om : Ok X.K Z (put Ω2 p (.lst (xs ++ [u]))) (upd H2 p (.lst (us ++ [y]))) := o2.mut (d := .lst (xs ++ [u])) hx ⟨_, upd_same, repL_upd hx (r4.append (.cons r3 .nil))⟩
    exact k.nx _ _ _ _ om ((f1.trans f2).trans fm) (((en.frm f1 ok).frm f2 o1).frm fm o2) q⟩
theorem g_append {Γ : Ga} {Ω : Om} {O : OEnds} {wo we : WE} (p : wo Γ Ω fun o Ω1 => appAt1 we O Γ o Ω1) : wAppend wo we O Γ Ω := p
theorem g_app1 {Γ : Ga} {Ω : Om} {O : OEnds} {we : WE} {p : Addr} {zs : List S} (hp : Ω p = some (.lst zs)) (q : we Γ Ω fun y Ω2 => appAt2 O Γ p y Ω2) : appAt1 we O Γ (.adr p) Ω := ⟨p, zs, rfl, hp, q⟩
theorem g_app2 {Γ : Ga} {Ω : Om} {O : OEnds} {p : Addr} {xs : List S} {y : S} (hp : Ω p = some (.lst xs)) (hl : xs.length < sizeLine) (q : O.nx Γ (put Ω p (.lst (xs ++ [y])))) : appAt2 O Γ p y Ω := ⟨xs, hp, hl, q⟩

/-! ### isinstance -/
/-- the built-in class of a thing that is data, or of the store -/
inductive TyS (Ω : Om) : S → String → Prop
  | non : TyS Ω .non "NoneType"
  | bl (b : Bool) : TyS Ω (.bl b) "bool"
  | int (i : Int) : TyS Ω (.int i) "int"
  | str (x : Str) : TyS Ω (.str x) "str"
  | lst (xs : List S) : TyS Ω (.lst xs) "list"
  | adr {a : Addr} {xs : List S} (h : Ω a = some (.lst xs)) : TyS Ω (.adr a) "list"
  | tup (xs : List S) : TyS Ω (.tup xs) "tuple"
theorem TyS.x {K : PySem.W.Frag} {Z : Addr → Prop} {Ω : Om} {H : Hp} {v : V} {s : S} {n : String} (h : TyS Ω s n) (o : Ok K Z Ω H) (r : Rep K (mu Z Ω) H v s) : TyX K H v (.type n) := by
  cases h with
  | non => cases r; exact .base .non
  | bl b => cases r; exact .base (.bl b)
  | int b => cases r; exact .base (.int b)
  | str b => cases r; exact .base (.str b)
  | lst b => cases r with | lst _ h _ => exact .base (.lst h)
  | adr h =>
    cases r
    obtain ⟨xs, h1, _⟩ := o.cells _ _ h
    exact .base (.lst h1)
  | tup b =>
    cases r with
    | tup _ h _ => exact .base (.tup h)
    | wt h _ =>
      rcases h (fun _ => none) with (q | ⟨_, q⟩) | ⟨o, _, _, h1, h2, _⟩
      · cases q
      · cases q
      · exact .kTuple h1 h2
def oIsi : WL := fun ss Ω P => (∃ s n m b, ss = [s, .ty m] ∧ TyS Ω s n ∧ kitB n m = some b ∧ P (.bl b) Ω) ∨
  (∃ s n m l b c, ss = [s, .tup [.ty m, .ty l]] ∧ TyS Ω s n ∧ kitB n m = some b ∧ kitB n l = some c ∧ P (.bl (b || c)) Ω)
theorem oc_isi {K : PySem.W.Frag} (hK : X.K = K := by rfl) : OC X (.builtin "isinstance") (fun xs H Q => rIsi K xs H Q ∨ (rIsiT K xs H Q ∨ rIsiK K xs H Q)) oIsi := by
  subst hK
  exact ⟨call_isi.or (call_isiT.or call_isiK), fun Z H Ω xs ss P Q ok r w k => by
  rcases w with ⟨s, n, m, b, e, t, h, p⟩ | ⟨s, n, m, l, b, c, e, t, h, h', p⟩
  · subst e
    obtain ⟨v, w, rfl, r1, r2⟩ := repL2 r
    cases r2
    exact .inl ⟨v, .ty m, .type n, .type m, b, rfl, .ty m, t.x ok r1, kit_ty h, k.now ok (.bl _) p⟩
  · subst e
    obtain ⟨v, w, rfl, r1, r2⟩ := repL2 r
    have kt : PySem.W.kitAny X.K (.type n) [.type m, .type l] = some (b || c) := by
      refine kitAny_cons (kit_ty h) (fun e => ?_) (fun e => by rw [e]; rfl)
      subst e
      refine kitAny_cons (kit_ty h') (fun e => ?_) (fun e => by rw [e]; rfl)
      subst e
      exact kitAny_nil
    cases r2 with
    | tup h0 hh rr =>
      obtain ⟨x, y, rfl, q1, q2⟩ := repL2 rr
      cases q1; cases q2
      exact .inr (.inl ⟨v, _, [.ty m, .ty l], .type n, [.type m, .type l], b || c, rfl, hh, .cons (.ty m) (.cons (.ty l) .nil), t.x ok r1, kt, k.now ok (.bl _) p⟩)
    | wt hh rr =>
      obtain ⟨x, y, rfl, q1, q2⟩ := repL2 rr
      cases q1; cases q2
      rcases hh (fun _ => none) with (q | ⟨_, q⟩) | ⟨o, its, nn, h1, h2, h3, _, h5⟩
      · cases q
      · cases q
      · obtain ⟨oc, od, dt, osl⟩ := o
        have e1 : oc = .type "tuple" := h2
        have e2 : dt = .seq its nn := h3
        have e3 : its = [Value.type m, Value.type l].toArray := by
          have e4 : its.toList = [Value.type m, Value.type l] := by
            generalize its.toList = zs at h5
            cases h5 with
            | cons q1 q2 =>
              cases q2 with
              | cons q3 q4 =>
                cases q4
                rw [show _ = Value.type m from q1, show _ = Value.type l from q3]
          rw [← e4]
        subst e1 e2 e3
        exact .inr (.inr ⟨v, _, od, [.type m, .type l], nn, osl, .type n, b || c, rfl, h1, t.x ok r1, kt, k.now ok (.bl _) p⟩)⟩
theorem kb_NoneType_int : kitB "NoneType" "int" = some false := by decide +kernel
theorem kb_NoneType_bool : kitB "NoneType" "bool" = some false := by decide +kernel
theorem kb_NoneType_str : kitB "NoneType" "str" = some false := by decide +kernel
theorem kb_NoneType_list : kitB "NoneType" "list" = some false := by decide +kernel
theorem kb_NoneType_tuple : kitB "NoneType" "tuple" = some false := by decide +kernel
theorem kb_bool_int : kitB "bool" "int" = some true := by decide +kernel
theorem kb_bool_bool : kitB "bool" "bool" = some true := by decide +kernel
theorem kb_bool_str : kitB "bool" "str" = some false := by decide +kernel
theorem kb_bool_list : kitB "bool" "list" = some false := by decide +kernel
theorem kb_bool_tuple : kitB "bool" "tuple" = some false := by decide +kernel
theorem kb_int_int : kitB "int" "int" = some true := by decide +kernel
theorem kb_int_bool : kitB "int" "bool" = some false := by decide +kernel
theorem kb_int_str : kitB "int" "str" = some false := by decide +kernel
theorem kb_int_list : kitB "int" "list" = some false := by decide +kernel
theorem kb_int_tuple : kitB "int" "tuple" = some false := by decide +kernel
theorem kb_str_int : kitB "str" "int" = some false := by decide +kernel
theorem kb_str_bool : kitB "str" "bool" = some false := by decide +kernel
theorem kb_str_str : kitB "str" "str" = some true := by decide +kernel
theorem kb_str_list : kitB "str" "list" = some false := by decide +kernel
theorem kb_str_tuple : kitB "str" "tuple" = some false := by decide +kernel
theorem kb_list_int : kitB "list" "int" = some false := by decide +kernel
theorem kb_list_bool : kitB "list" "bool" = some false := by decide +kernel
theorem kb_list_str : kitB "list" "str" = some false := by decide +kernel
theorem kb_list_list : kitB "list" "list" = some true := by decide +kernel
theorem kb_list_tuple : kitB "list" "tuple" = some false := by decide +kernel
theorem kb_tuple_int : kitB "tuple" "int" = some false := by decide +kernel
theorem kb_tuple_bool : kitB "tuple" "bool" = some false := by decide +kernel
theorem kb_tuple_str : kitB "tuple" "str" = some false := by decide +kernel
theorem kb_tuple_list : kitB "tuple" "list" = some false := by decide +kernel
theorem kb_tuple_tuple : kitB "tuple" "tuple" = some true := by decide +kernel
theorem g_isi {Ω : Om} {P : WP} {s : S} {n m : String} {b : Bool} (t : TyS Ω s n) (h : kitB n m = some b) (p : P (.bl b) Ω) : oIsi [s, .ty m] Ω P := .inl ⟨s, n, m, b, rfl, t, h, p⟩
theorem g_isi2 {Ω : Om} {P : WP} {s : S} {n m l : String} {b c : Bool} (t : TyS Ω s n) (h : kitB n m = some b) (h2 : kitB n l = some c) (p : P (.bl (b || c)) Ω) : oIsi [s, .tup [.ty m, .ty l]] Ω P := .inr ⟨s, n, m, l, b, c, rfl, t, h, h2, p⟩
end
end Om
/-! Om: the built-ins' names; what changes; the law's own box of draws. -/
namespace Om
open PySem L2
open PyProof.Rows (b2i)
theorem small_le {n : Nat} (h : n ≤ 100) : n ≤ sizeLine := Nat.le_trans h (by decide)
theorem small_lt : 100000 < sizeLine := by decide
theorem bt_len : bootBuiltins "len" = some (.builtin "len") := by decide +kernel
theorem bt_abs : bootBuiltins "abs" = some (.builtin "abs") := by decide +kernel
theorem bt_max : bootBuiltins "max" = some (.builtin "max") := by decide +kernel
theorem bt_min : bootBuiltins "min" = some (.builtin "min") := by decide +kernel
theorem bt_divmod : bootBuiltins "divmod" = some (.builtin "divmod") := by decide +kernel
theorem bt_any : bootBuiltins "any" = some (.builtin "any") := by decide +kernel
theorem bt_all : bootBuiltins "all" = some (.builtin "all") := by decide +kernel
theorem bt_sum : bootBuiltins "sum" = some (.builtin "sum") := by decide +kernel
theorem bt_isinstance : bootBuiltins "isinstance" = some (.builtin "isinstance") := by decide +kernel
theorem bt_int : bootBuiltins "int" = some (.type "int") := by decide +kernel
theorem bt_bool : bootBuiltins "bool" = some (.type "bool") := by decide +kernel
theorem bt_str : bootBuiltins "str" = some (.type "str") := by decide +kernel
theorem bt_list : bootBuiltins "list" = some (.type "list") := by decide +kernel
theorem bt_tuple : bootBuiltins "tuple" = some (.type "tuple") := by decide +kernel

/-- the store is another one at these addresses alone -/
def Chg (L : List Addr) (Ω Ω' : Om) : Prop := ∀ a, a ∉ L → Ω' a = Ω a
theorem Chg.refl {L : List Addr} {Ω : Om} : Chg L Ω Ω := fun _ _ => rfl
theorem Chg.trans {L : List Addr} {Ω Ω1 Ω2 : Om} (a : Chg L Ω Ω1) (b : Chg L Ω1 Ω2) : Chg L Ω Ω2 := fun x h => (b x h).trans (a x h)
theorem Chg.put {L : List Addr} {Ω Ω1 : Om} {a : Addr} {c : Cell} (h : Chg L Ω Ω1) (ha : a ∈ L) : Chg L Ω (put Ω1 a c) := fun x hx => (put_ne (fun e => hx (by rw [e]; exact ha))).trans (h x hx)
theorem Chg.sub {L L' : List Addr} {Ω Ω1 : Om} (h : Chg L Ω Ω1) (s : ∀ a, a ∈ L → a ∈ L') : Chg L' Ω Ω1 := fun x hx => h x fun q => hx (s x q)
theorem Chg.at_ {L : List Addr} {Ω Ω1 : Om} {a : Addr} {c : Option Cell} (h : Chg L Ω Ω1) (ha : a ∉ L) (e : Ω a = c) : Ω1 a = c := (h a ha).trans e
theorem put_chg {Ω : Om} {a : Addr} {c : Cell} : Chg [a] Ω (put Ω a c) := Chg.put .refl (List.mem_singleton.mpr rfl)
/-- a thing of the store that was new is let go -/
theorem Chg.drp {L : List Addr} {Ω Ω1 : Om} {p : Addr} (h : Chg (p :: L) Ω Ω1) (hp : Ω p = none) : Chg L Ω (drp Ω1 p) := fun x hx => by
  by_cases e : x = p
  · subst e; rw [drp_same, hp]
  · rw [drp_ne e]
    exact h x fun q => by
      rcases List.mem_cons.mp q with q | q
      · exact e q
      · exact hx q
theorem ne1 {a b : Addr} (h : a ≠ b) : a ∉ [b] := fun q => h (List.mem_singleton.mp q)

theorem enumL_out : ∀ {k i : Nat} {ss : List S} {s : S}, (enumL k ss)[i]? = some s → ∃ u, ss[i]? = some u ∧ s = .tup [.int ((k + i : Nat) : Int), u]
  | _, _, [], _, h => by simp [enumL] at h
  | k, 0, x :: r, s, h => by
    simp [enumL] at h
    exact ⟨x, rfl, h.symm⟩
  | k, i + 1, x :: r, s, h => by
    obtain ⟨u, h1, h2⟩ := enumL_out (k := k + 1) (i := i) (ss := r) (s := s) (by simpa [enumL] using h)
    refine ⟨u, by simpa using h1, ?_⟩
    rw [h2]
    have e : k + 1 + i = k + (i + 1) := by omega
    rw [e]
theorem cut_map {α β : Type} (f : α → β) (l : List α) (lo hi : Option Int) : cutL (l.map f) lo hi = (cutL l lo hi).map f := by
  unfold cutL
  rw [List.length_map, List.map_take, List.map_drop]
theorem map_out {α : Type} {f : α → S} {l : List α} {i : Nat} {s : S} (h : (l.map f)[i]? = some s) : ∃ x, l[i]? = some x ∧ s = f x := by
  rw [List.getElem?_map] at h
  cases e : l[i]? with
  | none => rw [e] at h; cases h
  | some x => rw [e] at h; cases h; exact ⟨x, rfl, rfl⟩
theorem cut_le {α : Type} (l : List α) (lo hi : Option Int) : (cutL l lo hi).length ≤ l.length := by
  unfold cutL
  rw [List.length_take, List.length_drop]
  omega
theorem atI_n {α : Type} {xs : List α} {j : Nat} {x : α} (h : xs[j]? = some x) : atI xs (j : Int) = some x := atI_nat h
theorem atI_i {α : Type} {xs : List α} {i : Int} {x : α} (h0 : 0 ≤ i) (h : xs[i.toNat]? = some x) : atI xs i = some x := by
  have e : i = (i.toNat : Int) := by omega
  rw [e]
  exact atI_nat h
theorem atI_map {α β : Type} (f : α → β) {xs : List α} {i : Int} {x : α} (h : atI xs i = some x) : atI (xs.map f) i = some (f x) := by
  unfold atI at h ⊢
  rw [List.length_map]
  cases e : ixN xs.length i with
  | none => rw [e] at h; cases h
  | some j =>
    rw [e] at h
    show (xs.map f)[j]? = some (f x)
    rw [List.getElem?_map, show xs[j]? = some x from h]
    rfl
theorem atI_m1 {α : Type} {xs : List α} {x : α} (h : xs.getLast? = some x) : atI xs (-1) = some x := by
  have hl : 0 < xs.length := by
    cases xs with
    | nil => simp at h
    | cons a r => simp
  unfold atI ixN
  rw [if_neg (by decide), if_pos (by omega)]
  show xs[(-1 + (xs.length : Int)).toNat]? = some x
  have e : (-1 + (xs.length : Int)).toNat = xs.length - 1 := by omega
  rw [e, ← h, List.getLast?_eq_getElem?]
theorem at_some {α : Type} {xs : List α} {j : Nat} (h : j < xs.length) : ∃ x, xs[j]? = some x := ⟨_, List.getElem?_eq_getElem h⟩

/-! ### a store within another one: what is not asked of is let go -/
theorem Ok.less {K : PySem.W.Frag} {Z : Addr → Prop} {Ω Ω' : Om} {H : Hp} (o : Ok K Z Ω H) (h : ∀ a, Ω' a = none ∨ Ω' a = Ω a) : Ok K Z Ω' H ∧ Frm Ω H Ω' H := by
  have hm : ∀ a, ¬ mu Z Ω a → ¬ mu Z Ω' a := fun a n q => by
    rcases q with q | q
    · exact n (.inl q)
    · rcases h a with e | e
      · exact q e
      · exact n (.inr (by rw [← e]; exact q))
  refine ⟨⟨fun a c e => ?_, fun a z => ?_⟩, ⟨fun _ _ e _ => e, fun a q => .inl ?_⟩⟩
  · rcases h a with e2 | e2
    · rw [e2] at e; cases e
    · exact CellRep.keep (o.cells a c (by rw [← e2]; exact e)) (fun _ e => e) (fun _ _ e _ => e) fun b _ _ n => hm b n
  · obtain ⟨h1, x⟩ := o.hid a z
    refine ⟨?_, x⟩
    rcases h a with e | e
    · exact e
    · rw [e, h1]
  · rcases h a with e | e
    · exact absurd e q
    · rw [← e]; exact q
theorem Vw.less {s : S} {Ω Ω' : Om} (h : ∀ a, Ω' a = none ∨ Ω' a = Ω a) : Vw s Ω s Ω' := fun K Z H v o r => ⟨(o.less h).1, (o.less h).2, (o.less h).2.rep o r⟩
theorem VwE.less {Γ : Ga} {Ω Ω' : Om} (h : ∀ a, Ω' a = none ∨ Ω' a = Ω a) : VwE Γ Ω Γ Ω' := fun K Z H σ o e => ⟨(o.less h).1, (o.less h).2, e.frm (o.less h).2 o⟩
/-- Ω' where Ω has something -/
def cutO (Ω Ω' : Om) : Om := fun a => match Ω a with
  | none => none
  | some _ => Ω' a
theorem cutO_no {Ω Ω' : Om} {a : Addr} (h : Ω a = none) : cutO Ω Ω' a = none := by unfold cutO; rw [h]
theorem cutO_yes {Ω Ω' : Om} {a : Addr} (h : Ω a ≠ none) : cutO Ω Ω' a = Ω' a := by
  unfold cutO
  cases e : Ω a with
  | none => exact absurd e h
  | some c => rfl
theorem cutO_or {Ω Ω' : Om} (a : Addr) : cutO Ω Ω' a = none ∨ cutO Ω Ω' a = Ω' a := by
  by_cases h : Ω a = none
  · exact .inl (cutO_no h)
  · exact .inr (cutO_yes h)
theorem Vw.back {s : S} {Ω Ω' : Om} : Vw s Ω' s (cutO Ω Ω') := .less cutO_or
theorem Vw.backF {Ω Ω' : Om} {p : Addr} {ss : List S} (h : Ω' p = some (.lst ss)) (hp : Ω p = none) : Vw (.adr p) Ω' (.lst ss) (cutO Ω Ω') :=
  (Vw.freeze h).trans (.less fun a => by
    by_cases e : a = p
    · exact .inl (by rw [e]; exact cutO_no hp)
    · rw [drp_ne e]; exact cutO_or a)
/-- what stood stands as it did but at these -/
def Chw (L : List Addr) (Ω Ω' : Om) : Prop := ∀ a, a ∉ L → Ω a ≠ none → Ω' a = Ω a
theorem Chw.refl {L : List Addr} {Ω : Om} : Chw L Ω Ω := fun _ _ _ => rfl
theorem Chg.w {L : List Addr} {Ω Ω1 : Om} (h : Chg L Ω Ω1) : Chw L Ω Ω1 := fun a ha _ => h a ha
theorem Chw.trans {L : List Addr} {Ω Ω1 Ω2 : Om} (a : Chw L Ω Ω1) (b : Chw L Ω1 Ω2) : Chw L Ω Ω2 := fun x h n => (b x h (by rw [a x h n]; exact n)).trans (a x h n)
theorem Chw.chg {L : List Addr} {Ω Ω1 Ω2 : Om} (a : Chw L Ω Ω1) (b : Chg L Ω1 Ω2) : Chw L Ω Ω2 := a.trans b.w
theorem Chw.put {L : List Addr} {Ω Ω1 : Om} {a : Addr} {c : Cell} (h : Chw L Ω Ω1) (ha : a ∈ L ∨ Ω a = none) : Chw L Ω (put Ω1 a c) := fun x hx n => (put_ne (fun e => by
  rcases ha with ha | ha
  · exact hx (by rw [e]; exact ha)
  · exact n (by rw [e]; exact ha))).trans (h x hx n)
theorem Chw.cut {L : List Addr} {Ω Ω1 : Om} (h : Chw L Ω Ω1) : Chg L Ω (cutO Ω Ω1) := fun a ha => by
  by_cases e : Ω a = none
  · rw [cutO_no e, e]
  · rw [cutO_yes e, h a ha e]
theorem Chw.none_ {L : List Addr} {Ω Ω1 : Om} {p : Addr} (h : Chw L Ω Ω1) (hp : Ω1 p = none) (hL : ∀ a ∈ L, Ω1 a ≠ none) : Ω p = none := no_some fun q => by
  by_cases e : p ∈ L
  · exact hL p e hp
  · rw [← h p e q, hp] at q; exact q rfl
theorem g_pick {Ω : Om} {P : WP} {i : Int} {ss : List S} (ns : List Int) (A : Int → Prop) (e : ss = ns.map S.int) (h0 : 0 ≤ i) (h1 : i < ns.length) (h : ∀ x ∈ ns, A x) (k : ∀ x, A x → P (.int x) Ω) : oIx (.lst ss) (.int i) Ω P := by
  subst e
  obtain ⟨x, hx⟩ := at_some (xs := ns) (j := i.toNat) (by omega)
  exact g_ix rfl (atI_map S.int (atI_i h0 hx)) (k x (h x (List.mem_of_getElem? hx)))

/-! ### data that == reads -/
structure EqD (n : Nat) (s : S) : Prop where
  flat : flat s = true
  lay : (toD s).canLay0 = true
  dep : (toD s).depth ≤ n
theorem EqD.ok {n : Nat} {s : S} (h : EqD n s) (hn : n ≤ 64) : eqOk s := ⟨h.flat, by
  show ((toD s).canLay0 && decide ((toD s).depth ≤ 64)) = true
  rw [h.lay, decide_eq_true (Nat.le_trans h.dep hn)] <;> rfl⟩
theorem EqD.int {n : Nat} (i : Int) : EqD n (.int i) := ⟨rfl, rfl, Nat.zero_le _⟩
theorem EqD.bl {n : Nat} (i : Bool) : EqD n (.bl i) := ⟨rfl, rfl, Nat.zero_le _⟩
theorem EqD.non {n : Nat} : EqD n .non := ⟨rfl, rfl, Nat.zero_le _⟩
theorem EqD.str {n : Nat} {x : Str} (h : PyData.strOk x = true) : EqD n (.str x) := ⟨rfl, h, Nat.zero_le _⟩
theorem EqD.all {n : Nat} : ∀ {ss : List S}, (∀ s ∈ ss, EqD n s) → flats ss = true ∧ PyData.canLayAll0 (toDs ss) = true ∧ PyData.depthAll (toDs ss) ≤ n
  | [], _ => ⟨rfl, rfl, Nat.zero_le _⟩
  | s :: r, h => by
    obtain ⟨a, b, c⟩ := h s (List.mem_cons_self ..)
    obtain ⟨d, e, f⟩ := EqD.all (ss := r) fun x hx => h x (List.mem_cons_of_mem _ hx)
    refine ⟨?_, ?_, ?_⟩
    · show (Om.flat s && flats r) = true
      rw [a, d] <;> rfl
    · show ((toD s).canLay0 && PyData.canLayAll0 (toDs r)) = true
      rw [b, e] <;> rfl
    · show max (toD s).depth (PyData.depthAll (toDs r)) ≤ n
      omega
theorem EqD.lst {n : Nat} {ss : List S} (h : ∀ s ∈ ss, EqD n s) : EqD (n + 1) (.lst ss) := by
  obtain ⟨a, b, c⟩ := EqD.all h
  exact ⟨a, b, Nat.succ_le_succ c⟩
theorem EqD.tup {n : Nat} {ss : List S} (h : ∀ s ∈ ss, EqD n s) : EqD (n + 1) (.tup ss) := by
  obtain ⟨a, b, c⟩ := EqD.all h
  exact ⟨a, b, Nat.succ_le_succ c⟩
theorem EqD.map {α : Type} {n : Nat} {f : α → S} {l : List α} (h : ∀ x ∈ l, EqD n (f x)) : ∀ s ∈ l.map f, EqD n s := fun s hs => by
  obtain ⟨x, hx, rfl⟩ := List.mem_map.mp hs
  exact h x hx
theorem EqD.eqv {n : Nat} {s : S} (h : EqD n s) : PyData.eqv (toD s) (toD s) = true := PySem.SeqAt.eqv_refl _ h.lay

/-! ### zip -/
theorem zipL_out : ∀ {i : Nat} {a b : List S} {s : S}, (zipL a b)[i]? = some s → ∃ u v, a[i]? = some u ∧ b[i]? = some v ∧ s = .tup [u, v]
  | _, [], _, _, h => by simp [zipL] at h
  | _, _ :: _, [], _, h => by simp [zipL] at h
  | 0, x :: a, y :: b, s, h => by
    simp [zipL] at h
    exact ⟨x, y, rfl, rfl, h.symm⟩
  | i + 1, x :: a, y :: b, s, h => by
    obtain ⟨u, v, h1, h2, h3⟩ := zipL_out (i := i) (a := a) (b := b) (s := s) (by simpa [zipL] using h)
    exact ⟨u, v, by simpa using h1, by simpa using h2, h3⟩
/-- a comprehension of truth values: all alike -/
theorem g_mapB {Γ : Ga} {Ω : Om} {P : WP} {ss : List S} {G : Om → Prop} {wg : WG} {we : WE} (b : Bool) (hG : G Ω) (hl : ss.length < sizeLine) (hs : ∀ (i : Nat) s, ss[i]? = some s → ∀ Q : WP, Q (.bl b) Ω → wg s Γ Ω fun Γ2 Ω2 => we Γ2 Ω2 Q) (hd : nw ((List.replicate ss.length b).map S.bl) Ω P) : lcAt wg wYes we Γ P ss G Ω := by
  refine g_map (fun _ => .bl b) hG hl hs ?_
  have e : ss.map (fun _ => S.bl b) = (List.replicate ss.length b).map S.bl := by
    rw [List.map_replicate, List.map_const']
  rw [e]
  exact hd
theorem any_rep {n : Nat} : (List.replicate n false).any id = false := by
  rw [List.any_eq_false]
  intro x hx
  rw [List.eq_of_mem_replicate hx]
  exact Bool.false_ne_true
theorem all_rep {n : Nat} : (List.replicate n true).all id = true := by
  rw [List.all_eq_true]
  intro x hx
  rw [List.eq_of_mem_replicate hx]
  rfl

/-! ### the law's own box of draws: what is left of the great number, what is mixed, how many were drawn -/
def Box (b : Addr) (n : Int) (Ω : Om) : Prop := ∃ x y z : Int, Ω b = some (.lst [.int x, .int y, .int z]) ∧ 0 ≤ x ∧ 0 ≤ y ∧ y < 2147483648 ∧ 0 ≤ z ∧ z ≤ n
theorem Box.mono {b : Addr} {n m : Int} {Ω : Om} (h : Box b n Ω) (e : n ≤ m) : Box b m Ω := by
  obtain ⟨x, y, z, h1, h2, h3, h4, h5, h6⟩ := h
  exact ⟨x, y, z, h1, h2, h3, h4, h5, Int.le_trans h6 e⟩
theorem Box.at_ {b : Addr} {n : Int} {Ω Ω' : Om} (h : Box b n Ω) (e : Ω' b = Ω b) : Box b n Ω' := by
  obtain ⟨x, y, z, h1, h2⟩ := h
  exact ⟨x, y, z, by rw [e]; exact h1, h2⟩
theorem Box.ne {b : Addr} {n : Int} {Ω : Om} (h : Box b n Ω) : Ω b ≠ none := by
  obtain ⟨x, y, z, h1, _⟩ := h
  rw [h1]
  exact fun e => nomatch e
theorem Box.cut {b : Addr} {n : Int} {Ω Ω' : Om} (h : Box b n Ω') (e : Ω b ≠ none) : Box b n (cutO Ω Ω') := h.at_ (cutO_yes e)
theorem Box.put {b p : Addr} {n : Int} {Ω : Om} {c : Cell} (h : Box b n Ω) (e : b ≠ p) : Box b n (Om.put Ω p c) := h.at_ (put_ne e)
def W_box : WF := fun ss Ω P => ∃ ns : List Int, ss = [.wls (ns.map S.int)] ∧ ns.length ≤ 1000 ∧ ∀ p Ω', Ω p = none → Box p 0 Ω' → Chg [p] Ω Ω' → P (.adr p) Ω'
def W_take : WF := fun ss Ω P => ∃ (b : Addr) (m n : Int), ss = [.adr b, .int m] ∧ Box b n Ω ∧ n < 1099511627776 ∧ 1 ≤ m ∧ m < 1073741824 ∧
  ∀ r Ω', 0 ≤ r → r < m → Box b (n + 1) Ω' → Chg [b] Ω Ω' → P (.int r) Ω'
theorem g_take {b : Addr} {m n : Int} {Ω : Om} {P : WP} (hB : Box b n Ω) (h1 : n < 1099511627776) (h2 : 1 ≤ m) (h3 : m < 1073741824) (k : ∀ r Ω', 0 ≤ r → r < m → Box b (n + 1) Ω' → Chg [b] Ω Ω' → P (.int r) Ω') : W_take [.adr b, .int m] Ω P := ⟨b, m, n, rfl, hB, h1, h2, h3, k⟩
/-- a law's own promise: a script of so many ints, True -/
def W_law : WF := fun ss Ω P => ∃ ns : List Int, ss = [.wls (ns.map S.int)] ∧ ns.length ≤ 63 ∧ ∀ Ω', P (.bl true) Ω'
theorem law_true {K : PySem.W.Frag} {H : Hp} {a : Addr} {ns : List Int} {E : XK} (hl : ns.length ≤ 63) (hS : SqL K H a (ns.map V.int)) : spO K W_law [.ref a] H (fun v _ => v = .bl true) E := by
  have n : ∀ b : Addr, ¬ mu (fun _ => False) (fun _ => none) b := fun b h => by
    rcases h with h | h
    · exact h
    · exact h rfl
  have ok : Ok K (fun _ => False) (fun _ => none) H := ⟨fun a c h => (nomatch h), fun a h => False.elim h⟩
  refine ⟨fun _ => False, fun _ => none, [.wls (ns.map S.int)], fun s _ => s = .bl true, ok, .cons ?_ .nil, ⟨ns, rfl, hl, fun _ => rfl⟩, fun v s Ω' H' _ _ r e => ?_⟩
  · rcases hS with h | h
    · exact .sc (n a) h .ofInts
    · exact .wl (fun H' => .inr h) .ofInts
  · subst e
    exact rep_bl r
end Om
/-! Om: dicts, own classes, more of lists. -/
namespace Om
open PySem L2
open PyProof.Rows (b2i)

/-! ### keyed lists -/
section
variable {κ α β : Type} [DecidableEq κ]
def vOf (kvs : List (κ × α)) (k : κ) : Option α := (kvs.find? fun kv => decide (kv.1 = k)).map (·.2)
def pOf (kvs : List (κ × α)) (k : κ) (v : α) : List (κ × α) := if kvs.any (fun kv => decide (kv.1 = k)) then kvs.map fun kv => if kv.1 = k then (kv.1, v) else kv else kvs ++ [(k, v)]
theorem vOf_nil {k : κ} : vOf ([] : List (κ × α)) k = none := rfl
theorem vOf_pos {p : κ × α} {r : List (κ × α)} {k : κ} (e : p.1 = k) : vOf (p :: r) k = some p.2 := by simp [vOf, List.find?_cons, e]
theorem vOf_neg {p : κ × α} {r : List (κ × α)} {k : κ} (e : ¬ p.1 = k) : vOf (p :: r) k = vOf r k := by simp [vOf, List.find?_cons, e]
theorem vOf_V {kvs : List (κ × V)} {k : κ} : vOf kvs k = valV kvs k := rfl
theorem any_keys (k : κ) : ∀ {ks : List (κ × α)} {kvs : List (κ × β)}, ks.map (·.1) = kvs.map (·.1) → (ks.any fun kv => decide (kv.1 = k)) = kvs.any fun kv => decide (kv.1 = k)
  | [], [], _ => rfl
  | [], _ :: _, e => by simp at e
  | _ :: _, [], e => by simp at e
  | p :: ks, q :: kvs, e => by
    simp only [List.map_cons, List.cons.injEq] at e
    rw [List.any_cons, List.any_cons, e.1, any_keys k e.2]
end
theorem putK_pOf {κ : Type} [DecidableEq κ] (kvs : List (κ × V)) (k : κ) (v : V) : putK kvs k v = pOf kvs k v := rfl
section
variable {κ : Type} [DecidableEq κ] {K : PySem.W.Frag} {N : Addr → Prop} {H : Hp}
theorem rep_val : ∀ {ks : List (κ × V)} {kvs : List (κ × S)} {k : κ} {s : S}, ks.map (·.1) = kvs.map (·.1) → RepL K N H (ks.map (·.2)) (kvs.map (·.2)) → vOf kvs k = some s → ∃ v, valV ks k = some v ∧ Rep K N H v s
  | [], [], _, _, _, _, h => by cases h
  | [], _ :: _, _, _, e, _, _ => by simp at e
  | _ :: _, [], _, _, e, _, _ => by simp at e
  | p :: ks, q :: kvs, k, s, e, r, h => by
    simp only [List.map_cons, List.cons.injEq] at e
    cases r with
    | cons r1 r2 =>
      by_cases ek : q.1 = k
      · rw [vOf_pos ek] at h
        cases h
        exact ⟨p.2, valV_pos (e.1.trans ek), r1⟩
      · rw [vOf_neg ek] at h
        obtain ⟨v, h1, h2⟩ := rep_val e.2 r2 h
        exact ⟨v, by rw [valV_neg (by rw [e.1]; exact ek)]; exact h1, h2⟩
theorem rep_valN : ∀ {ks : List (κ × V)} {kvs : List (κ × S)} {k : κ}, ks.map (·.1) = kvs.map (·.1) → vOf kvs k = none → valV ks k = none
  | [], [], _, _, _ => rfl
  | [], _ :: _, _, e, _ => by simp at e
  | _ :: _, [], _, e, _ => by simp at e
  | p :: ks, q :: kvs, k, e, h => by
    simp only [List.map_cons, List.cons.injEq] at e
    by_cases ek : q.1 = k
    · rw [vOf_pos ek] at h; cases h
    · rw [vOf_neg ek] at h
      rw [valV_neg (by rw [e.1]; exact ek)]
      exact rep_valN e.2 h
theorem map_put1 {α : Type} (k : κ) (v : α) : ∀ kvs : List (κ × α), (kvs.map fun kv => if kv.1 = k then (kv.1, v) else kv).map (·.1) = kvs.map (·.1)
  | [] => rfl
  | p :: r => by
    simp only [List.map_cons, map_put1 k v r]
    congr 1
    split <;> rfl
theorem rep_put1 {k : κ} {v : V} {s : S} (rv : Rep K N H v s) : ∀ {ks : List (κ × V)} {kvs : List (κ × S)}, ks.map (·.1) = kvs.map (·.1) → RepL K N H (ks.map (·.2)) (kvs.map (·.2)) →
    RepL K N H ((ks.map fun kv => if kv.1 = k then (kv.1, v) else kv).map (·.2)) ((kvs.map fun kv => if kv.1 = k then (kv.1, s) else kv).map (·.2))
  | [], [], _, _ => .nil
  | [], _ :: _, e, _ => by simp at e
  | _ :: _, [], e, _ => by simp at e
  | p :: ks, q :: kvs, e, r => by
    simp only [List.map_cons, List.cons.injEq] at e
    cases r with
    | cons r1 r2 =>
      simp only [List.map_cons]
      refine .cons ?_ (rep_put1 rv e.2 r2)
      by_cases ek : q.1 = k
      · rw [if_pos ek, if_pos (e.1.trans ek)]; exact rv
      · rw [if_neg ek, if_neg (by rw [e.1]; exact ek)]; exact r1
theorem rep_put {ks : List (κ × V)} {kvs : List (κ × S)} {k : κ} {v : V} {s : S} (e : ks.map (·.1) = kvs.map (·.1)) (r : RepL K N H (ks.map (·.2)) (kvs.map (·.2))) (rv : Rep K N H v s) :
    (putK ks k v).map (·.1) = (pOf kvs k s).map (·.1) ∧ RepL K N H ((putK ks k v).map (·.2)) ((pOf kvs k s).map (·.2)) := by
  rw [putK_pOf]
  unfold pOf
  rw [any_keys k e]
  split
  · exact ⟨by rw [map_put1, map_put1, e], rep_put1 rv e r⟩
  · exact ⟨by rw [List.map_append, List.map_append, e]; rfl, by rw [List.map_append, List.map_append]; exact r.append (.cons rv .nil)⟩
end

/-! ### dicts with int or text keys -/
def kS : Key → S
  | .inl i => .int i
  | .inr x => .str x
def cellD : Option Cell → Option (List (Key × S))
  | some (.dK kvs) => some kvs
  | _ => none
def asD (Ω : Om) : S → Option (List (Key × S))
  | .dic kvs => some kvs
  | .adr a => cellD (Ω a)
  | _ => none
theorem asD_adr {Ω : Om} {a : Addr} {kvs : List (Key × S)} (h : Ω a = some (.dK kvs)) : asD Ω (.adr a) = some kvs := by
  show cellD (Ω a) = some kvs
  rw [h] <;> rfl
theorem cellD_some {c : Option Cell} {kvs : List (Key × S)} (h : cellD c = some kvs) : c = some (.dK kvs) := by
  cases c with
  | none => cases h
  | some c =>
    cases c with
    | dK xs => cases h; rfl
    | _ => cases h
theorem rep_k {K : PySem.W.Frag} {N : Addr → Prop} {H : Hp} {v : V} {k : Key} (r : Rep K N H v (kS k)) : v = kV k := by
  cases k with
  | inl i => cases r; rfl
  | inr x => cases r; rfl
theorem rep_kV {K : PySem.W.Frag} {N : Addr → Prop} {H : Hp} (k : Key) : Rep K N H (kV k) (kS k) := by
  cases k with
  | inl i => exact .int i
  | inr x => exact .str x
section
variable {K : PySem.W.Frag} {Z : Addr → Prop} {Ω Ω1 : Om} {H H1 : Hp} {v : V} {s : S}
theorem rep_DK {kvs : List (Key × S)} (o : Ok K Z Ω H) (r : Rep K (mu Z Ω) H v s) (e : asD Ω s = some kvs) : ∃ a ks, v = .ref a ∧ Rd H a (.dK ks) ∧ ks.map (·.1) = kvs.map (·.1) ∧ RepL K (mu Z Ω) H (ks.map (·.2)) (kvs.map (·.2)) := by
  cases r with
  | dic h0 h e1 r => cases e; exact ⟨_, _, rfl, .inr ⟨_, h⟩, e1, r⟩
  | adr a =>
    obtain ⟨ks, h1, h2, h3⟩ := o.cells a _ (cellD_some e)
    exact ⟨_, _, rfl, .inl h1, h2, h3⟩
  | _ => cases e
end

/-! ### freezing -/
def tFrz (t : TE) : TE := fun σ H Q => t σ H fun x H1 => Q x H1 ∨ ∃ a u, x = .ref a ∧ H1 a = some u ∧ Mut (some u) ∧ ∀ od, Q x (upd H1 a (.frz od u))
def tFrzS (t : TS) : TS := fun D σ H => t D σ H ∨ ∃ a u, H a = some u ∧ Mut (some u) ∧ ∀ od, t D σ (upd H a (.frz od u))
section
variable {X : Cx} {e a b : Expr} {te ta tb : TE} {we wa wb : WE} {pos : Pos}
theorem pe_frz (h : PE X e te) : PE X e (tFrz te) := by
  refine ⟨fun pins s σ H Q I w => ?_⟩
  refine thn (h.run pins s σ H _ I w) fun u s1 ⟨x, H1, I1, rx, q⟩ => ?_
  rcases q with q | ⟨a, ob, ex, ha, mu, q⟩
  · exact ⟨x, H1, I1, rx, q⟩
  · obtain ⟨od, I2⟩ := I1.lock ha mu
    exact ⟨x, _, I2, rx, q od⟩
theorem ps_frz {st : Stmt} {t : TS} (h : PS X st t) : PS X st (tFrzS t) := by
  refine ⟨fun pins s σ H D I w => ?_⟩
  rcases w with w | ⟨a, ob, ha, mu, w⟩
  · exact h.run pins s σ H D I w
  · obtain ⟨od, I1⟩ := I.lock ha mu
    exact h.run pins s σ _ D I1 (w od)
theorem ok_frz {K : PySem.W.Frag} {Z : Addr → Prop} {Ω : Om} {H : Hp} {a : Addr} {kvs : List (Key × S)} {od : Obj} (o : Ok K Z Ω H) (ha : Ω a = some (.dK kvs)) :
    ∃ ks, H a = some (.dK ks) ∧ Ok K Z (drp Ω a) (upd H a (.frz od (.dK ks))) ∧ Frm Ω H (drp Ω a) (upd H a (.frz od (.dK ks))) ∧ Rep K (mu Z (drp Ω a)) (upd H a (.frz od (.dK ks))) (.ref a) (.dic kvs) := by
  obtain ⟨ks, h1, h2, h3⟩ := o.cells a _ ha
  have ne0 : ∀ b, ¬ mu Z Ω b → b ≠ a := fun b n e => n (.inr (by rw [e, ha]; simp))
  have fr : Frm Ω H (drp Ω a) (upd H a (.frz od (.dK ks))) := ⟨fun b o' e h => by rw [upd_ne (fun q => by rw [q, ha] at h; cases h)]; exact e, fun b h => by
    by_cases e : b = a
    · rw [e, drp_same] at h; exact absurd rfl h
    · rw [drp_ne e] at h; exact .inl h⟩
  refine ⟨ks, h1, ⟨fun b c h => ?_, fun b h => ?_⟩, fr, ?_⟩
  · by_cases e : b = a
    · rw [e, drp_same] at h; cases h
    · rw [drp_ne e] at h
      exact CellRep.keep (o.cells b c h) (fun x q => by rw [upd_ne e]; exact q) (fun z x q n => by rw [upd_ne (ne0 z n)]; exact q) fun _ _ _ q => mu_drp q
  · obtain ⟨h1', x, hx⟩ := o.hid b h
    have ne : b ≠ a := fun q => by rw [q, ha] at h1'; cases h1'
    exact ⟨by rw [drp_ne ne]; exact h1', x, by rw [upd_ne ne]; exact hx⟩
  · refine .dic ?_ upd_same h2 (fr.repL o h3)
    rintro (q | q)
    · have := (o.hid a q).1
      rw [ha] at this; cases this
    · rw [drp_same] at q; exact q rfl
def wFrz (we : WE) : WE := fun Γ Ω P => we Γ Ω fun s Ω1 => (∃ a kvs, s = .adr a ∧ Ω1 a = some (.dK kvs) ∧ P (.dic kvs) (drp Ω1 a)) ∨ P s Ω1
theorem oe_frz (h : OE X e te we) : OE X e (tFrz te) (wFrz we) := ⟨pe_frz h.pe, fun Z σ H Γ Ω P Q ok en w k => h.se Z σ H Γ Ω _ _ ok en w fun v s Ω1 H1 o1 f1 r1 p => by
  rcases p with ⟨a, kvs, es, ha, p⟩ | p
  · subst es
    cases r1
    refine .inr ⟨a, ?_⟩
    obtain ⟨ks, h1, _⟩ := o1.cells a _ ha
    refine ⟨_, rfl, h1, True.intro, fun od => ?_⟩
    obtain ⟨ks', h1', o2, f2, r2⟩ := ok_frz (od := od) o1 ha
    rw [h1] at h1'
    cases h1'
    exact k _ _ _ _ o2 (f1.trans f2) r2 p
  · exact .inl (k _ _ _ _ o1 f1 r1 p)⟩
/-- a name's dict is only read from here on -/
def wFrzS (w : WS) : WS := fun O Γ Ω => (∃ (i : Nat) (a : Addr) (kvs : List (Key × S)), gt Γ i = some (.adr a) ∧ Ω a = some (.dK kvs) ∧ w O (st Γ i (some (.dic kvs))) (drp Ω a)) ∨ w O Γ Ω
theorem os_frz {sm : Stmt} {t : TS} {w : WS} (h : OS X sm t w) : OS X sm (tFrzS t) (wFrzS w) := ⟨ps_frz h.pe, fun Z σ H Γ Ω O D ok en w k => by
  rcases w with ⟨i, a, kvs, hi, ha, w⟩ | w
  · obtain ⟨ks, h1, _⟩ := ok.cells a _ ha
    refine .inr ⟨a, _, h1, True.intro, fun od => ?_⟩
    obtain ⟨ks', h1', o2, f2, r2⟩ := ok_frz (od := od) ok ha
    rw [h1] at h1'
    cases h1'
    refine h.se Z σ _ _ _ O D o2 ?_ w (k.frm f2)
    have e2 := en.frm f2 ok
    obtain ⟨v, h1, h2⟩ := en.at_ i _ hi
    cases h2
    refine ⟨by rw [st_len]; exact e2.len, fun j u hj => ?_⟩
    rcases gt_st hj with ⟨rfl, e3⟩ | ⟨ne, e3⟩
    · cases e3
      exact ⟨_, h1, r2⟩
    · exact e2.at_ j u e3
  · exact .inl (h.se Z σ H Γ Ω O D ok en w k)⟩

/-! ### {}, d[k], k in d, len(d) -/
def wDNew : WE := fun _ Ω P => ∀ a, Ω a = none → P (.adr a) (put Ω a (.dK []))
theorem oe_dnew : OE X (.Dict [] [] pos) tDNewK wDNew := ⟨pe_dnewK, fun Z σ H Γ Ω P Q ok en w k p hp =>
  k _ _ _ _ (ok.cell (c := .dK []) hp ⟨[], upd_same, rfl, .nil⟩) (frm_cell hp) (.adr p) (w p (ok.freshO hp))⟩
def rDGet : R2 := fun x y H Q => ∃ a v, x = .ref a ∧ DGet H a y (some v) ∧ Q v H
theorem ix_dict (hu : X.A.units + 1 < cLine) : IxR X rDGet := by
  intro value slice pins s σ H x y v u Q I rx ry h hs
  obtain ⟨a, z, rfl, g, q⟩ := h
  cases (show v = Value.ref a from rx)
  exact PyProof.Rows.tail_any (dict_typeIs I g) PySem.F.slot_dict_getitem.lookup (d_getItem hu I g ry fun w' s3 I3 rw' => ⟨z, H, I3, rw', q⟩) hs
def oIxD : W2 := fun a b Ω P => ∃ kvs k s, asD Ω a = some kvs ∧ b = kS k ∧ vOf kvs k = some s ∧ P s Ω
def oIxU : W2 := fun a b Ω P => oIx a b Ω P ∨ oIxD a b Ω P
theorem s2_ixD {K : PySem.W.Frag} : S2 K rDGet oIxD := fun Z H Ω x y a b P Q ok rx ry ⟨kvs, k', s, e, eb, h, p⟩ k => by
  subst eb
  obtain ⟨l, ks, rfl, h1, h2, h3⟩ := rep_DK ok rx e
  obtain ⟨v, h4, h5⟩ := rep_val h2 h3 h
  exact ⟨l, v, rfl, .inl ⟨ks, k', h1, rep_k ry, h4.symm⟩, k.now ok h5 p⟩
theorem oe_ixU {K : PySem.W.Frag} (hu : X.A.units + 64 < cLine) (ha : OE X a ta wa) (hb : OE X b tb wb) (hs : PlainIx b) (hK : X.K = K := by rfl) : OE X (.Subscript a b pos) (tOp (fun x y H Q => rIx K x y H Q ∨ rDGet x y H Q) ta tb) (wOp oIxU wa wb) := by
  subst hK
  exact ⟨pe_ix (ix_seq.or (ix_dict (by omega))) ha.pe hb.pe hs, se_op (s2_ix.or s2_ixD) ha.se hb.se⟩
end
end Om
/-! Om: more of dicts, own classes. -/
namespace Om
open PySem L2
open PyProof.Rows (b2i)
section
variable {X : Cx} {e a b : Expr} {te ta tb : TE} {we wa wb : WE} {pos : Pos}

/-! ### in -/
def rDIn : R2 := fun y x H Q => ∃ a o, x = .ref a ∧ DGet H a y o ∧ Q (.bl o.isSome) H
def rDNotIn : R2 := fun y x H Q => ∃ a o, x = .ref a ∧ DGet H a y o ∧ Q (.bl (!o.isSome)) H
theorem op_dIn (hu : X.A.units + 1 < cLine) : OpR X (compareOp .In) rDIn := by
  intro pins s σ H x y v u Q I rx ry h
  obtain ⟨a, o, rfl, g, q⟩ := h
  cases (show u = Value.ref a from ry)
  exact d_in hu I g rx fun s' I' => ⟨.bl o.isSome, H, I', rfl, q⟩
theorem op_dNotIn (hu : X.A.units + 1 < cLine) : OpR X (compareOp .NotIn) rDNotIn := by
  intro pins s σ H x y v u Q I rx ry h
  obtain ⟨a, o, rfl, g, q⟩ := h
  cases (show u = Value.ref a from ry)
  exact d_notIn hu I g rx fun s' I' => ⟨.bl (!o.isSome), H, I', rfl, q⟩
def hasK (kvs : List (Key × S)) (k : Key) : Bool := (vOf kvs k).isSome
def oInD (neg : Bool) : W2 := fun a b Ω P => ∃ kvs k, asD Ω b = some kvs ∧ a = kS k ∧ P (.bl (if neg then !hasK kvs k else hasK kvs k)) Ω
def oInU (neg : Bool) : W2 := fun a b Ω P => oIn neg a b Ω P ∨ oInD neg a b Ω P
theorem dget_of {K : PySem.W.Frag} {Z : Addr → Prop} {Ω : Om} {H : Hp} {x : V} {b : S} {kvs : List (Key × S)} (ok : Ok K Z Ω H) (r : Rep K (mu Z Ω) H x b) (e : asD Ω b = some kvs) (k : Key) :
    ∃ l o, x = .ref l ∧ DGet H l (kV k) o ∧ o.isSome = hasK kvs k := by
  obtain ⟨l, ks, rfl, h1, h2, h3⟩ := rep_DK ok r e
  refine ⟨l, _, rfl, .inl ⟨ks, k, h1, rfl, rfl⟩, ?_⟩
  unfold hasK
  cases h : vOf kvs k with
  | none => rw [rep_valN h2 h] <;> rfl
  | some s =>
    obtain ⟨v, h4, _⟩ := rep_val h2 h3 h
    rw [h4] <;> rfl
theorem oo_inU {K : PySem.W.Frag} (hu : X.A.units + 64 < cLine) (hK : X.K = K := by rfl) : OO X (compareOp .In) (fun x y H Q => rIn K false x y H Q ∨ rDIn x y H Q) (oInU false) := by
  refine (oo_in hK).or ⟨op_dIn (by omega), fun Z H Ω x y a b P Q ok rx ry ⟨kvs, k', e, ea, p⟩ k => ?_⟩
  subst ea
  obtain ⟨l, o, rfl, g, e2⟩ := dget_of ok ry e k'
  exact ⟨l, o, rfl, by rw [rep_k rx]; exact g, by rw [e2]; exact k.now ok (.bl _) p⟩
theorem oo_notInU {K : PySem.W.Frag} (hu : X.A.units + 64 < cLine) (hK : X.K = K := by rfl) : OO X (compareOp .NotIn) (fun x y H Q => rIn K true x y H Q ∨ rDNotIn x y H Q) (oInU true) := by
  refine (oo_notIn hK).or ⟨op_dNotIn (by omega), fun Z H Ω x y a b P Q ok rx ry ⟨kvs, k', e, ea, p⟩ k => ?_⟩
  subst ea
  obtain ⟨l, o, rfl, g, e2⟩ := dget_of ok ry e k'
  exact ⟨l, o, rfl, by rw [rep_k rx]; exact g, by rw [e2]; exact k.now ok (.bl _) p⟩

/-! ### len of a dict, tuple(..) -/
theorem call_lenDR : CallR X (.builtin "len") (fun xs H Q => ∃ a kvs, xs = [V.ref a] ∧ Rd H a (.dK kvs) ∧ Q (.int kvs.length) H) := by
  intro pins s σ H xs us Q I r h
  obtain ⟨a, kvs, rfl, ha, q⟩ := h
  obtain ⟨u, rfl, ru⟩ := vals1 r
  cases ru
  exact d_len I ha fun t s' I' => ⟨.int kvs.length, H, I', ⟨t, rfl⟩, q⟩
def oLenU : WL := fun ss Ω P => oLen ss Ω P ∨ ∃ s kvs, ss = [s] ∧ asD Ω s = some kvs ∧ P (.int kvs.length) Ω
theorem OC.or {f : Value} {r r' : List V → Hp → VK → Prop} {o o' : WL} (h : OC X f r o) (h' : OC X f r' o') : OC X f (fun xs H Q => r xs H Q ∨ r' xs H Q) (fun ss Ω P => o ss Ω P ∨ o' ss Ω P) := ⟨h.pe.or h'.pe, fun Z H Ω xs ss P Q ok r w k => by
  rcases w with w | w
  · exact .inl (h.se Z H Ω xs ss P Q ok r w k)
  · exact .inr (h'.se Z H Ω xs ss P Q ok r w k)⟩
theorem oc_lenD : OC X (.builtin "len") (fun xs H Q => ∃ a kvs, xs = [V.ref a] ∧ Rd H a (.dK kvs) ∧ Q (.int kvs.length) H) (fun ss Ω P => ∃ s kvs, ss = [s] ∧ asD Ω s = some kvs ∧ P (.int kvs.length) Ω) :=
  ⟨call_lenDR, fun Z H Ω xs ss P Q ok r ⟨s, kvs, e, h, p⟩ k => by
  subst e
  obtain ⟨v, rfl, q1⟩ := repL1 r
  obtain ⟨l, ks, rfl, h1, h2, h3⟩ := rep_DK ok q1 h
  have el : ks.length = kvs.length := by simpa using congrArg List.length h2
  exact ⟨l, ks, rfl, h1, by rw [el]; exact k.now ok (.int _) p⟩⟩
theorem oc_lenU {K : PySem.W.Frag} (hK : X.K = K := by rfl) : OC X (.builtin "len") (fun xs H Q => ((∃ p ys, xs = [.ref p] ∧ (SqL K H p ys ∨ SqT K H p ys) ∧ Q (.int ys.length) H) ∨ (∃ z, xs = [.str z] ∧ z.length ≤ sizeLine ∧ Q (.int z.length) H)) ∨
    ∃ a kvs, xs = [V.ref a] ∧ Rd H a (.dK kvs) ∧ Q (.int kvs.length) H) oLenU := (oc_len hK).or oc_lenD
def oTuple : WL := fun ss Ω P => ∃ s xs, ss = [s] ∧ ((asL Ω s = some xs ∧ P (.tup xs) Ω) ∨ (s = .tup xs ∧ P s Ω))
theorem oc_tuple {K : PySem.W.Frag} (hK : X.K = K := by rfl) : OC X (.type "tuple") (fun xs H Q => ∃ p ys, xs = [.ref p] ∧ ((SqL K H p ys ∧ ∀ l, H l = none → Q (.ref l) (upd H l (.tup ys))) ∨ (SqT K H p ys ∧ Q (.ref p) H))) oTuple := by
  subst hK
  exact ⟨call_tuple_of, fun Z H Ω xs ss P Q ok r ⟨s, ys, e, h⟩ k => by
  subst e
  obtain ⟨v, rfl, q1⟩ := repL1 r
  rcases h with ⟨h, p⟩ | ⟨h, p⟩
  · obtain ⟨l, zs, rfl, hq, q2⟩ := rep_L ok q1 h
    exact ⟨l, zs, rfl, .inl ⟨hq, fun q hp => k.tup ok hp q2 p⟩⟩
  · subst h
    obtain ⟨l, zs, rfl, hq, q2⟩ := rep_T q1 rfl
    exact ⟨l, zs, rfl, .inr ⟨hq, k.now ok q1 p⟩⟩⟩

/-! ### d.setdefault(k, e), d.get(k, e) -/
def dNotT (Ω : Om) (s : S) : Prop := ∃ kvs, asD Ω s = some kvs
theorem isD_of {K : PySem.W.Frag} {Z : Addr → Prop} {Ω : Om} {H : Hp} {x : V} {s : S} (ok : Ok K Z Ω H) (r : Rep K (mu Z Ω) H x s) (h : dNotT Ω s) : ∃ l, x = .ref l ∧ IsD H l := by
  obtain ⟨kvs, e⟩ := h
  obtain ⟨l, ks, rfl, h1, _⟩ := rep_DK ok r e
  exact ⟨l, rfl, .inl ⟨ks, h1⟩⟩
def setdAt (P : WP) (p : Addr) (y z : S) (Ω3 : Om) : Prop := ∃ kvs k, Ω3 p = some (.dK kvs) ∧ y = kS k ∧ kvs.length < sizeLine ∧ (match vOf kvs k with
  | some s => P s Ω3
  | none => P z (put Ω3 p (.dK (pOf kvs k z))))
def setd1 (wk wz : WE) (Γ : Ga) (P : WP) (s : S) (Ω1 : Om) : Prop := ∃ p kvs, s = .adr p ∧ Ω1 p = some (.dK kvs) ∧ wk Γ Ω1 fun y Ω2 => wz Γ Ω2 fun z Ω3 => setdAt P p y z Ω3
def wSetd (wd wk wz : WE) : WE := fun Γ Ω P => wd Γ Ω fun s Ω1 => setd1 wk wz Γ P s Ω1
theorem oe_setd {o f : Expr} {tf : TE} {wo wf : WE} {to : TE} {apos cpos : Pos} (ho : OE X o to wo) (he : OE X e te we) (hf : OE X f tf wf)
    (m : M2 X o "setdefault" apos e f cpos := by exact ⟨rfl, rfl, rfl, rfl⟩) : OE X (.Call (.Attribute o "setdefault" apos) [e, f] [] cpos) (tDSetd to te tf) (wSetd wo we wf) :=
  ⟨pe_dsetd ho.pe he.pe hf.pe m, fun Z σ H Γ Ω P Q ok en w k => ho.se Z σ H Γ Ω _ _ ok en w fun x s Ω1 H1 o1 f1 r1 ⟨p, kvs0, es, h0, w1⟩ => by
    subst es
    cases r1
    obtain ⟨ks0, q1, _⟩ := o1.cells p _ h0
    refine ⟨p, rfl, .inl ⟨_, .inl q1⟩, he.se Z σ H1 Γ Ω1 _ _ o1 (en.frm f1 ok) w1 fun y sy Ω2 H2 o2 f2 r2 w2 => hf.se Z σ H2 Γ Ω2 _ _ o2 ((en.frm f1 ok).frm f2 o1) w2 fun z sz Ω3 H3 o3 f3 r3 ⟨kvs, k', h1, ey, hl, w3⟩ => ?_⟩
    subst ey
    have ry := f3.rep o2 r2
    obtain ⟨ks, q2, q3, q4⟩ := o3.cells p _ h1
    have el : ks.length = kvs.length := by simpa using congrArg List.length q3
    have F := f1.trans (f2.trans f3)
    refine ⟨ks, k', q2, rep_k ry, by rw [el]; exact hl, fun v hv => ?_, fun hn => ?_⟩
    · cases h : vOf kvs k' with
      | none => rw [rep_valN q3 h] at hv; cases hv
      | some s =>
        rw [h] at w3
        obtain ⟨u, h4, h5⟩ := rep_val q3 q4 h
        rw [h4] at hv
        cases hv
        exact (k.frm F).now o3 h5 w3
    · cases h : vOf kvs k' with
      | some s =>
        obtain ⟨u, h4, h5⟩ := rep_val q3 q4 h
        rw [h4] at hn
        cases hn
      | none =>
        rw [h] at w3
        obtain ⟨e1, e2⟩ := rep_put (k := k') q3 q4 r3
        have fm : Frm Ω3 H3 (put Ω3 p (.dK (pOf kvs k' sz))) (upd H3 p (.dK (putK ks k' z))) := frm_mut h1
        have om : Ok X.K Z (put Ω3 p (.dK (pOf kvs k' sz))) (upd H3 p (.dK (putK ks k' z))) := o3.mut (d := .dK (pOf kvs k' sz)) h1 ⟨_, upd_same, e1, repL_upd h1 e2⟩
        exact k _ _ _ _ om (F.trans fm) (fm.rep o3 r3) w3⟩
def getdAt (P : WP) (s y z : S) (Ω3 : Om) : Prop := ∃ kvs k, asD Ω3 s = some kvs ∧ y = kS k ∧ P ((vOf kvs k).getD z) Ω3
def getd1 (wk wz : WE) (Γ : Ga) (P : WP) (s : S) (Ω1 : Om) : Prop := dNotT Ω1 s ∧ wk Γ Ω1 fun y Ω2 => wz Γ Ω2 fun z Ω3 => getdAt P s y z Ω3
def wGetd (wd wk wz : WE) : WE := fun Γ Ω P => wd Γ Ω fun s Ω1 => getd1 wk wz Γ P s Ω1
theorem oe_getd {o f : Expr} {tf : TE} {wo wf : WE} {to : TE} {apos cpos : Pos} (hu : X.A.units + 64 < cLine) (ho : OE X o to wo) (he : OE X e te we) (hf : OE X f tf wf)
    (m : M2 X o "get" apos e f cpos := by exact ⟨rfl, rfl, rfl, rfl⟩) : OE X (.Call (.Attribute o "get" apos) [e, f] [] cpos) (tDGet2 to te tf) (wGetd wo we wf) :=
  ⟨pe_dget2 (by omega) ho.pe he.pe hf.pe m, fun Z σ H Γ Ω P Q ok en w k => ho.se Z σ H Γ Ω _ _ ok en w fun x s Ω1 H1 o1 f1 r1 ⟨h0, w1⟩ => by
    obtain ⟨p, rfl, d⟩ := isD_of o1 r1 h0
    refine ⟨p, rfl, d, he.se Z σ H1 Γ Ω1 _ _ o1 (en.frm f1 ok) w1 fun y sy Ω2 H2 o2 f2 r2 w2 => hf.se Z σ H2 Γ Ω2 _ _ o2 ((en.frm f1 ok).frm f2 o1) w2 fun z sz Ω3 H3 o3 f3 r3 ⟨kvs, k', h1, ey, w3⟩ => ?_⟩
    subst ey
    have ry := f3.rep o2 r2
    have rx := (f2.trans f3).rep o1 r1
    obtain ⟨l, ks, el, q2, q3, q4⟩ := rep_DK o3 rx h1
    cases el
    have F := f1.trans (f2.trans f3)
    refine ⟨_, .inl ⟨ks, k', q2, rep_k ry, rfl⟩, ?_⟩
    cases h : vOf kvs k' with
    | none =>
      rw [h] at w3
      rw [rep_valN q3 h]
      exact (k.frm F).now o3 r3 w3
    | some s =>
      rw [h] at w3
      obtain ⟨u, h4, h5⟩ := rep_val q3 q4 h
      rw [h4]
      exact (k.frm F).now o3 h5 w3⟩

/-! ### o[i] = v, o[i] op= v, of a list or a dict -/
theorem PSet.or {t t' : TSet} (h : PSet X t) (h' : PSet X t') : PSet X (fun o i v H Q => t o i v H Q ∨ t' o i v H Q) := by
  intro pins s σ H o i v ov iv u Q I ro ri rv w
  rcases w with w | w
  · exact h pins s σ H o i v ov iv u Q I ro ri rv w
  · exact h' pins s σ H o i v ov iv u Q I ro ri rv w
theorem PGet.or {t t' : V → V → Hp → VK → Prop} (h : PGet X t) (h' : PGet X t') : PGet X (fun o i H Q => t o i H Q ∨ t' o i H Q) := by
  intro pins s σ H o i ov iv Q I ro ri w
  rcases w with w | w
  · exact h pins s σ H o i ov iv Q I ro ri w
  · exact h' pins s σ H o i ov iv Q I ro ri w
theorem get_list : PGet X (rIxL X.K) := by
  intro pins s σ H x y v u Q I rx ry h
  obtain ⟨p, xs, i, z, rfl, rfl, hq, he, q⟩ := h
  cases rx
  obtain ⟨t, rfl⟩ := ry
  obtain ⟨its, r, pl, hz⟩ := I.list hq
  obtain ⟨j, h1, h2, h3, h4, h5⟩ := atI_get he
  obtain ⟨w, ew, rw'⟩ := r.get h2
  have hl := r.length
  have hn := line63
  have fin : EP X pins σ Q w s := ⟨z, H, I, rw', q⟩
  by_cases h0 : 0 ≤ i
  · have hj : i.toNat = j := by
      rw [seqIndex_of h0 h5] at h1
      exact Option.some.inj h1
    exact wpAny_getItem_list pl.isList h0 (by omega) (by rw [hj]; simpa using ew) fin
  · have hj : (i + (its.toArray.size : Int)).toNat = j := by
      rw [seqIndex_neg (by omega) h4] at h1
      rw [List.size_toArray, ← hl]
      exact Option.some.inj h1
    exact wpAny_getItem_list_neg (Q := EP X pins σ Q) pl.isList (by omega) (by rw [List.size_toArray] <;> omega) (by omega) (by rw [hj]; simpa using ew) fin
theorem get_dict (hu : X.A.units + 1 < cLine) : PGet X rDGet := by
  intro pins s σ H x y v u Q I rx ry h
  obtain ⟨a, z, rfl, g, q⟩ := h
  cases (show v = Value.ref a from rx)
  exact d_getItem hu I g ry fun w' s3 I3 rw' => ⟨z, H, I3, rw', q⟩
def putAt (P : Ga → Om → Prop) (s : S) (Γ : Ga) (o i : S) (Ω2 : Om) : Prop := ∃ p kvs k, o = .adr p ∧ i = kS k ∧ Ω2 p = some (.dK kvs) ∧ kvs.length < sizeLine ∧ P Γ (put Ω2 p (.dK (pOf kvs k s)))
def subAtU (P : Ga → Om → Prop) (s : S) (Γ : Ga) (o i : S) (Ω2 : Om) : Prop := subAt P s Γ o i Ω2 ∨ putAt P s Γ o i Ω2
def wgSubU (wo wi : WE) : WG := fun s Γ Ω P => wo Γ Ω fun o Ω1 => wi Γ Ω1 fun i Ω2 => subAtU P s Γ o i Ω2
abbrev rSetU : TSet := fun o i v H Q => rSetL o i v H Q ∨ rSetD o i v H Q
theorem set_U {K : PySem.W.Frag} {Z : Addr → Prop} {Γ : Ga} {Ω2 : Om} {H2 : Hp} {x y v : V} {sx sy s : S} {P : Ga → Om → Prop} {Q : Hp → Prop} (o2 : Ok K Z Ω2 H2) (rx : Rep K (mu Z Ω2) H2 x sx) (ry : Rep K (mu Z Ω2) H2 y sy) (rv : Rep K (mu Z Ω2) H2 v s)
    (w : subAtU P s Γ sx sy Ω2) (k : ∀ Ω3 H3, Ok K Z Ω3 H3 → Frm Ω2 H2 Ω3 H3 → P Γ Ω3 → Q H3) : rSetU x y v H2 Q := by
  rcases w with ⟨p, xs, n, j, rfl, rfl, hp, hj, q⟩ | ⟨p, kvs, kk, rfl, rfl, hp, hl, q⟩
  · cases rx
    cases ry
    obtain ⟨ys, h1, h2⟩ := o2.cells p _ hp
    refine .inl ⟨p, ys, n, j, rfl, rfl, h1, by rw [h2.length]; exact hj, ?_⟩
    have fm : Frm Ω2 H2 (put Ω2 p (.lst (xs.set j s))) (upd H2 p (.lst (ys.set j v))) := frm_mut hp
    have om : Ok K Z (put Ω2 p (.lst (xs.set j s))) (upd H2 p (.lst (ys.set j v))) := o2.mut (d := .lst (xs.set j s)) hp ⟨_, upd_same, repL_upd hp (h2.set rv j)⟩
    exact k _ _ om fm q
  · cases rx
    obtain ⟨ks, q2, q3, q4⟩ := o2.cells p _ hp
    have el : ks.length = kvs.length := by simpa using congrArg List.length q3
    obtain ⟨e1, e2⟩ := rep_put (k := kk) q3 q4 rv
    have fm : Frm Ω2 H2 (put Ω2 p (.dK (pOf kvs kk s))) (upd H2 p (.dK (putK ks kk v))) := frm_mut hp
    have om : Ok K Z (put Ω2 p (.dK (pOf kvs kk s))) (upd H2 p (.dK (putK ks kk v))) := o2.mut (d := .dK (pOf kvs kk s)) hp ⟨_, upd_same, e1, repL_upd hp e2⟩
    exact .inr ⟨p, _, rfl, .inl ⟨ks, kk, q2, rep_k ry, by rw [el]; exact hl, rfl⟩, k _ _ om fm q⟩
theorem og_subU {o i : Expr} {to ti : TE} {wo wi : WE} (hu : X.A.units + 64 < cLine) (ho : OE X o to wo) (hi : OE X i ti wi)
    (ha : ∀ v, assign (.Subscript o i pos) X.env v = (do
      let ov ← holding [v] (eval o X.env)
      let iv ← holding [v, ov] (eval i X.env)
      standAt pos
      holding [v, ov, iv] (setItem ov iv v)
      release [v, ov, iv] []) := by intro _; rfl) : OG X (.Subscript o i pos) [] (gSub to ti rSetU) (wgSubU wo wi) :=
  ⟨pg_sub ho.pe hi.pe (PSet.or set_list (set_dict (by omega))) ha, fun Z v s σ H Γ Ω P Q ok en r w k => ho.se Z σ H Γ Ω _ _ ok en w fun x sx Ω1 H1 o1 f1 r1 w1 => hi.se Z σ H1 Γ Ω1 _ _ o1 (en.frm f1 ok) w1 fun y sy Ω2 H2 o2 f2 r2 w2 =>
    set_U o2 (f2.rep o1 r1) r2 ((f1.trans f2).rep ok r) w2 fun Ω3 H3 o3 f3 q => k _ _ _ _ o3 ((f1.trans f2).trans f3) (((en.frm f1 ok).frm f2 o1).frm f3 o2) .refl q⟩
def itemU (o i : S) (Ω : Om) (P : Int → Prop) : Prop := (∃ xs k m, asL Ω o = some xs ∧ i = .int k ∧ atI xs k = some (.int m) ∧ P m) ∨ (∃ kvs k m, asD Ω o = some kvs ∧ i = kS k ∧ vOf kvs k = some (.int m) ∧ P m)
def wAugS (f : Int → Int → Int) (wo wi we : WE) : WS := fun O Γ Ω => wo Γ Ω fun o Ω1 => wi Γ Ω1 fun i Ω2 => itemU o i Ω2 fun m => we Γ Ω2 fun s Ω3 => ∃ n, s = .int n ∧ subAtU O.nx (.int (f m n)) Γ o i Ω3
theorem os_augS {K : PySem.W.Frag} {o i : Expr} {to ti : TE} {wo wi : WE} {op : Operator} {f : Int → Int → Int} {tpos : Pos} (hu : X.A.units + 64 < cLine) (ho : OE X o to wo) (hi : OE X i ti wi) (he : OE X e te we) (hp : PIp X op (ipI f))
    (ha : ∀ ov iv new, augStore i ov iv new = (do holding [new, ov, iv] (setItem ov iv new); release [new, ov, iv] []; pure .next) := by intros; rfl) (hK : X.K = K := by rfl) :
    OS X (.AugAssign (.Subscript o i tpos) op e pos) (tAugS to ti te (fun x y H Q => rIxL K x y H Q ∨ rDGet x y H Q) (ipI f) rSetU) (wAugS f wo wi we) := by
  subst hK
  exact ⟨ps_augS ho.pe hi.pe (PGet.or get_list (get_dict (by omega))) he.pe hp (PSet.or set_list (set_dict (by omega))) ha, fun Z σ H Γ Ω O D ok en w k => ho.se Z σ H Γ Ω _ _ ok en w fun x sx Ω1 H1 o1 f1 r1 w1 => hi.se Z σ H1 Γ Ω1 _ _ o1 (en.frm f1 ok) w1 fun y sy Ω2 H2 o2 f2 r2 w2 => by
    have rx := f2.rep o1 r1
    have e2 := (en.frm f1 ok).frm f2 o1
    have rest : ∀ m : Int, (we Γ Ω2 fun s Ω3 => ∃ n, s = .int n ∧ subAtU O.nx (.int (f m n)) Γ sx sy Ω3) → te σ H2 fun z H4 => ipI f (.int m) z H4 fun z H5 => rSetU x y z H5 fun H6 => D.nx σ H6 := fun m w3 =>
      he.se Z σ H2 Γ Ω2 _ _ o2 e2 w3 fun z sz Ω3 H3 o3 f3 r3 ⟨n, es, w4⟩ => by
        subst es
        cases r3
        exact ⟨m, n, rfl, rfl, set_U o3 (f3.rep o2 rx) (f3.rep o2 r2) (.int _) w4 fun Ω4 H4 o4 f4 q => k.nx _ _ _ _ o4 ((f1.trans f2).trans (f3.trans f4)) (e2.frm (f3.trans f4) o2) q⟩
    rcases w2 with ⟨xs, kk, m, h1, rfl, h2, w3⟩ | ⟨kvs, kk, m, h1, rfl, h2, w3⟩
    · obtain ⟨l, ys, rfl, hq, rr⟩ := rep_L o2 rx h1
      obtain ⟨v, h3, h4⟩ := repL_at rr h2
      cases h4
      exact .inl ⟨l, ys, kk, _, rfl, rep_int r2, hq, h3, rest m w3⟩
    · obtain ⟨l, ks, rfl, q1, q2, q3⟩ := rep_DK o2 rx h1
      obtain ⟨v, h3, h4⟩ := rep_val q2 q3 h2
      cases h4
      exact .inr ⟨l, _, rfl, .inl ⟨ks, kk, q1, rep_k r2, h3.symm⟩, rest m w3⟩⟩

/-! ### xs.insert(i, y) -/
def insAt (O : OEnds) (Γ : Ga) (p : Addr) (ss : List S) (Ω2 : Om) : Prop := ∃ xs i y, ss = [.int i, y] ∧ Ω2 p = some (.lst xs) ∧ xs.length < sizeLine ∧ 0 ≤ i ∧ i < 2 ^ 63 ∧ O.nx Γ (put Ω2 p (.lst (xs.take i.toNat ++ [y] ++ xs.drop i.toNat)))
def ins1 (wa : WA) (O : OEnds) (Γ : Ga) (o : S) (Ω1 : Om) : Prop := ∃ p zs, o = .adr p ∧ Ω1 p = some (.lst zs) ∧ wa Γ Ω1 fun ss Ω2 => insAt O Γ p ss Ω2
def wInsert (wo : WE) (wa : WA) : WS := fun O Γ Ω => wo Γ Ω fun o Ω1 => ins1 wa O Γ o Ω1
theorem os_insert {K : PySem.W.Frag} {o f : Expr} {to : TE} {t : TA} {wa : WA} {wo : WE} {apos cpos : Pos} (ho : OE X o to wo) (he : OA X [e, f] t wa)
    (hbase : attributeBase o "insert" X.env (eval o X.env) = eval o X.env := by rfl)
    (hfew : ((backTo cpos (starEach [e, f] X.env)).all (fun x => !x.1) && (backToKw cpos (keywordEach [] X.env)).all (fun x => x.1.isSome)
      && decide ([e, f].length + ([] : List Keyword).length + (if ([] : List Keyword).isEmpty then 0 else 1) < 30)) = true := by rfl)
    (hline : (apos.endLine == cpos.line) = true := by rfl) (hst : starEach [e, f] X.env = (false, eval e X.env) :: starEach [f] X.env := by rfl) (hplain : (backTo cpos (starEach [f] X.env)).any (·.1) = false := by rfl)
    (hs : swapsWith (.Call (.Attribute o "insert" apos) [e, f] [] cpos) none pos.line X.env = pure false := by rfl) (hK : X.K = K := by rfl) :
    OS X (.Expr (.Call (.Attribute o "insert" apos) [e, f] [] cpos) pos) (tDrop (tBM K "list" (fun x vs H Q => ∃ (l : Addr) (xs : List V) (i : Int) (y : V), x = .ref l ∧ vs = [.int i, y] ∧ H l = some (.lst xs) ∧ xs.length < sizeLine ∧ 0 ≤ i ∧ i < 2 ^ 63 ∧
    Q .non (upd H l (.lst (xs.take i.toNat ++ [y] ++ xs.drop i.toNat)))) to t)) (wInsert wo wa) := by
  subst hK
  exact ⟨ps_expr (pe_bm PySem.F.plainAttrs_list PySem.F.slot_list_insert PySem.F.type_list_insert mt_insert ho.pe he.pe hbase hfew hline hst hplain) hs, fun Z σ H Γ Ω O D ok en w k => ho.se Z σ H Γ Ω _ _ ok en w fun v s Ω1 H1 o1 f1 r1 ⟨p, zs, es, hz, w1⟩ => by
    subst es
    cases r1
    obtain ⟨ys, h2, r2⟩ := o1.cells p _ hz
    refine ⟨.inl ⟨rfl, ys, .inl (.inl h2)⟩, he.se Z σ H1 Γ Ω1 _ _ o1 (en.frm f1 ok) w1 fun vs ss Ω2 H2 o2 f2 r3 ⟨xs, i, y, ess, hx, hl, h0, h63, q⟩ => ?_⟩
    subst ess
    obtain ⟨v1, v2, rfl, ra, rb⟩ := repL2 r3
    cases ra
    obtain ⟨us, h4, r4⟩ := o2.cells p _ hx
    refine ⟨p, us, i, v2, rfl, rfl, h4, by rw [r4.length]; exact hl, h0, h63, ?_⟩
    have fm : Frm Ω2 H2 (put Ω2 p (.lst (xs.take i.toNat ++ [y] ++ xs.drop i.toNat))) (upd H2 p (.lst (us.take i.toNat ++ [v2] ++ us.drop i.toNat))) := frm_mut hx
    have om : Ok X.K Z (put Ω2 p (.lst (xs.take i.toNat ++ [y] ++ xs.drop i.toNat))) (upd H2 p (.lst (us.take i.toNat ++ [v2] ++ us.drop i.toNat))) :=
      o2.mut (d := .lst (xs.take i.toNat ++ [y] ++ xs.drop i.toNat)) hx ⟨_, upd_same, repL_upd hx (((r4.take _).append (.cons rb .nil)).append (r4.drop _))⟩
    exact k.nx _ _ _ _ om ((f1.trans f2).trans fm) (((en.frm f1 ok).frm f2 o1).frm fm o2) q⟩

/-! ### for k in d, for k, v in d.items(): of a dict that is only read -/
def itemsL (kvs : List (Key × S)) : List S := kvs.map fun p => .tup [kS p.1, p.2]
def keysL (kvs : List (Key × S)) : List S := kvs.map fun p => kS p.1
theorem rep_frzAt {K : PySem.W.Frag} {Z Z2 : Addr → Prop} {Ω1 Ω' : Om} {H1 H' : Hp} {d : Addr} {o : Obj} {ks : List (Key × V)} {kvs : List (Key × S)} (h0 : ¬ mu Z Ω1 d) (h : H1 d = some (.frz o (.dK ks))) (r : RepL K (mu Z Ω1) H1 (ks.map (·.2)) (kvs.map (·.2)))
    (hz : ∀ a, Z2 a → Z a ∨ H1 a = none) (f : Frm Ω1 H1 Ω' H') : H' d = some (.frz o (.dK ks)) ∧ RepL K (mu Z2 Ω') H' (ks.map (·.2)) (kvs.map (·.2)) :=
  ⟨f.keep _ _ h (no_some fun q => h0 (.inr q)), repL_later hz f r⟩
def dicAt (P : WQ) (L : List (Key × S) → List S) (s : S) (Ω1 : Om) : Prop := ∃ kvs, s = .dic kvs ∧ P (L kvs) (fun _ => True) Ω1
def wiKeys (we : WE) : WI := fun Γ Ω P => we Γ Ω fun s Ω1 => dicAt P keysL s Ω1
def wiItems (we : WE) : WI := fun Γ Ω P => we Γ Ω fun s Ω1 => dicAt P itemsL s Ω1
theorem get_keys {ks : List (Key × V)} {kvs : List (Key × S)} (e : ks.map (·.1) = kvs.map (·.1)) {i : Nat} {k : Key} {v : V} (h : ks[i]? = some (k, v)) : ∃ s, kvs[i]? = some (k, s) := by
  have h1 : (ks.map (·.1))[i]? = some k := by rw [List.getElem?_map, h]; rfl
  rw [e, List.getElem?_map] at h1
  cases q : kvs[i]? with
  | none => rw [q] at h1; cases h1
  | some p =>
    rw [q] at h1
    obtain ⟨k', s⟩ := p
    cases h1
    exact ⟨s, rfl⟩
theorem oi_keys {tg : Expr} (h : OE X e te we) : OI X tg e (iKeys te) (wiKeys we) :=
  ⟨pi_keys h.pe, fun Z σ H Γ Ω P R ok en w k => h.se Z σ H Γ Ω _ _ ok en w fun v s Ω1 H1 o1 f1 r1 ⟨kvs, es, q⟩ => by
    subst es
    cases r1 with
    | @dic a od ks _ h0 hh e1 r =>
      refine ⟨a, od, rfl, .inl ⟨ks, hh, k _ _ _ _ _ o1 f1 (fun Z2 Ω' H' hz o' f' _ => ?_) q⟩⟩
      obtain ⟨h2, r2⟩ := rep_frzAt h0 hh r hz f'
      have el : ks.length = kvs.length := by simpa using congrArg List.length e1
      have ell : (keysL kvs).length = kvs.length := by unfold keysL; rw [List.length_map]
      refine ⟨fun i hi => ⟨h2, by omega⟩, ⟨h2, by omega⟩, fun i x H2 hi y => ?_⟩
      obtain ⟨rfl, kk, v, hk, rfl⟩ := y
      obtain ⟨sv, hs⟩ := get_keys e1 hk
      exact ⟨kS kk, by unfold keysL; rw [List.getElem?_map, hs]; rfl, o', .refl, rep_kV kk⟩⟩
theorem oi_items {elts : List Expr} {kk : Nat} {tpos apos cpos : Pos} (h : OE X e te we) (hbase : attributeBase e "items" X.env (eval e X.env) = eval e X.env := by rfl) (hline : (apos.endLine == cpos.line) = true := by rfl) :
    OI X (.Tuple elts kk tpos) (.Call (.Attribute e "items" apos) [] [] cpos) (iItems te) (wiItems we) :=
  ⟨pi_items h.pe hbase hline, fun Z σ H Γ Ω P R ok en w k => h.se Z σ H Γ Ω _ _ ok en w fun v s Ω1 H1 o1 f1 r1 ⟨kvs, es, q⟩ => by
    subst es
    cases r1 with
    | @dic a od ks _ h0 hh e1 r =>
      refine ⟨a, od, ks, rfl, hh, k _ _ _ _ _ o1 f1 (fun Z2 Ω' H' hz o' f' _ => ?_) q⟩
      obtain ⟨h2, r2⟩ := rep_frzAt h0 hh r hz f'
      have el : ks.length = kvs.length := by simpa using congrArg List.length e1
      have ell : (itemsL kvs).length = kvs.length := by unfold itemsL; rw [List.length_map]
      refine ⟨fun i hi => ⟨h2, by omega⟩, ⟨h2, by omega⟩, fun i x H2 hi y => ?_⟩
      obtain ⟨T, kk, v, hk, rfl, hT, rfl⟩ := y
      obtain ⟨sv, hs⟩ := get_keys e1 hk
      have hv : (ks.map (·.2))[i]? = some v := by rw [List.getElem?_map, hk]; rfl
      obtain ⟨s', h3, h4⟩ := r2.getV hv
      rw [List.getElem?_map, hs] at h3
      cases h3
      obtain ⟨p1, p2, p3⟩ := wk_pairs o' hT (rep_kV kk) h4
      exact ⟨_, by unfold itemsL; rw [List.getElem?_map, hs]; rfl, p1, p2, p3⟩⟩
end
end Om
/-! Om: own classes. -/
namespace Om
open PySem L2
open PyProof.Rows (b2i)
/-- an attribute set -/
def fPut {α : Type} (f : Str) (v : α) : List (Str × α) → List (Str × α)
  | [] => [(f, v)]
  | (g, x) :: r => if g = f then (g, v) :: r else (g, x) :: fPut f v r
section
variable {K : PySem.W.Frag} {N : Addr → Prop} {H : Hp}
theorem putF_fPut (f : Str) (v : V) : ∀ fs : List (Str × V), putF f v fs = fPut f v fs
  | [] => rfl
  | (g, x) :: r => by
    unfold putF fPut
    rw [putF_fPut f v r]
theorem rep_look : ∀ {ks : List (Str × V)} {fs : List (Str × S)} {f : Str} {s : S}, ks.map (·.1) = fs.map (·.1) → RepL K N H (ks.map (·.2)) (fs.map (·.2)) → fs.lookup f = some s → ∃ v, ks.lookup f = some v ∧ Rep K N H v s
  | [], [], _, _, _, _, h => by cases h
  | [], _ :: _, _, _, e, _, _ => by simp at e
  | _ :: _, [], _, _, e, _, _ => by simp at e
  | (p, v) :: ks, (q, s0) :: fs, f, s, e, r, h => by
    simp only [List.map_cons, List.cons.injEq] at e
    obtain ⟨e1, e2⟩ := e
    subst e1
    cases r with
    | cons r1 r2 =>
      by_cases ef : f = p
      · subst ef
        simp at h
        subst h
        exact ⟨v, by simp, r1⟩
      · have hb : (f == p) = false := beq_eq_false_iff_ne.mpr ef
        rw [List.lookup, hb] at h
        obtain ⟨u, h1, h2⟩ := rep_look e2 r2 h
        exact ⟨u, by rw [List.lookup, hb]; exact h1, h2⟩
theorem rep_lookN : ∀ {ks : List (Str × V)} {fs : List (Str × S)} {f : Str}, ks.map (·.1) = fs.map (·.1) → fs.lookup f = none → ks.lookup f = none
  | [], [], _, _, _ => rfl
  | [], _ :: _, _, e, _ => by simp at e
  | _ :: _, [], _, e, _ => by simp at e
  | (p, v) :: ks, (q, s0) :: fs, f, e, h => by
    simp only [List.map_cons, List.cons.injEq] at e
    obtain ⟨e1, e2⟩ := e
    subst e1
    by_cases ef : f = p
    · subst ef
      simp at h
    · have hb : (f == p) = false := beq_eq_false_iff_ne.mpr ef
      rw [List.lookup, hb] at h
      rw [List.lookup, hb]
      exact rep_lookN e2 h
theorem rep_fput {f : Str} {v : V} {s : S} (rv : Rep K N H v s) : ∀ {ks : List (Str × V)} {fs : List (Str × S)}, ks.map (·.1) = fs.map (·.1) → RepL K N H (ks.map (·.2)) (fs.map (·.2)) →
    (putF f v ks).map (·.1) = (fPut f s fs).map (·.1) ∧ RepL K N H ((putF f v ks).map (·.2)) ((fPut f s fs).map (·.2))
  | [], [], _, _ => ⟨rfl, .cons rv .nil⟩
  | [], _ :: _, e, _ => by simp at e
  | _ :: _, [], e, _ => by simp at e
  | (p, u) :: ks, (q, s0) :: fs, e, r => by
    simp only [List.map_cons, List.cons.injEq] at e
    obtain ⟨e1, e2⟩ := e
    subst e1
    cases r with
    | cons r1 r2 =>
      obtain ⟨h1, h2⟩ := rep_fput rv e2 r2
      unfold putF fPut
      by_cases ef : p = f
      · rw [if_pos ef, if_pos ef]
        exact ⟨by simp [e2], .cons rv r2⟩
      · rw [if_neg ef, if_neg ef]
        exact ⟨by simp [h1], .cons r1 h2⟩
end
/-- the classes Cs have no name f of their own -/
def Flds (K : PySem.W.Frag) (Cs : List Str) (f : Str) : Prop := ∀ C ∈ Cs, Cls K (He.ga K C) ∧ NoAttr K (He.ga K C) f
section
variable {X : Cx} {e a b : Expr} {te ta tb : TE} {we wa wb : WE} {pos : Pos}
def fldAt (P : WP) (Cs : List Str) (f : Str) (s : S) (Ω1 : Om) : Prop := ∃ a C fs v, s = .adr a ∧ Ω1 a = some (.ins C fs) ∧ C ∈ Cs ∧ fs.lookup f = some v ∧ P v Ω1
def wFld (Cs : List Str) (f : Str) (we : WE) : WE := fun Γ Ω P => we Γ Ω fun s Ω1 => fldAt P Cs f s Ω1
theorem oe_fld {K : PySem.W.Frag} {Cs : List Str} {f : Str} (c : Flds K Cs f) (he : OE X e te we) (hb : attributeBase e f X.env (eval e X.env) = eval e X.env := by rfl) (hK : X.K = K := by rfl) : OE X (.Attribute e f pos) (tFld K te f) (wFld Cs f we) := by
  subst hK
  exact ⟨pe_fld he.pe hb, fun Z σ H Γ Ω P Q ok en w k => he.se Z σ H Γ Ω _ _ ok en w fun v s Ω1 H1 o1 f1 r1 ⟨a, C, fs, u, es, ha, hC, hl, p⟩ => by
    subst es
    cases r1
    obtain ⟨dx, ks, h1, h2, h3⟩ := o1.cells a _ ha
    obtain ⟨v, h4, h5⟩ := rep_look h2 h3 hl
    exact ⟨a, He.ga X.K C, dx, ks, v, rfl, h1, (c C hC).1, (c C hC).2, h4, (k.frm f1).now o1 h5 p⟩⟩
def setfAt (O : OEnds) (Γ : Ga) (Cs : List Str) (f : Str) (y s : S) (Ω2 : Om) : Prop := ∃ a C fs, s = .adr a ∧ Ω2 a = some (.ins C fs) ∧ C ∈ Cs ∧ fs.length < 1000 ∧ O.nx Γ (put Ω2 a (.ins C (fPut f y fs)))
def wSetF (Cs : List Str) (f : Str) (wv wo : WE) : WS := fun O Γ Ω => wv Γ Ω fun y Ω1 => wo Γ Ω1 fun s Ω2 => setfAt O Γ Cs f y s Ω2
theorem ok_fput {K : PySem.W.Frag} {Z : Addr → Prop} {Ω : Om} {H : Hp} {a dx : Addr} {C f : Str} {fs : List (Str × S)} {ks : List (Str × V)} {y : V} {sy : S} (o : Ok K Z Ω H) (ha : Ω a = some (.ins C fs)) (h2 : ks.map (·.1) = fs.map (·.1)) (h3 : RepL K (mu Z Ω) H (ks.map (·.2)) (fs.map (·.2)))
    (ry : Rep K (mu Z Ω) H y sy) : Ok K Z (put Ω a (.ins C (fPut f sy fs))) (upd H a (.ins (He.ga K C) dx (putF f y ks))) ∧ Frm Ω H (put Ω a (.ins C (fPut f sy fs))) (upd H a (.ins (He.ga K C) dx (putF f y ks))) := by
  obtain ⟨e1, e2⟩ := rep_fput (f := f) ry h2 h3
  exact ⟨o.mut (d := .ins C (fPut f sy fs)) ha ⟨dx, _, upd_same, e1, repL_upd ha e2⟩, frm_mut ha⟩
theorem os_setF {K : PySem.W.Frag} {Cs : List Str} {f : Str} {o value : Expr} {to tv : TE} {wo wv : WE} {pos' : Pos} (c : Flds K Cs f) (ho : OE X o to wo) (hv : OE X value tv wv) (hs : swapsWith value (some (.Attribute o f pos')) pos.line X.env = pure false := by rfl) (hK : X.K = K := by rfl) :
    OS X (.Assign [.Attribute o f pos'] value pos) (sFld K to tv f) (wSetF Cs f wv wo) := by
  subst hK
  exact ⟨ps_fld ho.pe hv.pe hs, fun Z σ H Γ Ω O D ok en w k => hv.se Z σ H Γ Ω _ _ ok en w fun y sy Ω1 H1 o1 f1 r1 w1 => ho.se Z σ H1 Γ Ω1 _ _ o1 (en.frm f1 ok) w1 fun x s Ω2 H2 o2 f2 r2 ⟨a, C, fs, es, ha, hC, hl, p⟩ => by
    subst es
    cases r2
    obtain ⟨dx, ks, h1, h2, h3⟩ := o2.cells a _ ha
    have el : ks.length = fs.length := by simpa using congrArg List.length h2
    obtain ⟨om, fm⟩ := ok_fput (f := f) (dx := dx) o2 ha h2 h3 (f2.rep o1 r1)
    exact ⟨a, He.ga X.K C, dx, ks, rfl, h1, (c C hC).1, (c C hC).2, by rw [el]; exact hl, k.nx _ _ _ _ om ((f1.trans f2).trans fm) (((en.frm f1 ok).frm f2 o1).frm fm o2) p⟩⟩
def augfAt (O : OEnds) (Γ : Ga) (Cs : List Str) (f : Str) (g : Int → Int → Int) (we : WE) (s : S) (Ω1 : Om) : Prop := ∃ a C fs m, s = .adr a ∧ Ω1 a = some (.ins C fs) ∧ C ∈ Cs ∧ fs.lookup f = some (.int m) ∧
  we Γ Ω1 fun y Ω2 => ∃ n fs', y = .int n ∧ Ω2 a = some (.ins C fs') ∧ fs'.length < 1000 ∧ O.nx Γ (put Ω2 a (.ins C (fPut f (.int (g m n)) fs')))
def wAugF (Cs : List Str) (f : Str) (g : Int → Int → Int) (wo we : WE) : WS := fun O Γ Ω => wo Γ Ω fun s Ω1 => augfAt O Γ Cs f g we s Ω1
theorem inI_add : InOp X .Add (ipI fun i j => i + j) := ip_add
theorem inI_sub : InOp X .Sub (ipI fun i j => i - j) := ip_sub
theorem os_augF {K : PySem.W.Frag} {Cs : List Str} {f : Str} {op : Operator} {g : Int → Int → Int} {o value : Expr} {to tv : TE} {wo wv : WE} {tpos : Pos} (c : Flds K Cs f) (ho : OE X o to wo) (hv : OE X value tv wv) (hop : InOp X op (ipI g)) (hK : X.K = K := by rfl) :
    OS X (.AugAssign (.Attribute o f tpos) op value pos) (sFldAug K to tv (ipI g) f) (wAugF Cs f g wo wv) := by
  subst hK
  exact ⟨ps_fldaug ho.pe hv.pe hop, fun Z σ H Γ Ω O D ok en w k => ho.se Z σ H Γ Ω _ _ ok en w fun x s Ω1 H1 o1 f1 r1 ⟨a, C, fs, m, es, ha, hC, hl, w1⟩ => by
    subst es
    cases r1
    obtain ⟨dx, ks, h1, h2, h3⟩ := o1.cells a _ ha
    obtain ⟨v, h4, h5⟩ := rep_look h2 h3 hl
    cases h5
    refine ⟨a, He.ga X.K C, dx, ks, _, rfl, h1, (c C hC).1, (c C hC).2, h4, hv.se Z σ H1 Γ Ω1 _ _ o1 (en.frm f1 ok) w1 fun y sy Ω2 H2 o2 f2 r2 ⟨n, fs', ey, ha', hl', p⟩ => ?_⟩
    subst ey
    cases r2
    obtain ⟨dx', ks', h1', h2', h3'⟩ := o2.cells a _ ha'
    have el : ks'.length = fs'.length := by simpa using congrArg List.length h2'
    obtain ⟨om, fm⟩ := ok_fput (f := f) (dx := dx') (y := .int (g m n)) o2 ha' h2' h3' (.int (g m n))
    exact ⟨m, n, rfl, rfl, dx', ks', h1', by rw [el]; exact hl', k.nx _ _ _ _ om ((f1.trans f2).trans fm) (((en.frm f1 ok).frm f2 o1).frm fm o2) p⟩⟩
end

/-! ### methods, classes made -/
structure KnM (P : Program) (w : World) (K : PySem.W.Frag) (mg : Str → Option Value) (base : Heap) (CX : CXT) (k : Nat) (C m : Str) (ps : List Str) (W : WF) : Prop where
  ex : ∃ f fd, FnOk P w K mg base CX k f fd ps (spO K W) ∧ Cls K (He.ga K C) ∧ Meth K (He.ga K C) m f ∧ Binds K fd ps []
structure KnC (P : Program) (w : World) (K : PySem.W.Frag) (mg : Str → Option Value) (base : Heap) (CX : CXT) (k : Nat) (C : Str) (ps : List Str) (W : WF) : Prop where
  ex : ∃ f fd, FnOk P w K mg base CX k f fd ps (spO K W) ∧ Mk K (He.ga K C) f ∧ mg C = some (.ref (He.ga K C)) ∧ Binds K fd ps []
def methAt (W : WF) (C m : Str) (wa : WA) (Γ : Ga) (P : WP) (s : S) (Ω1 : Om) : Prop := ∃ a fs, s = .adr a ∧ Ω1 a = some (.ins C fs) ∧ fs.lookup m = none ∧ wa Γ Ω1 fun ss Ω2 => W (.adr a :: ss) Ω2 P
def wMeth (W : WF) (C m : Str) (wo : WE) (wa : WA) : WE := fun Γ Ω P => wo Γ Ω fun s Ω1 => methAt W C m wa Γ P s Ω1
def makeAt (W : WF) (C : Str) (P : WP) (ss : List S) (Ω1 : Om) : Prop := ∀ a, Ω1 a = none → W (.adr a :: ss) (put Ω1 a (.ins C [])) fun v Ω2 => v = .non ∧ P (.adr a) Ω2
def wMake (W : WF) (C : Str) (wa : WA) : WE := fun Γ Ω P => wa Γ Ω fun ss Ω1 => makeAt W C P ss Ω1
section
variable {X : Cx} {CX : CXT} {k : Nat} {ps : List Str} {W : WF} {C m x : Str} {p pos apos : Pos} {o e : Expr} {es : List Expr} {to : TE} {wo : WE} {t : TA} {w : WA}
theorem se_meth {K : PySem.W.Frag} (ho : SE K to wo) (h : SA K t w) : SE K (tMeth (He.ga K C) m (spO K W) [] E0 to t) (wMeth W C m wo w) := fun Z σ H Γ Ω P Q ok en ww k => ho Z σ H Γ Ω _ _ ok en ww fun v s Ω1 H1 o1 f1 r1 ⟨a, fs, es, ha, hl, w1⟩ => by
  subst es
  cases r1
  obtain ⟨dx, ks, h1, h2, h3⟩ := o1.cells a _ ha
  refine ⟨a, dx, ks, rfl, h1, rep_lookN h2 hl, h Z σ H1 Γ Ω1 _ _ o1 (en.frm f1 ok) w1 fun vs ss Ω2 H2 o2 f2 r2 w2 => ?_⟩
  exact ⟨Z, Ω2, .adr a :: ss, P, o2, by rw [List.append_nil]; exact .cons (.adr a) r2, w2, k.frm (f1.trans f2)⟩
theorem oe_methK {P : Program} {w0 : World} {K : PySem.W.Frag} {mg : Str → Option Value} {base : Heap} (B : KnM P w0 K mg base CX k C m ps W) (hr : Room k X.A) (hx : Passes CX X E0) (ho : OE X o to wo)
    (ha : OA X (e :: es) t w) (h1 : X.prog = P := by rfl) (h2 : X.w = w0 := by rfl) (h3 : X.K = K := by rfl) (h4 : X.mg = mg := by rfl) (h5 : X.base = base := by rfl) {pl : Sem Bool}
    (hst : starEach (e :: es) X.env = (false, eval e X.env) :: starEach es X.env := by rfl) (hpl : (backTo pos (starEach es X.env)).any (·.1) = false := by rfl)
    (ht : eval (.Call (.Attribute o m apos) (e :: es) [] pos) X.env = (do
      let ov ← eval o X.env
      standAt apos.atName
      let (f, first) ← holding [ov] (getMethod ov m pl)
      callWith pos f first (backTo pos (starEach (e :: es) X.env)) (backToKw pos (keywordEach [] X.env))) := by rfl) :
    OE X (.Call (.Attribute o m apos) (e :: es) [] pos) (tMeth (He.ga K C) m (spO K W) [] E0 to t) (wMeth W C m wo w) := by
  subst h1 h2 h3 h4 h5
  obtain ⟨f, fd, F, hC, hm, hb⟩ := B.ex
  exact ⟨pe_meth ho.pe hC hm F hr hb .nil hx ha.pe hst hpl ht, se_meth ho.se ha.se⟩
theorem oe_methK0 {P : Program} {w0 : World} {K : PySem.W.Frag} {mg : Str → Option Value} {base : Heap} (B : KnM P w0 K mg base CX k C m ps W) (hr : Room k X.A) (hx : Passes CX X E0) (ho : OE X o to wo)
    (h1 : X.prog = P := by rfl) (h2 : X.w = w0 := by rfl) (h3 : X.K = K := by rfl) (h4 : X.mg = mg := by rfl) (h5 : X.base = base := by rfl) {pl : Sem Bool}
    (ht : eval (.Call (.Attribute o m apos) [] [] pos) X.env = (do
      let ov ← eval o X.env
      standAt apos.atName
      let (f, first) ← holding [ov] (getMethod ov m pl)
      callWith pos f first (backTo pos (starEach [] X.env)) (backToKw pos (keywordEach [] X.env))) := by rfl) :
    OE X (.Call (.Attribute o m apos) [] [] pos) (tMeth (He.ga K C) m (spO K W) [] E0 to tNil) (wMeth W C m wo wNil) := by
  subst h1 h2 h3 h4 h5
  obtain ⟨f, fd, F, hC, hm, hb⟩ := B.ex
  exact ⟨pe_meth0 ho.pe hC hm F hr hb .nil hx ht, se_meth ho.se fun Z σ H Γ Ω P Q ok e w k => k _ _ _ _ ok .refl .nil w⟩
theorem se_make {K : PySem.W.Frag} (h : SA K t w) : SE K (tMake (He.ga K C) (spO K W) [] E0 t) (wMake W C w) := fun Z σ H Γ Ω P Q ok en ww k => h Z σ H Γ Ω _ _ ok en ww fun vs ss Ω1 H1 o1 f1 r1 w1 a dx ha hd ne => by
  have o2 : Ok K Z Ω1 (upd H1 dx (.own a)) := o1.new hd
  have f2 : Frm Ω1 H1 Ω1 (upd H1 dx (.own a)) := frm_new hd
  have ha2 : (upd H1 dx (.own a)) a = none := by rw [upd_ne (Ne.symm ne)]; exact ha
  have o3 : Ok K Z (put Ω1 a (.ins C [])) (upd (upd H1 dx (.own a)) a (.ins (He.ga K C) dx [])) := o2.cell (c := .ins C []) ha2 ⟨dx, [], upd_same, rfl, .nil⟩
  have f3 : Frm Ω1 (upd H1 dx (.own a)) (put Ω1 a (.ins C [])) (upd (upd H1 dx (.own a)) a (.ins (He.ga K C) dx [])) := frm_cell ha2
  refine ⟨Z, put Ω1 a (.ins C []), .adr a :: ss, fun v Ω2 => v = .non ∧ P (.adr a) Ω2, o3, by rw [List.append_nil]; exact .cons (.adr a) ((f2.trans f3).repL o1 r1), w1 a (o1.freshO ha), fun v s Ω' H' o' f' r' ⟨es, p⟩ => ?_⟩
  subst es
  exact ⟨rep_non r', k _ _ _ _ o' (f1.trans ((f2.trans f3).trans f')) (.adr a) p⟩
theorem oe_makeK0 {P : Program} {w0 : World} {K : PySem.W.Frag} {mg : Str → Option Value} {base : Heap} (B : KnC P w0 K mg base CX k C ps W) (hr : Room (k + 1) X.A) (hg : Gl X C) (hx : Passes CX X E0)
    (h1 : X.prog = P := by rfl) (h2 : X.w = w0 := by rfl) (h3 : X.K = K := by rfl) (h4 : X.mg = mg := by rfl) (h5 : X.base = base := by rfl) (hdb : (C == ("__debug__" : Str)) = false := by decide) :
    OE X (.Call (.Name C p) [] [] pos) (tMake (He.ga K C) (spO K W) [] E0 tNil) (wMake W C wNil) := by
  subst h1 h2 h3 h4 h5
  obtain ⟨f, fd, F, M, hm, hb⟩ := B.ex
  exact ⟨pe_make0 M F hr hg hm hb .nil hx hdb, se_make fun Z σ H Γ Ω P Q ok e w k => k _ _ _ _ ok .refl .nil w⟩
theorem oe_makeK {P : Program} {w0 : World} {K : PySem.W.Frag} {mg : Str → Option Value} {base : Heap} (B : KnC P w0 K mg base CX k C ps W) (hr : Room (k + 1) X.A) (hg : Gl X C) (hx : Passes CX X E0) (ha : OA X (e :: es) t w)
    (h1 : X.prog = P := by rfl) (h2 : X.w = w0 := by rfl) (h3 : X.K = K := by rfl) (h4 : X.mg = mg := by rfl) (h5 : X.base = base := by rfl) (hdb : (C == ("__debug__" : Str)) = false := by decide)
    (he : starEach (e :: es) X.env = (false, eval e X.env) :: starEach es X.env := by rfl) (hpl : (backTo pos (starEach es X.env)).any (·.1) = false := by rfl) :
    OE X (.Call (.Name C p) (e :: es) [] pos) (tMake (He.ga K C) (spO K W) [] E0 t) (wMake W C w) := by
  subst h1 h2 h3 h4 h5
  obtain ⟨f, fd, F, M, hm, hb⟩ := B.ex
  exact ⟨pe_make M F hr hg hm hb .nil hx ha.pe hdb he hpl, se_make ha.se⟩
end
section
variable {fa : List He.Fa} {fn : List He.DefD} {K : PySem.W.Frag} {mg : Str → Option Value}
theorem Top.cls (T : Top fa fn K mg) (i : Nat) {C : Str} (h : fa[i]? = some (.cls C) := by rfl) : Cls K (He.ga K C) := He.cls_ok (T.says.fact i h)
theorem Top.noat (T : Top fa fn K mg) (i : Nat) {C f : Str} (h : fa[i]? = some (.noat C f) := by rfl) : NoAttr K (He.ga K C) f := He.noat_ok (T.says.fact i h)
theorem Top.meth (T : Top fa fn K mg) (i : Nat) {C m : Str} (h : fa[i]? = some (.meth C m) := by rfl) : Meth K (He.ga K C) m (He.ma K (He.ga K C) m) := He.meth_ok (T.says.fact i h)
theorem Top.mkr (T : Top fa fn K mg) (i : Nat) {C : Str} (h : fa[i]? = some (.mkr C) := by rfl) : Mk K (He.ga K C) (He.ma K (He.ga K C) "__init__") := He.mkr_ok (T.says.fact i h)
theorem flds_nil {f : Str} : Flds K [] f := fun _ h => by cases h
theorem flds_cons {f C : Str} {Cs : List Str} (c : Cls K (He.ga K C)) (n : NoAttr K (He.ga K C) f) (r : Flds K Cs f) : Flds K (C :: Cs) f := fun D h => by
  rcases List.mem_cons.mp h with e | e
  · subst e; exact ⟨c, n⟩
  · exact r D e
theorem knm_of0 {P : Program} {w : World} {base : Heap} {k : Nat} {C m q : Str} {N ps : List Str} {W : WF} {v : WS} {args : Arguments} {body : List Stmt} {scope : Scope} (T : Top fa fn K mg) (i j l : Nat) (hd : fn[i]? = some ⟨(C, some m), m, q, args, body, scope, [], []⟩) (hc : fa[j]? = some (.cls C)) (hm : fa[l]? = some (.meth C m))
    (hbind : ∀ (kV doc pm : Value) (an : Option Addr) (cdv ct : Value) (us : List Value), us.length = ps.length → bindArgs (PySem.W.fnOf m q args body scope .none kV doc pm an cdv ct) ⟨us, []⟩ = pure (ps.zip us))
    (S0 : FnScope N ps scope) (len : ∀ ss Ω P, W ss Ω P → ss.length = ps.length)
    (hb : ∀ (f : Addr) (cdv : Value) (A : Around) (outer : List PySem.Env) (s : Shared) (H : Hp) (E : XK), Room k (A.deeper (PyProof.Rows.envOfC q scope s.heap.objs.size f cdv)) → ∃ t, OSs (cxOf CX0 P w K mg base N q scope f cdv A outer s H E).nox body t v)
    (hv : ∀ ss Ω P, W ss Ω P → v { nx := fun _ Ω' => seen P .non Ω', rt := seen P } (startG N ss) Ω) : KnM P w K mg base CX0 (k + 1) C m ps W := by
  obtain ⟨fd, F⟩ := T.says.def_ i hd
  exact ⟨_, fd, fnO0 F S0 len (fun cdv A outer s H E hr => hb _ cdv A outer s H E hr) hv, T.cls j hc, T.meth l hm, FunD.bindsN F hbind⟩
theorem knc_of0 {P : Program} {w : World} {base : Heap} {k : Nat} {C q : Str} {N ps : List Str} {W : WF} {v : WS} {args : Arguments} {body : List Stmt} {scope : Scope} (T : Top fa fn K mg) (i j l : Nat) (hd : fn[i]? = some ⟨(C, some "__init__"), "__init__", q, args, body, scope, [], []⟩) (hm : fa[j]? = some (.mkr C)) (hg : fa[l]? = some (.glo C))
    (hbind : ∀ (kV doc pm : Value) (an : Option Addr) (cdv ct : Value) (us : List Value), us.length = ps.length → bindArgs (PySem.W.fnOf "__init__" q args body scope .none kV doc pm an cdv ct) ⟨us, []⟩ = pure (ps.zip us))
    (S0 : FnScope N ps scope) (len : ∀ ss Ω P, W ss Ω P → ss.length = ps.length)
    (hb : ∀ (f : Addr) (cdv : Value) (A : Around) (outer : List PySem.Env) (s : Shared) (H : Hp) (E : XK), Room k (A.deeper (PyProof.Rows.envOfC q scope s.heap.objs.size f cdv)) → ∃ t, OSs (cxOf CX0 P w K mg base N q scope f cdv A outer s H E).nox body t v)
    (hv : ∀ ss Ω P, W ss Ω P → v { nx := fun _ Ω' => seen P .non Ω', rt := seen P } (startG N ss) Ω) : KnC P w K mg base CX0 (k + 1) C ps W := by
  obtain ⟨fd, F⟩ := T.says.def_ i hd
  exact ⟨_, fd, fnO0 F S0 len (fun cdv A outer s H E hr => hb _ cdv A outer s H E hr) hv, T.mkr j hm, T.glo l hg, FunD.bindsN F hbind⟩
end
end Om
/-! Om: how many a set of texts has that differ (the library's rule for at most one text, turned to texts that differ). -/
namespace OmSet
open PySem PySem.Spec PyProof.Rows
section
variable {prog : Program} {w : World} {A : Around} {R : Result → Shared → Prop} {I : Addr} {fp wr : List Addr} {G : Array GenState → Array GenState → Prop} {n : Nat} {P : Nat → Value → Prop} {St : Nat → Shared → Prop}
theorem loopN (W : WalksS prog w A.in1 I fp wr G n P St) (S : Addr) (hSf : S ∉ fp) (xs : List Str) (hsz : xs.length = n) (hnd : xs.Nodup) (hn1 : n ≤ 4000)
    (hval : ∀ i v, P i v → ∃ t, v = .str (xs.getD i Str.empty) t) :
    ∀ (k i : Nat) (s : Shared), n - i = k → i ≤ n → St i s →
      s.heap.SetOf (PySem.strKind prog w) S (fun k' => (xs.take i).any (· == k')) i →
      (∀ s', Moved (S :: wr) G s s' → s'.heap.SetOf (PySem.strKind prog w) S (fun k' => (xs.take n).any (· == k')) n → R (.ok (.ret .none)) s') →
      codeAny (model prog w) A (.builtin "set.update.loop" ⟨[.ref S, .ref I], []⟩) R s := by
  have hSw : S ∉ wr := fun h => hSf (W.sub _ h)
  have hsub : ∀ b ∈ wr, b ∈ S :: wr := fun b hb => List.mem_cons_of_mem _ hb
  intro k
  induction k with
  | zero =>
    intro i s hk hi hst hS hR
    have hin : i = n := by omega
    subst hin
    refine codeAny_builtin PyProof.Rows.F.entry_set_update_loop ?_
    rw [Around.under_plainId PyProof.Rows.F.plain_set_update_loop _]
    show wpAny _ A.in1 (pyNext (.ref I) >>= _) _ _ s
    refine wpAny_bind (W.done s _ _ hst fun s' hm => ?_)
    show wpAny _ A.in1 (ret Value.none) _ _ s'
    exact wpAny_pure (hR s' (hm.mono hsub) (by
      obtain ⟨o, es, ep, t, ho, rest⟩ := hS
      exact ⟨o, es, ep, t, hm.heap S _ hSw ho, rest⟩))
  | succ k ih =>
    intro i s hk hi hst hS hR
    have hlt : i < n := by omega
    refine codeAny_builtin PyProof.Rows.F.entry_set_update_loop ?_
    rw [Around.under_plainId PyProof.Rows.F.plain_set_update_loop _]
    show wpAny _ A.in1 (pyNext (.ref I) >>= _) _ _ s
    refine wpAny_bind (W.item i s _ _ hlt hst fun v s' hP hst' hm => ?_)
    obtain ⟨t, rfl⟩ := hval i v hP
    have hS' : s'.heap.SetOf (PySem.strKind prog w) S (fun k' => (xs.take i).any (· == k')) i := by
      obtain ⟨o, es, ep, tb, ho, rest⟩ := hS
      exact ⟨o, es, ep, tb, hm.heap S _ hSw ho, rest⟩
    show wpAny _ A.in1 (holding [Value.str (xs.getD i Str.empty) t] (setAdd S (.str (xs.getD i Str.empty) t)) >>= _) _ _ s'
    refine wpAny_bind (wpAny_holding ?_)
    unfold setAdd
    refine wpAny_holding ?_
    refine wpAny_bind ((PySem.strKind prog w).pyHash (k := xs.getD i Str.empty) (strKind_is _ _ _ _) ?_)
    refine wpAny_setAddHashed_of (knd := PySem.strKind prog w) (s := { s' with toks := s'.toks + 1 }) (strKind_is _ _ _ _) rfl hS' (by unfold scanBound; omega) fun h' hsb hS2 => ?_
    have hx : xs[i]? = some (xs.getD i Str.empty) := by
      rw [List.getD_eq_getElem?_getD, List.getElem?_eq_getElem (by omega)]
      rfl
    have hfresh : (xs.take i).any (· == xs.getD i Str.empty) = false := by
      rw [List.any_eq_false]
      intro z hz
      rw [beq_iff_eq]
      intro e
      obtain ⟨j, hj⟩ := List.getElem?_of_mem hz
      have hjl : j < i := by
        have := (List.getElem?_eq_some_iff.mp hj).1
        rw [List.length_take] at this
        omega
      rw [List.getElem?_take_of_lt hjl, e] at hj
      have h1 := (List.getElem?_eq_some_iff.mp hj)
      have h2 := (List.getElem?_eq_some_iff.mp hx)
      obtain ⟨l1, q1⟩ := h1
      obtain ⟨l2, q2⟩ := h2
      have := (List.getElem_inj hnd).mp (q1.trans q2.symm)
      omega
    have hSi : h'.SetOf (PySem.strKind prog w) S (fun k' => (xs.take (i + 1)).any (· == k')) (i + 1) := by
      refine SetOf_congr hS2 (fun k' => ?_) ?_
      · rw [List.take_succ, hx, List.any_append]
        show ((xs.take i).any (· == k') || decide (k' = xs.getD i Str.empty)) = ((xs.take i).any (· == k') || [xs.getD i Str.empty].any (· == k'))
        by_cases e : k' = xs.getD i Str.empty
        · subst e; simp
        · have hb : (xs.getD i Str.empty == k') = false := beq_eq_false_iff_ne.mpr fun h' => e h'.symm
          rw [decide_eq_false e]
          simp only [List.any_cons, List.any_nil, hb, Bool.or_false]
      · rw [hfresh]
        simp
    refine wpAny_pure ⟨plainId_quiet PyProof.Rows.F.plain_set_update_loop _, ih (i + 1) _ (by omega) hlt (W.frame _ s' _ _ hst' (Nat.le_succ _) fun b hb o e => ?_) hSi fun s'' hm'' hS'' => ?_⟩
    · rw [hsb.2 b (fun h : b = S => hSf (by rw [← h]; exact hb))]; exact e
    · refine hR s'' (Moved.trans W.gtrans ((hm.mono hsub).then_heap (Nat.le_succ _) fun b o hb e => ?_) hm'') hS''
      rw [hsb.2 b (fun h : b = S => hb (by rw [h]; exact List.mem_cons_self))]; exact e
end

section
variable {prog : Program} {w : World} {A : Around} {E : Value → Shared → Prop} {s : Shared}
set_option maxHeartbeats 3200000 in
theorem call_set_texts {l : Addr} {items : Array Value} {xs : List Str} {Q : Value → Shared → Prop}
    (hh : A.handled = none) (hl : s.heap.IsList l items) (hi : PyProof.Rows.StrsAre items.toList xs) (hnd : xs.Nodup) (hn1 : xs.length ≤ 4000)
    (h : ∀ (h' : Heap) (tk : Nat), h'.SetOf (PySem.strKind prog w) s.heap.objs.size (fun k' => (xs.take items.size).any (· == k')) items.size →
      (∀ b o, b < s.heap.objs.size → s.heap.get? b = some o → h'.get? b = some o) → Q (.ref s.heap.objs.size) { s with heap := h', toks := tk }) :
    wpAny (model prog w) A (call (.type "set") [.ref l]) Q E s := by
  obtain ⟨c, tl, hmro⟩ := PySem.F.called_set.mro
  have hmade := PySem.F.called_set.made
  have hsub := PySem.F.called_set.sub
  refine wpAny_call (codeAny_of_tree ?_)
  show wpAny _ _ (callAny (.type "set") _) _ _ _
  refine wpAny_pure ⟨Code.quiet_builtin _ (by decide +kernel), codeAny_builtin PySem.F.entry_type_call ?_⟩
  rw [Around.under_plain (weight_type_call_type "set" [.ref l] []) rfl]
  have h1 := PySem.F.called_set.notType
  have h2 := PySem.F.called_set.canCreate
  have hct := PySem.F.typeCall_set_1 (.ref l)
  repeat (any_goals (first | assumption | wp_step))

  refine codeAny_mono (code_set_new_1 (.ref l) (E := E) (Q₁ := fun obj s₁ => ∃ led : Bool, obj = .ref s.heap.objs.size ∧ s₁ = { s with heap := s.heap.push { cls := .type "set", dict := none, data := .set #[] 0 (.fresh 0 0 led) } }) fun led => ⟨led, rfl, rfl⟩) fun r s₁ hr => ?_
  cases r with
  | error e => exact hr
  | ok fl =>
    cases fl with
    | ret obj =>
      obtain ⟨led, rfl, rfl⟩ := hr
      have hS : (s.heap.push { cls := .type "set", dict := none, data := .set #[] 0 (.fresh 0 0 led) }).get? s.heap.objs.size = some { cls := .type "set", dict := none, data := .set #[] 0 (.fresh 0 0 led) } := Heap.get?_push_size _ rfl
      have hT : Shared.TypeIs { s with heap := s.heap.push { cls := .type "set", dict := none, data := .set #[] 0 (.fresh 0 0 led) } } (.ref s.heap.objs.size) "set" := ⟨_, hS, rfl⟩
      have hli := PySem.F.called_set.init.lookup
      have hbi := PySem.F.called_set.init.bind (.ref s.heap.objs.size)
      repeat (any_goals (first | assumption | wp_step))

      refine codeAny_mono (codeAny_call_builtin (R := wants (fun r s₂ => r = .none ∧ ∃ h' tk, s₂ = { s with heap := h', toks := tk } ∧
          h'.SetOf (PySem.strKind prog w) s.heap.objs.size (fun k' => (xs.take items.size).any (· == k')) items.size ∧
          (∀ b o, b < s.heap.objs.size → s.heap.get? b = some o → h'.get? b = some o)) E) PySem.F.called_set.init.plain PySem.F.entry_set_init (check_set_init_1 hT ?_)) fun r₂ s₂ hr₂ => ?_
      · obtain ⟨ol, hol, hcl, nl, hdl⟩ := hl
        obtain ⟨ocls, odict, odata, oslots⟩ := ol
        simp only at hcl hdl
        subst hcl; subst hdl
        have hol' : (s.heap.push { cls := .type "set", dict := none, data := .set #[] 0 (.fresh 0 0 led) }).get? l = some { cls := .type "list", dict := odict, data := .seq items nl, slots := oslots } := Heap.get?_push_of_some _ hol
        have hsls := PySem.F.sub_list_set
        have hslf := PySem.F.sub_list_frozenset
        have hne : (Value.type "list" == Value.type "dict") = false := by decide
        have hl1 : (s.heap.push { cls := .type "set", dict := none, data := .set #[] 0 (.fresh 0 0 led) }).IsList l items := ⟨_, hol', rfl, nl, rfl⟩
        unfold Builtin.«set.__init__» noKeywords Builtin.Frozenset.updateFrom
        generalize hPI : pyIter = PI
        wp_walk
        subst hPI

        refine wpAny_pyIter_list hl1 ?_
        refine wpAny_bind (wpAny_runValue ?_)
        have hlS : l < s.heap.objs.size := Heap.lt_size hol
        have hh3 : A.in1.in1.in1.handled = none := by simp [hh]
        have hneI : l ≠ (s.heap.push { cls := .type "set", dict := none, data := .set #[] 0 (.fresh 0 0 led) }).objs.size := by
          rw [Heap.size_push]; exact Nat.ne_of_lt (Nat.lt_succ_of_lt hlS)
        have hSf : s.heap.objs.size ∉ [(s.heap.push { cls := .type "set", dict := none, data := .set #[] 0 (.fresh 0 0 led) }).objs.size, l] := by
          rw [Heap.size_push]; simp only [List.mem_cons, List.mem_singleton, List.not_mem_nil, or_false, not_or]
          exact ⟨Nat.ne_of_lt (Nat.lt_succ_self _), Nat.ne_of_gt hlS⟩
        have hsz : xs.length = items.size := by rw [← StrsAre.len_eq hi, Array.length_toList]
        have hval : ∀ (i : Nat) (v : Value), items[i]? = some v → ∃ t, v = .str (xs.getD i Str.empty) t := fun i v hv => SS.strs_at hi i v (by rw [Array.getElem?_toList]; exact hv)
        refine loopN ((Walks.list hh3 _ l hneI items).toS) s.heap.objs.size
          hSf xs hsz hnd (by rw [← hsz]; exact hn1) hval (items.size - 0) 0 _ (by omega) (Nat.zero_le _)
          ⟨⟨_, Heap.get?_push_size _ rfl, rfl, rfl⟩, (hl1.push _)⟩ ?hS0 ?hR
        case hS0 =>
          have hget : ((s.heap.push { cls := .type "set", dict := none, data := .set #[] 0 (.fresh 0 0 led) }).push { cls := .type "list_iterator", data := .fields #[.ref l, .int 0 0] }).get? s.heap.objs.size
              = some { cls := .type "set", dict := none, data := .set #[] 0 (.fresh 0 0 led) } := Heap.get?_push_of_some _ hS
          exact PyProof.Rows.SetOf_congr ((PyProof.Rows.setObjOf_fresh (knd := PySem.strKind prog w) led).setOf hget (by unfold scanBound; omega)) (fun _ => rfl) rfl
        case hR =>
          intro s' hm hS'
          obtain ⟨h', g', d', tk', os'⟩ := s'
          have eg : g' = s.gens := hm.gens
          have ed : d' = s.drawn := hm.drawn
          have eo : os' = s.os := hm.os
          subst eg; subst ed; subst eo
          show wpAny _ _ _ _ _ _
          refine wpAny_pure ?_
          show wpAny _ _ (ret Value.none) _ _ _
          refine wpAny_pure ⟨rfl, h', tk', rfl, hS', fun b o hb e => ?_⟩
          have hb1 : b ≠ s.heap.objs.size := Nat.ne_of_lt hb
          have hb2 : b ≠ (s.heap.push { cls := .type "set", dict := none, data := .set #[] 0 (.fresh 0 0 led) }).objs.size := by
            rw [Heap.size_push]; exact Nat.ne_of_lt (Nat.lt_succ_of_lt hb)
          exact hm.heap b o (by simp only [List.mem_cons, List.mem_singleton, List.not_mem_nil, or_false, not_or]; exact ⟨hb1, hb2⟩) (Heap.get?_push_of_some _ (Heap.get?_push_of_some _ e))

      · cases r₂ with
        | error e => exact hr₂
        | ok fl₂ =>
          cases fl₂ with
          | ret r =>
            obtain ⟨rfl, h', tk, rfl, hS', hk'⟩ := hr₂
            repeat (any_goals (first | assumption | wp_step))
            exact h _ _ hS' hk'
          | _ => exact hr₂.elim
    | _ => exact hr.elim
end
end OmSet
namespace Om
open PySem L2 PySem.Spec PyProof.Rows
def tLenSetT (K : PySem.W.Frag) (ta : TE) : TE := fun σ H Q => ta σ H fun x H1 => ∃ l, ∃ xs : List Str, x = .ref l ∧ SqL K H1 l (xs.map V.str) ∧ xs.Nodup ∧ xs.length ≤ 4000 ∧ Q (.int xs.length) H1
theorem pe_lenSetT {X : Cx} {a : Expr} {ta : TE} {p p2 q pos : Pos} (hc : X.calm = true) (hg : Gl X "len") (hm : X.mg "len" = none) (hg2 : Gl X "set") (hm2 : X.mg "set" = none) (ha : PE X a ta)
    (na : starEach [a] X.env = (false, eval a X.env) :: starEach [] X.env := by rfl) : PE X (.Call (.Name "len" p) [.Call (.Name "set" p2) [a] [] q] [] pos) (tLenSetT X.K ta) := by
  refine ⟨fun pins s σ H Q I h => ?_⟩
  refine Call_ (ld_blt I hg hm boot_len ?_)
  refine PyProof.Rows.callWith_builtin1 (PyProof.Rows.args_cons ?_ rfl) rfl rfl
  refine Call_ (ld_blt I hg2 hm2 boot_set ?_)
  refine PyProof.Rows.callWith_type1 (PyProof.Rows.args_cons (thn (ha.run pins s σ H _ I h) fun v s1 ⟨x, H1, I1, r1, q1⟩ => PyProof.Rows.args_nil ?_) na) na rfl
  obtain ⟨l, xs, rfl, hq, hnd, hl, q1⟩ := q1
  cases r1
  obtain ⟨its, r, pl, hz⟩ := I1.list hq
  have hlen : its.toArray.size = xs.length := by rw [List.size_toArray, ← r.length, List.length_map]
  refine OmSet.call_set_texts (I1.ok.hd hc) pl.isList (by simpa using strsAre_of r) hnd hl fun h' tk hS hk => ?_
  refine PyProof.Rows.args_nil ?_
  rw [hlen] at hS
  obtain ⟨o, es, ep, t, ho, hex, hd, _, _, _, hf, hn⟩ := hS
  have I2 : Inv X pins σ H1 { s1 with heap := h', toks := tk } := I1.kept fun b o e => hk b o (Heap.lt_size e) e
  exact PySem.call_len_set ho hex hd hf (by rw [hn] <;> omega) ⟨.int xs.length, H1, I2.tok _, ⟨_, by rw [hn]⟩, q1⟩
def lenSetAt (P : WP) (s : S) (Ω1 : Om) : Prop := ∃ xs : List Str, asL Ω1 s = some (xs.map S.str) ∧ xs.Nodup ∧ xs.length ≤ 4000 ∧ P (.int xs.length) Ω1
def wLenSet (we : WE) : WE := fun Γ Ω P => we Γ Ω fun s Ω1 => lenSetAt P s Ω1
theorem oe_lenSet {X : Cx} {K : PySem.W.Frag} {a : Expr} {ta : TE} {wa : WE} {p p2 q pos : Pos} (hc : X.calm = true) (hg : Gl X "len") (hm : X.mg "len" = none) (hg2 : Gl X "set") (hm2 : X.mg "set" = none) (ha : OE X a ta wa)
    (na : starEach [a] X.env = (false, eval a X.env) :: starEach [] X.env := by rfl) (hK : X.K = K := by rfl) : OE X (.Call (.Name "len" p) [.Call (.Name "set" p2) [a] [] q] [] pos) (tLenSetT K ta) (wLenSet wa) := by
  subst hK
  exact ⟨pe_lenSetT hc hg hm hg2 hm2 ha.pe na, fun Z σ H Γ Ω P Q ok en w k => ha.se Z σ H Γ Ω _ _ ok en w fun v s Ω1 H1 o1 f1 r1 ⟨xs, h1, h2, h3, p⟩ => by
    obtain ⟨l, zs, rfl, hq, q2⟩ := rep_L o1 r1 h1
    rw [repL_strs q2] at hq
    exact ⟨l, xs, rfl, hq, h2, h3, (k.frm f1).now o1 (.int _) p⟩⟩
end Om
/-! Om: steps over dicts, own classes. -/
namespace Om
open PySem L2
open PyProof.Rows (b2i)
section
variable {Γ : Ga} {Ω : Om} {P : WP} {s u : S} {wa wb we wo wi : WE} {O : OEnds} {i j : Int} {x y : Str}
theorem g_frz (p : we Γ Ω fun s Ω1 => (∃ a kvs, s = .adr a ∧ Ω1 a = some (.dK kvs) ∧ P (.dic kvs) (drp Ω1 a)) ∨ P s Ω1) : wFrz we Γ Ω P := p
theorem g_frzY {a : Addr} {kvs : List (Key × S)} (ha : Ω a = some (.dK kvs)) (p : P (.dic kvs) (drp Ω a)) : (∃ b ks, S.adr a = .adr b ∧ Ω b = some (.dK ks) ∧ P (.dic ks) (drp Ω b)) ∨ P (.adr a) Ω := .inl ⟨a, kvs, rfl, ha, p⟩
theorem g_frzD {kvs : List (Key × S)} (p : P (.dic kvs) Ω) : (∃ b ks, S.dic kvs = .adr b ∧ Ω b = some (.dK ks) ∧ P (.dic ks) (drp Ω b)) ∨ P (.dic kvs) Ω := .inr p
theorem g_frzS {w : WS} (n : Nat) {a : Addr} {kvs : List (Key × S)} (hi : gt Γ n = some (.adr a)) (ha : Ω a = some (.dK kvs)) (p : w O (st Γ n (some (.dic kvs))) (drp Ω a)) : wFrzS w O Γ Ω := .inl ⟨n, a, kvs, hi, ha, p⟩
theorem g_frzSn {w : WS} (p : w O Γ Ω) : wFrzS w O Γ Ω := .inr p
theorem g_dnew (p : ∀ a, Ω a = none → P (.adr a) (put Ω a (.dK []))) : wDNew Γ Ω P := p
theorem g_ixU {xs : List S} (h : asQ Ω s = some xs) (h2 : atI xs i = some u) (p : P u Ω) : oIxU s (.int i) Ω P := .inl (g_ix h h2 p)
theorem g_ixUS {c : Nat} (h : x.length ≤ sizeLine) (h2 : atI x.cps.toList i = some c) (p : P (.str ⟨#[c]⟩) Ω) : oIxU (.str x) (.int i) Ω P := .inl (g_ixS h h2 p)
theorem g_ixDS {kvs : List (Key × S)} (h : asD Ω s = some kvs) (h2 : vOf kvs (.inr x) = some u) (p : P u Ω) : oIxU s (.str x) Ω P := .inr ⟨kvs, .inr x, u, h, rfl, h2, p⟩
theorem g_ixDI {kvs : List (Key × S)} (h : asD Ω s = some kvs) (h2 : vOf kvs (.inl i) = some u) (p : P u Ω) : oIxU s (.int i) Ω P := .inr ⟨kvs, .inl i, u, h, rfl, h2, p⟩
theorem g_inDS {kvs : List (Key × S)} (h : asD Ω s = some kvs) (p : P (.bl (hasK kvs (.inr x))) Ω) : oInU false (.str x) s Ω P := .inr ⟨kvs, .inr x, h, rfl, p⟩
theorem g_notInDS {kvs : List (Key × S)} (h : asD Ω s = some kvs) (p : P (.bl (!hasK kvs (.inr x))) Ω) : oInU true (.str x) s Ω P := .inr ⟨kvs, .inr x, h, rfl, p⟩
theorem g_lenU {xs : List S} (h : asQ Ω s = some xs) (p : P (.int xs.length) Ω) : oLenU [s] Ω P := .inl (g_len h p)
theorem g_lenUS (h : x.length ≤ sizeLine) (p : P (.int x.length) Ω) : oLenU [.str x] Ω P := .inl (g_lenS h p)
theorem g_lenUD {kvs : List (Key × S)} (h : asD Ω s = some kvs) (p : P (.int kvs.length) Ω) : oLenU [s] Ω P := .inr ⟨s, kvs, rfl, h, p⟩
theorem g_tupleL {xs : List S} (h : asL Ω s = some xs) (p : P (.tup xs) Ω) : oTuple [s] Ω P := ⟨s, xs, rfl, .inl ⟨h, p⟩⟩
theorem g_tupleT {xs : List S} (p : P (.tup xs) Ω) : oTuple [.tup xs] Ω P := ⟨_, xs, rfl, .inr ⟨rfl, p⟩⟩
theorem g_setd {wd wk wz : WE} (p : wd Γ Ω fun s Ω1 => setd1 wk wz Γ P s Ω1) : wSetd wd wk wz Γ Ω P := p
theorem g_setd1 {wk wz : WE} {a : Addr} {kvs : List (Key × S)} (h : Ω a = some (.dK kvs)) (p : wk Γ Ω fun y Ω2 => wz Γ Ω2 fun z Ω3 => setdAt P a y z Ω3) : setd1 wk wz Γ P (.adr a) Ω := ⟨a, kvs, rfl, h, p⟩
theorem g_setdS {a : Addr} {kvs : List (Key × S)} {z : S} (h : Ω a = some (.dK kvs)) (hl : kvs.length < sizeLine) (p1 : ∀ s, vOf kvs (.inr x) = some s → P s Ω) (p2 : vOf kvs (.inr x) = none → P z (put Ω a (.dK (pOf kvs (.inr x) z)))) : setdAt P a (.str x) z Ω := by
  refine ⟨kvs, .inr x, h, rfl, hl, ?_⟩
  cases e : vOf kvs (.inr x) with
  | none => exact p2 e
  | some s => exact p1 s e
theorem g_getd {wd wk wz : WE} (p : wd Γ Ω fun s Ω1 => getd1 wk wz Γ P s Ω1) : wGetd wd wk wz Γ Ω P := p
theorem g_getd1 {wk wz : WE} {kvs : List (Key × S)} (h : asD Ω s = some kvs) (p : wk Γ Ω fun y Ω2 => wz Γ Ω2 fun z Ω3 => getdAt P s y z Ω3) : getd1 wk wz Γ P s Ω := ⟨⟨kvs, h⟩, p⟩
theorem g_getdS {kvs : List (Key × S)} {z : S} (h : asD Ω s = some kvs) (p : P ((vOf kvs (.inr x)).getD z) Ω) : getdAt P s (.str x) z Ω := ⟨kvs, .inr x, h, rfl, p⟩
theorem g_gsubU {Q : Ga → Om → Prop} (p : wo Γ Ω fun o Ω1 => wi Γ Ω1 fun i Ω2 => subAtU Q s Γ o i Ω2) : wgSubU wo wi s Γ Ω Q := p
theorem g_atU {p : Addr} {xs : List S} {k : Int} {j : Nat} {Q : Ga → Om → Prop} (hp : Ω p = some (.lst xs)) (hj : ixN xs.length k = some j) (q : Q Γ (put Ω p (.lst (xs.set j s)))) : subAtU Q s Γ (.adr p) (.int k) Ω := .inl (g_at hp hj q)
theorem g_putS {p : Addr} {kvs : List (Key × S)} {Q : Ga → Om → Prop} (hp : Ω p = some (.dK kvs)) (hl : kvs.length < sizeLine) (q : Q Γ (put Ω p (.dK (pOf kvs (.inr x) s)))) : subAtU Q s Γ (.adr p) (.str x) Ω := .inr ⟨p, kvs, .inr x, rfl, rfl, hp, hl, q⟩
theorem g_augS {f : Int → Int → Int} (p : wo Γ Ω fun o Ω1 => wi Γ Ω1 fun i Ω2 => itemU o i Ω2 fun m => we Γ Ω2 fun s Ω3 => ∃ n, s = .int n ∧ subAtU O.nx (.int (f m n)) Γ o i Ω3) : wAugS f wo wi we O Γ Ω := p
theorem g_item {o : S} {xs : List S} {k m : Int} {Q : Int → Prop} (h : asL Ω o = some xs) (h2 : atI xs k = some (.int m)) (q : Q m) : itemU o (.int k) Ω Q := .inl ⟨xs, k, m, h, rfl, h2, q⟩
theorem g_insert {w : WA} (p : wo Γ Ω fun o Ω1 => ins1 w O Γ o Ω1) : wInsert wo w O Γ Ω := p
theorem g_ins1 {w : WA} {a : Addr} {zs : List S} (h : Ω a = some (.lst zs)) (p : w Γ Ω fun ss Ω2 => insAt O Γ a ss Ω2) : ins1 w O Γ (.adr a) Ω := ⟨a, zs, rfl, h, p⟩
theorem g_ins2 {a : Addr} {xs : List S} (h : Ω a = some (.lst xs)) (hl : xs.length < sizeLine) (h0 : 0 ≤ i ∧ i < 2 ^ 63) (p : O.nx Γ (put Ω a (.lst (xs.take i.toNat ++ [s] ++ xs.drop i.toNat)))) : insAt O Γ a [.int i, s] Ω := ⟨xs, i, s, rfl, h, hl, h0.1, h0.2, p⟩
theorem g_keys {Q : WQ} (p : we Γ Ω fun s Ω1 => dicAt Q keysL s Ω1) : wiKeys we Γ Ω Q := p
theorem g_items {Q : WQ} (p : we Γ Ω fun s Ω1 => dicAt Q itemsL s Ω1) : wiItems we Γ Ω Q := p
theorem g_dic {Q : WQ} {L : List (Key × S) → List S} {kvs : List (Key × S)} (p : Q (L kvs) (fun _ => True) Ω) : dicAt Q L (.dic kvs) Ω := ⟨kvs, rfl, p⟩
theorem g_fld {Cs : List Str} {f : Str} (p : we Γ Ω fun s Ω1 => fldAt P Cs f s Ω1) : wFld Cs f we Γ Ω P := p
theorem g_fldP {Cs : List Str} {C f : Str} {a : Addr} {fs : List (Str × S)} (h : Ω a = some (.ins C fs)) (hC : C ∈ Cs) (hl : fs.lookup f = some u) (p : P u Ω) : fldAt P Cs f (.adr a) Ω := ⟨a, C, fs, u, rfl, h, hC, hl, p⟩
theorem g_setF {Cs : List Str} {f : Str} {wv : WE} (p : wv Γ Ω fun y Ω1 => wo Γ Ω1 fun s Ω2 => setfAt O Γ Cs f y s Ω2) : wSetF Cs f wv wo O Γ Ω := p
theorem g_setFP {Cs : List Str} {C f : Str} {a : Addr} {fs : List (Str × S)} (h : Ω a = some (.ins C fs)) (hC : C ∈ Cs) (hl : fs.length < 1000) {fs' : List (Str × S)} (he : fPut f s fs = fs') (p : O.nx Γ (put Ω a (.ins C fs'))) : setfAt O Γ Cs f s (.adr a) Ω := ⟨a, C, fs, rfl, h, hC, hl, by rw [he]; exact p⟩
theorem g_augF {Cs : List Str} {f : Str} {g : Int → Int → Int} (p : wo Γ Ω fun s Ω1 => augfAt O Γ Cs f g we s Ω1) : wAugF Cs f g wo we O Γ Ω := p
theorem g_augFP {Cs : List Str} {C f : Str} {g : Int → Int → Int} {a : Addr} {fs : List (Str × S)} {m : Int} (h : Ω a = some (.ins C fs)) (hC : C ∈ Cs) (hl : fs.lookup f = some (.int m))
    (p : we Γ Ω fun y Ω2 => ∃ n fs', y = .int n ∧ Ω2 a = some (.ins C fs') ∧ fs'.length < 1000 ∧ O.nx Γ (put Ω2 a (.ins C (fPut f (.int (g m n)) fs')))) : augfAt O Γ Cs f g we (.adr a) Ω := ⟨a, C, fs, m, rfl, h, hC, hl, p⟩
theorem g_augFQ {C f : Str} {a : Addr} {n : Int} {z : Int → Int} {fs : List (Str × S)} {Q : Om → Prop} (h : Ω a = some (.ins C fs)) (hl : fs.length < 1000) {fs2 : List (Str × S)} (he : fPut f (.int (z n)) fs = fs2) (p : Q (put Ω a (.ins C fs2))) :
    ∃ n' fs', S.int n = .int n' ∧ Ω a = some (.ins C fs') ∧ fs'.length < 1000 ∧ Q (put Ω a (.ins C (fPut f (.int (z n')) fs'))) := ⟨n, fs, rfl, h, hl, by rw [he]; exact p⟩
theorem g_meth {W : WF} {C m : Str} {w : WA} (p : wo Γ Ω fun s Ω1 => methAt W C m w Γ P s Ω1) : wMeth W C m wo w Γ Ω P := p
theorem g_methP {W : WF} {C m : Str} {w : WA} {a : Addr} {fs : List (Str × S)} (h : Ω a = some (.ins C fs)) (hl : fs.lookup m = none) (p : w Γ Ω fun ss Ω2 => W (.adr a :: ss) Ω2 P) : methAt W C m w Γ P (.adr a) Ω := ⟨a, fs, rfl, h, hl, p⟩
theorem g_make {W : WF} {C : Str} {w : WA} (p : w Γ Ω fun ss Ω1 => makeAt W C P ss Ω1) : wMake W C w Γ Ω P := p
theorem g_makeP {W : WF} {C : Str} {ss : List S} (p : ∀ a, Ω a = none → W (.adr a :: ss) (put Ω a (.ins C [])) fun v Ω2 => v = .non ∧ P (.adr a) Ω2) : makeAt W C P ss Ω := p
theorem g_lenSet (p : we Γ Ω fun s Ω1 => lenSetAt P s Ω1) : wLenSet we Γ Ω P := p
theorem g_cutS {w : WS} (R : Ga → Om → Prop) (h : w { O with nx := R } Γ Ω) (k : ∀ Γ Ω, R Γ Ω → O.nx Γ Ω) : wCutS w O Γ Ω := ⟨_, h, k, fun _ _ h => h, fun _ _ h => h, fun _ _ h => h⟩
theorem look_pos {α : Type} {f : Str} {v : α} {r : List (Str × α)} : List.lookup f ((f, v) :: r) = some v := by simp
theorem look_neg {α : Type} {f g : Str} {v : α} {r : List (Str × α)} (h : f ≠ g) : List.lookup f ((g, v) :: r) = List.lookup f r := by
  have hb : (f == g) = false := beq_eq_false_iff_ne.mpr h
  rw [List.lookup, hb]
theorem look_nil {α : Type} {f : Str} : List.lookup f ([] : List (Str × α)) = none := rfl
theorem fput_pos {α : Type} {f : Str} {v w : α} {r : List (Str × α)} : fPut f w ((f, v) :: r) = (f, w) :: r := if_pos rfl
theorem fput_neg {α : Type} {f g : Str} {v w : α} {r : List (Str × α)} (h : g ≠ f) : fPut f w ((g, v) :: r) = (g, v) :: fPut f w r := if_neg h
theorem fput_cons {α : Type} {f g : Str} {v w : α} {r r' : List (Str × α)} (h : g ≠ f) (e : fPut f w r = r') : fPut f w ((g, v) :: r) = (g, v) :: r' := by rw [fput_neg h, e]
theorem fput_nil {α : Type} {f : Str} {w : α} : fPut f w [] = [(f, w)] := rfl
end
end Om
/-! Om: division by larger numbers; what can't be reached; stores that agree. -/
namespace Om
open PySem L2
open PyProof.Rows (b2i)
section
variable {X : Cx}
def CDivW (i j : Int) : Prop := 0 < j ∧ j < 18446744073709551616
theorem noPy {x y : Int} (h : CDivW x y) : Builtin.divisionGoesByPylong x y = false := by
  refine PyProof.noPylong_of_log2 ?_
  have h0 : y.natAbs ≠ 0 := by have := h.1; omega
  have : y.natAbs.log2 < 64 := (Nat.log2_lt h0).mpr (by have := h.1; have := h.2; omega)
  omega
theorem op_fdivW : OpR X (binaryOp .FloorDiv) (rI CDivW fun i j => .int (i / j)) := opI fun i j _ _ _ _ _ hc q => by
  refine PyProof.Rows.floordiv_int (by have := hc.1; omega) ?_ (.inl (noPy hc))
  rw [Int.fdiv_eq_ediv_of_nonneg _ (Int.le_of_lt hc.1)]
  exact q
def oDivW : W2 := oI CDivW fun i j => .int (i / j)
theorem oo_fdivW : OO X (binaryOp .FloorDiv) (rI CDivW fun i j => .int (i / j)) oDivW := ⟨op_fdivW, s2_I fun _ _ _ _ => .int _⟩
theorem g_divW {i j : Int} {Ω : Om} {P : WP} (h : 0 < j ∧ j < 18446744073709551616) (p : P (.int (i / j)) Ω) : oDivW (.int i) (.int j) Ω P := ⟨i, j, rfl, rfl, h, p⟩
/-- not reached -/
def wNo : WS := fun _ _ _ => False
theorem os_no {s : Stmt} : OS X s (fun _ _ _ => False) wNo := ⟨⟨fun _ _ _ _ _ _ h => h.elim⟩, fun Z σ H Γ Ω O D ok en w k => w⟩
end
/-- no test, each element one value, the store as it was: a map over what stands behind the elements -/
theorem g_mapL {α : Type} {Γ : Ga} {Ω : Om} {P : WP} {l : List α} {G : Om → Prop} {wg : WG} {we : WE} (h f : α → S) (hG : G Ω) (hl : l.length < sizeLine) (hs : ∀ (i : Nat) x, l[i]? = some x → ∀ Q : WP, Q (f x) Ω → wg (h x) Γ Ω fun Γ2 Ω2 => we Γ2 Ω2 Q) (hd : nw (l.map f) Ω P) : lcAt wg wYes we Γ P (l.map h) G Ω := by
  refine ⟨fun n acc Ω' => n ≤ l.length ∧ acc = (l.take n).map f ∧ Ω' = Ω, ⟨Nat.zero_le _, rfl, rfl⟩, fun n acc Ω' _ h => by rw [h.2.2]; exact hG, ?_, ?_⟩
  · rintro n s acc Ω' hi ⟨h0, rfl, rfl⟩
    obtain ⟨x, hx, rfl⟩ := map_out hi
    have hlt := (List.getElem?_eq_some_iff.mp hx).1
    have e2 : (l.take n).map f ++ [f x] = (l.take (n + 1)).map f := by
      rw [List.take_succ, hx, List.map_append]
      rfl
    refine hs n x hx (fun y Ω4 => ((l.take n).map f).length < sizeLine ∧ n + 1 ≤ l.length ∧ (l.take n).map f ++ [y] = (l.take (n + 1)).map f ∧ Ω4 = Ω') ⟨?_, hlt, e2, rfl⟩
    rw [List.length_map, List.length_take]
    omega
  · rintro acc Ω' ⟨_, rfl, rfl⟩
    rw [List.length_map, List.take_length]
    exact hd
/-- later stores that have all that the earlier one had, but at some places -/
def Agr (N : Addr → Prop) (Ω Ω' : Om) : Prop := ∀ x, ¬ N x → Ω x ≠ none → Ω' x = Ω x
theorem Agr.refl {N : Addr → Prop} {Ω : Om} : Agr N Ω Ω := fun _ _ _ => rfl
theorem Agr.at_ {N : Addr → Prop} {Ω Ω' : Om} {a : Addr} {c : Cell} (h : Agr N Ω Ω') (n : ¬ N a) (e : Ω a = some c) : Ω' a = some c := by
  rw [h a n (by rw [e]; simp), e]
theorem Agr.trans {N : Addr → Prop} {Ω Ω1 Ω2 : Om} (h : Agr N Ω Ω1) (g : Agr N Ω1 Ω2) : Agr N Ω Ω2 := fun x n e => by
  have e1 := h x n e
  rw [g x n (by rw [e1]; exact e), e1]
theorem Agr.mono {N N' : Addr → Prop} {Ω Ω1 : Om} (h : Agr N Ω Ω1) (i : ∀ x, N x → N' x) : Agr N' Ω Ω1 := fun x n e => h x (fun q => n (i x q)) e
theorem Agr.new {N : Addr → Prop} {Ω Ω1 : Om} {a : Addr} {c : Cell} (h : Agr N Ω Ω1) (ha : Ω1 a = none) : Agr N Ω (put Ω1 a c) := fun x n e => by
  have e1 := h x n e
  rw [put_ne (fun q => by rw [q] at e1; rw [ha] at e1; exact e (by rw [q]; exact e1.symm)), e1]
theorem Agr.mut {N : Addr → Prop} {Ω Ω1 : Om} {a : Addr} {c : Cell} (h : Agr N Ω Ω1) (ha : N a) : Agr N Ω (put Ω1 a c) := fun x n e => by
  rw [put_ne (fun q => n (by rw [q]; exact ha)), h x n e]
theorem Agr.drp {N : Addr → Prop} {Ω Ω1 : Om} {a : Addr} (h : Agr N Ω Ω1) (ha : N a) : Agr N Ω (drp Ω1 a) := fun x n e => by
  rw [drp_ne (fun q => n (by rw [q]; exact ha)), h x n e]
theorem Agr.drpN {N : Addr → Prop} {Ω Ω1 : Om} {a : Addr} (h : Agr N Ω Ω1) (ha : Ω a = none) : Agr N Ω (Om.drp Ω1 a) := fun x n e => by
  rw [drp_ne (fun q => e (by rw [q]; exact ha)), h x n e]
theorem Agr.putN {N : Addr → Prop} {Ω Ω1 : Om} {a : Addr} {c : Cell} (h : Agr N Ω Ω1) (ha : Ω a = none) : Agr N Ω (put Ω1 a c) := fun x n e => by
  rw [put_ne (fun q => e (by rw [q]; exact ha)), h x n e]
abbrev Agr0 : Om → Om → Prop := Agr fun _ => False
end Om
/-! Om: zip of lists or of tuples; more steps. -/
namespace Om
open PySem L2
open PyProof.Rows (b2i)
section
variable {X : Cx} {tg e a b : Expr} {te ta tb : TE} {we wa wb : WE} {pos p : Pos}
theorem tup_at {K : PySem.W.Frag} {Z Z2 : Addr → Prop} {Ω1 Ω' : Om} {H1 H' : Hp} {v : V} {ss : List S} {l : Addr} (o : Ok K Z Ω1 H1) (r : Rep K (mu Z Ω1) H1 v (.tup ss)) (ea : v = .ref l)
    (hz : ∀ a, Z2 a → Z a ∨ H1 a = none) (f : Frm Ω1 H1 Ω' H') : ∃ xs, SqT K H' l xs ∧ RepL K (mu Z2 Ω') H' xs ss := by
  subst ea
  cases r with
  | tup h0 h r => exact ⟨_, .inl (.inl (f.keep _ _ h (no_some fun q => h0 (.inr q)))), repL_later hz f r⟩
  | wt h r => exact ⟨_, h H', repL_later hz f r⟩
def zipAtU (P : WQ) (as : List S) (Ω1 : Om) : Prop := zipAt P as Ω1 ∨ ∃ ss us, as = [.tup ss, .tup us] ∧ P (zipL ss us) (fun _ => True) Ω1
def wiZipU (wa : WA) : WI := fun Γ Ω P => wa Γ Ω fun as Ω1 => zipAtU P as Ω1
theorem oi_zipU {K : PySem.W.Frag} {ta : TA} {wa : WA} {tpos : Pos} {elts : List Expr} {kk : Nat} (hg : Gl X "zip") (hm : X.mg "zip" = none) (h : OA X [a, b] ta wa)
    (hs : starEach [a, b] X.env = (false, eval a X.env) :: starEach [b] X.env := by rfl) (hpl : (backTo pos (starEach [b] X.env)).any (·.1) = false := by rfl) (hK : X.K = K := by rfl) :
    OI X (.Tuple elts kk tpos) (.Call (.Name "zip" p) [a, b] [] pos) (RZ.iZipA K ta) (wiZipU wa) := by
  subst hK
  exact ⟨RZ.pi_zipA hg hm h.pe hs hpl, fun Z σ H Γ Ω P R ok en w k => h.se Z σ H Γ Ω _ _ ok en w fun v as Ω1 H1 o1 f1 r1 q => by
    rcases q with ⟨s, u, ss, us, e1, e2, e3, q⟩ | ⟨ss, us, e1, q⟩
    · subst e1
      obtain ⟨x, y, rfl, r, r'⟩ := repL2 r1
      obtain ⟨l, xs, rfl, hq, _⟩ := rep_L o1 r e2
      obtain ⟨m, ys, rfl, hq', _⟩ := rep_L o1 r' e3
      refine ⟨l, m, xs, ys, rfl, .inl ⟨hq, hq', k _ _ _ _ _ o1 f1 (fun Z2 Ω' H' hz o' f' g => ?_) q⟩⟩
      obtain ⟨xs2, hx, rx⟩ := seq_at o1 r e2 rfl hz o' f' g.1
      obtain ⟨ys2, hy, ry⟩ := seq_at o1 r' e3 rfl hz o' f' g.2
      rw [zipL_len]
      refine ⟨fun i hi => ?_, ⟨xs2, ys2, hx, hy, by rw [rx.length, ry.length]; omega⟩, fun i x H2 hi y => ?_⟩
      · obtain ⟨v, h1, _⟩ := rx.get (List.getElem?_eq_getElem (show i < ss.length by omega))
        obtain ⟨v', h1', _⟩ := ry.get (List.getElem?_eq_getElem (show i < us.length by omega))
        exact ⟨xs2, ys2, v, v', hx, hy, h1, h1'⟩
      · obtain ⟨T, z, z', rfl, hT, rfl, h1, h2⟩ := y
        obtain ⟨c, c1, c2⟩ := rx.getV (h1 xs2 hx)
        obtain ⟨d, d1, d2⟩ := ry.getV (h2 ys2 hy)
        obtain ⟨p1, p2, p3⟩ := wk_pairs o' hT c2 d2
        exact ⟨_, zipL_at c1 d1, p1, p2, p3⟩
    · subst e1
      obtain ⟨x, y, rfl, r, r'⟩ := repL2 r1
      obtain ⟨l, xs, rfl, hq, _⟩ := rep_T r rfl
      obtain ⟨m, ys, rfl, hq', _⟩ := rep_T r' rfl
      refine ⟨l, m, xs, ys, rfl, .inr ⟨hq, hq', k _ _ _ _ _ o1 f1 (fun Z2 Ω' H' hz o' f' _ => ?_) q⟩⟩
      obtain ⟨xs2, hx, rx⟩ := tup_at o1 r rfl hz f'
      obtain ⟨ys2, hy, ry⟩ := tup_at o1 r' rfl hz f'
      rw [zipL_len]
      refine ⟨fun i hi => ?_, ⟨xs2, ys2, hx, hy, by rw [rx.length, ry.length]; omega⟩, fun i x H2 hi y => ?_⟩
      · obtain ⟨v, h1, _⟩ := rx.get (List.getElem?_eq_getElem (show i < ss.length by omega))
        obtain ⟨v', h1', _⟩ := ry.get (List.getElem?_eq_getElem (show i < us.length by omega))
        exact ⟨xs2, ys2, v, v', hx, hy, h1, h1'⟩
      · obtain ⟨T, z, z', rfl, hT, rfl, h1, h2⟩ := y
        obtain ⟨c, c1, c2⟩ := rx.getV (h1 xs2 hx)
        obtain ⟨d, d1, d2⟩ := ry.getV (h2 ys2 hy)
        obtain ⟨p1, p2, p3⟩ := wk_pairs o' hT c2 d2
        exact ⟨_, zipL_at c1 d1, p1, p2, p3⟩⟩
/-- a list taken apart -/
def wgLst (n : Nat) (w : WGs) : WG := fun s Γ Ω P => ∃ ss, asL Ω s = some ss ∧ ss.length = n ∧ w ss Γ Ω P
theorem og_lst {K : PySem.W.Frag} {es : List Expr} {k n : Nat} {js : List Nat} {g : TGs} {w : WGs} (hc : X.calm = true) (h : OGs X es js g w)
    (hn : (assignEach es X.env).length = n := by rfl) (hst : (assignEach es X.env).findIdx? (·.1) = none := by rfl) (hK : X.K = K := by rfl) : OG X (.Tuple es k pos) js (gLst K n g) (wgLst n w) := by
  subst hK
  exact ⟨pg_lst hc h.pe hn hst, fun Z v s σ H Γ Ω P Q ok en r ww k => by
    obtain ⟨ss, e, hl, p⟩ := ww
    obtain ⟨l, xs, rfl, hq, rr⟩ := rep_L ok r e
    exact ⟨l, xs, rfl, hq, rr.length.trans hl, h.se Z _ _ σ H Γ Ω _ _ ok en rr p k⟩⟩
end
section
variable {Γ : Ga} {Ω : Om} {P : WP} {s u : S} {i : Int} {O : OEnds}
theorem g_glst {n : Nat} {w : WGs} {ss : List S} {Q : Ga → Om → Prop} (h0 : asL Ω s = some ss) (h : ss.length = n) (p : w ss Γ Ω Q) : wgLst n w s Γ Ω Q := ⟨ss, h0, h, p⟩
theorem g_zipU {w : WA} {Q : WQ} (p : w Γ Ω fun as Ω1 => zipAtU Q as Ω1) : wiZipU w Γ Ω Q := p
theorem g_zipUL {xs ys : List S} {Q : WQ} (h : asL Ω s = some xs) (h2 : asL Ω u = some ys) (p : Q (zipL xs ys) (fun Ω' => seqG s xs Ω' ∧ seqG u ys Ω') Ω) : zipAtU Q [s, u] Ω := .inl ⟨s, u, xs, ys, rfl, h, h2, p⟩
theorem g_zipUT {xs ys : List S} {Q : WQ} (p : Q (zipL xs ys) (fun _ => True) Ω) : zipAtU Q [.tup xs, .tup ys] Ω := .inr ⟨xs, ys, rfl, p⟩
theorem g_pickU {ss : List S} (A : S → Prop) (h0 : 0 ≤ i) (h1 : i < ss.length) (h : ∀ s ∈ ss, A s) (k : ∀ s, A s → P s Ω) : oIxU (.lst ss) (.int i) Ω P := by
  obtain ⟨x, hx⟩ := at_some (xs := ss) (j := i.toNat) (by omega)
  exact g_ixU rfl (atI_i h0 hx) (k x (h x (List.mem_of_getElem? hx)))
theorem g_pickUI (ns : List Int) {ss : List S} (A : Int → Prop) (e : ss = ns.map S.int) (h0 : 0 ≤ i) (h1 : i < ns.length) (h : ∀ x ∈ ns, A x) (k : ∀ x, A x → P (.int x) Ω) : oIxU (.lst ss) (.int i) Ω P := by
  subst e
  obtain ⟨x, hx⟩ := at_some (xs := ns) (j := i.toNat) (by omega)
  exact g_ixU rfl (atI_map S.int (atI_i h0 hx)) (k x (h x (List.mem_of_getElem? hx)))
theorem g_view {w : WS} {Γ' : Ga} {Ω' : Om} (v : VwE Γ Ω Γ' Ω') (p : w O Γ' Ω') : wView w O Γ Ω := ⟨Γ', Ω', v, p⟩
end
end Om
local macro_rules | `(tactic| walk_at "c") => `(tactic| first | assumption | exact Om.put_same | (refine (Om.put_ne ?hn).trans ?hr; (case hn => first | assumption | (apply Ne.symm; assumption)); (case hr => walk_at "c")) | (refine (Om.drp_ne ?hn).trans ?hr; (case hn => first | assumption | (apply Ne.symm; assumption)); (case hr => walk_at "c")))
local macro_rules | `(tactic| walk_at "h") => `(tactic| first | assumption | exact Om.Chg.refl | (refine Om.Chg.put ?_ (by simp) <;> walk_at "h"))
local macro_rules | `(tactic| walk_at "z") => `(tactic| first | (refine Nat.lt_of_le_of_lt ?_ Om.small_lt; simp only [List.length_append, List.length_map, List.length_cons, List.length_nil]; omega))
local macro_rules | `(tactic| walk_at "k") => `(tactic| with_reducible first | exact Om.kb_NoneType_int | exact Om.kb_NoneType_bool | exact Om.kb_NoneType_str | exact Om.kb_NoneType_list | exact Om.kb_NoneType_tuple | exact Om.kb_bool_int | exact Om.kb_bool_bool | exact Om.kb_bool_str | exact Om.kb_bool_list | exact Om.kb_bool_tuple | exact Om.kb_int_int | exact Om.kb_int_bool | exact Om.kb_int_str | exact Om.kb_int_list | exact Om.kb_int_tuple | exact Om.kb_str_int | exact Om.kb_str_bool | exact Om.kb_str_str | exact Om.kb_str_list | exact Om.kb_str_tuple | exact Om.kb_list_int | exact Om.kb_list_bool | exact Om.kb_list_str | exact Om.kb_list_list | exact Om.kb_list_tuple | exact Om.kb_tuple_int | exact Om.kb_tuple_bool | exact Om.kb_tuple_str | exact Om.kb_tuple_list | exact Om.kb_tuple_tuple)
local macro_rules | `(tactic| walk_at "ty") => `(tactic| first | exact Om.TyS.int _ | exact Om.TyS.bl _ | exact Om.TyS.str _ | exact Om.TyS.non | exact Om.TyS.lst _ | exact Om.TyS.tup _ | exact Om.TyS.adr (by walk_at "c"))
local macro_rules | `(tactic| walk_at "l") => `(tactic| with_reducible first | exact Om.look_pos | exact Om.look_nil | (refine (Om.look_neg (by decide)).trans ?_; walk_at "l") | assumption)
local macro_rules | `(tactic| walk_at "p") => `(tactic| with_reducible first | exact Om.fput_nil | exact Om.fput_pos | (refine' Om.fput_cons (by decide) ?he; (case he => walk_at "p")))
local macro_rules | `(tactic| walk_at "m") => `(tactic| with_reducible first | exact List.mem_cons_self | (refine List.mem_cons_of_mem _ ?_; walk_at "m"))
local macro_rules | `(tactic| walk_at "o") => `(tactic| first
  | ((with_reducible refine' Om.g_var ?hv ?_); (case hv => rfl))
  | (with_reducible refine Om.g_c ?_) | (with_reducible refine Om.g_op ?_) | (with_reducible refine Om.g_seq ?_)
  | ((with_reducible refine Om.g_set ?_)) | (with_reducible refine Om.g_test ?_) | (with_reducible refine Om.g_ifS ?_) | (with_reducible refine Om.g_if ?_)
  | (with_reducible refine Om.g_cons ?_) | (with_reducible refine Om.g_nil ?_) | (with_reducible refine Om.g_cb ?_) | (with_reducible refine Om.g_call ?_)
  | (with_reducible refine Om.g_tup ?_) | (with_reducible refine Om.g_lst ?_) | (with_reducible refine Om.g_ret ?_) | (with_reducible refine Om.g_next ?_)
  | (with_reducible refine Om.g_retN ?_) | (with_reducible refine Om.g_drop ?_) | (with_reducible refine Om.g_brk ?_) | (with_reducible refine Om.g_cont ?_)
  | (with_reducible refine Om.g_asg ?_) | (with_reducible refine Om.g_par ?_) | (with_reducible refine Om.g_par3 ?_) | (with_reducible refine Om.g_name ?_)
  | ((with_reducible refine' Om.g_aug ?hv ?_); (case hv => rfl))
  | ((with_reducible refine Om.g_gtup ?hv ?_); (case hv => rfl)) | (with_reducible refine Om.g_gcons ?_) | (with_reducible refine Om.g_gnil ?_) | (with_reducible refine Om.g_gsub ?_)
  | (with_reducible refine Om.g_andV ?_) | (with_reducible refine Om.g_orV ?_) | (with_reducible refine Om.g_notV ?_) | (with_reducible refine Om.g_and ?_) | (with_reducible refine Om.g_or ?_) | (with_reducible refine Om.g_not ?_)
  | (with_reducible refine Om.g_sl ?_) | (with_reducible refine Om.g_noP ?_) | (with_reducible refine Om.g_part ?_) | (with_reducible refine Om.g_rev ?_) | (with_reducible refine Om.g_append ?_)
  | (with_reducible refine Om.g_yes ?_) | (with_reducible refine Om.g_lc ?_) | (with_reducible refine Om.g_for ?_)
  | (with_reducible refine Om.g_rng1 ?_) | (with_reducible refine Om.g_rng2 ?_) | (with_reducible refine Om.g_down ?_) | (with_reducible refine Om.g_seqI ?_) | (with_reducible refine Om.g_enumI ?_) | (with_reducible refine Om.g_zipI ?_)
  | ((with_reducible refine Om.g_rng1P ?hv ?hw ?_); (case hv => omega); (case hw => omega)) | ((with_reducible refine Om.g_rng2P ?hv ?_); (case hv => omega)) | ((with_reducible refine Om.g_downP ?hv ?hw ?_); (case hv => omega); (case hw => omega))
  | ((with_reducible refine' Om.g_seqL ?hv ?_); (case hv => first | rfl | exact Om.asL_adr (by walk_at "c"))) | (with_reducible refine Om.g_seqT ?_)
  | ((with_reducible refine' Om.g_enumP ?hv ?_); (case hv => first | rfl | exact Om.asL_adr (by walk_at "c")))
  | ((with_reducible refine' Om.g_zipP ?hv ?hw ?_); (case hv => first | rfl | exact Om.asL_adr (by walk_at "c")); (case hw => first | rfl | exact Om.asL_adr (by walk_at "c")))
  | (with_reducible refine Om.g_addI ?_) | (with_reducible refine Om.g_subI ?_)
  | ((with_reducible refine Om.g_mulI ?hv ?_); (case hv => omega)) | ((with_reducible refine Om.g_divI ?hv ?_); (case hv => omega)) | ((with_reducible refine Om.g_divW ?hv ?_); (case hv => omega)) | ((with_reducible refine Om.g_modI ?hv ?_); (case hv => omega))
  | ((with_reducible refine Om.g_powI ?hv ?_); (case hv => decide))
  | (with_reducible refine Om.g_ltI ?_) | (with_reducible refine Om.g_leI ?_) | (with_reducible refine Om.g_gtI ?_) | (with_reducible refine Om.g_geI ?_) | (with_reducible refine Om.g_ltS ?_)
  | (with_reducible refine Om.g_eqI ?_) | (with_reducible refine Om.g_eqS ?_) | (with_reducible refine Om.g_eqB ?_) | (with_reducible refine Om.g_neI ?_) | (with_reducible refine Om.g_neS ?_) | (with_reducible refine Om.g_neB ?_)
  | ((with_reducible refine' Om.g_ix ?hv ?hw ?_); (case hv => first | rfl | exact Om.asQ_adr (by walk_at "c")); (case hw => first | assumption | rfl))
  | ((with_reducible refine' Om.g_len ?hv ?_); (case hv => first | rfl | exact Om.asQ_adr (by walk_at "c")))
  | ((with_reducible refine' Om.g_list ?hv ?_); (case hv => first | rfl | exact Om.asQ_adr (by walk_at "c")))
  | ((with_reducible refine' Om.g_slL ?hv ?_); (case hv => first | rfl | exact Om.asL_adr (by walk_at "c")))
  | (with_reducible refine Om.g_slT ?_)
  | (with_reducible refine Om.g_abs ?_) | (with_reducible refine Om.g_max ?_) | (with_reducible refine Om.g_min ?_) | ((with_reducible refine Om.g_divmod ?hv ?_); (case hv => omega))
  | ((with_reducible refine' Om.g_isi ?hv ?hw ?_); (case hv => walk_at "ty"); (case hw => walk_at "k"))
  | ((with_reducible refine' Om.g_isi2 ?hv ?hw ?hx ?_); (case hv => walk_at "ty"); (case hw => walk_at "k"); (case hx => walk_at "k"))
  | (with_reducible refine Om.g_intI ?_) | (with_reducible refine Om.g_intB ?_)
  | ((with_reducible refine' Om.g_app1 ?hv ?_); (case hv => walk_at "c")) | ((with_reducible refine' Om.g_app2 ?hv ?hw ?_); (case hv => walk_at "c"); (case hw => walk_at "z"))
  | ((with_reducible refine' Om.g_at ?hv ?hw ?_); (case hv => walk_at "c"); (case hw => first | rfl | assumption))
  | ((with_reducible refine' Om.g_glst ?hv ?hw ?_); (case hv => first | rfl | exact Om.asL_adr (by walk_at "c")); (case hw => rfl))
  | (with_reducible refine Om.g_zipU ?_) | ((with_reducible refine' Om.g_zipUL ?hv ?hw ?_); (case hv => first | rfl | exact Om.asL_adr (by walk_at "c")); (case hw => first | rfl | exact Om.asL_adr (by walk_at "c"))) | (with_reducible refine Om.g_zipUT ?_)
  | (with_reducible refine Om.g_frz ?_) | (with_reducible refine Om.g_dnew ?_) | (with_reducible refine Om.g_setd ?_) | (with_reducible refine Om.g_getd ?_) | (with_reducible refine Om.g_gsubU ?_) | (with_reducible refine Om.g_augS ?_)
  | (with_reducible refine Om.g_insert ?_) | (with_reducible refine Om.g_keys ?_) | (with_reducible refine Om.g_items ?_) | (with_reducible refine Om.g_dic ?_) | (with_reducible refine Om.g_fld ?_) | (with_reducible refine Om.g_setF ?_) | (with_reducible refine Om.g_augF ?_)
  | (with_reducible refine Om.g_meth ?_) | (with_reducible refine Om.g_make ?_) | (with_reducible refine Om.g_lenSet ?_) | (with_reducible refine Om.g_tupleT ?_)
  | ((with_reducible refine' Om.g_ixU ?hv ?hw ?_); (case hv => first | rfl | exact Om.asQ_adr (by walk_at "c")); (case hw => first | assumption | rfl))
  | ((with_reducible refine' Om.g_lenU ?hv ?_); (case hv => first | rfl | exact Om.asQ_adr (by walk_at "c")))
  | ((with_reducible refine' Om.g_lenUD ?hv ?_); (case hv => first | rfl | exact Om.asD_adr (by walk_at "c")))
  | ((with_reducible refine' Om.g_tupleL ?hv ?_); (case hv => first | rfl | exact Om.asL_adr (by walk_at "c")))
  | ((with_reducible refine' Om.g_atU ?hv ?hw ?_); (case hv => walk_at "c"); (case hw => first | rfl | assumption))
  | ((with_reducible refine' Om.g_item ?hv ?hw ?_); (case hv => first | rfl | exact Om.asL_adr (by walk_at "c")); (case hw => first | assumption | rfl))
  | ((with_reducible refine' Om.g_setd1 ?hv ?_); (case hv => walk_at "c"))
  | ((with_reducible refine' Om.g_ins1 ?hv ?_); (case hv => walk_at "c"))
  | ((with_reducible refine' Om.g_fldP ?hv ?hw ?hx ?_); (case hv => walk_at "c"); (case hw => walk_at "m"); (case hx => walk_at "l"))
  | ((with_reducible refine' Om.g_setFP ?hv ?hw ?hx ?hy ?_); (case hv => walk_at "c"); (case hw => walk_at "m"); (case hx => exact Nat.le_of_ble_eq_true rfl); (case hy => walk_at "p"))
  | ((with_reducible refine' Om.g_augFP ?hv ?hw ?hx ?_); (case hv => walk_at "c"); (case hw => walk_at "m"); (case hx => walk_at "l"))
  | ((with_reducible refine' Om.g_augFQ ?hv ?hw ?hx ?_); (case hv => walk_at "c"); (case hw => exact Nat.le_of_ble_eq_true rfl); (case hx => walk_at "p"))
  | ((with_reducible refine' Om.g_methP ?hv ?hw ?_); (case hv => walk_at "c"); (case hw => walk_at "l"))
  | ((with_reducible refine' Om.g_getd1 ?hv ?_); (case hv => first | rfl | exact Om.asD_adr (by walk_at "c")))
  | ((with_reducible refine' Om.g_getdS ?hv ?_); (case hv => first | rfl | exact Om.asD_adr (by walk_at "c")))
  | ((with_reducible refine' Om.g_inDS ?hv ?_); (case hv => first | rfl | exact Om.asD_adr (by walk_at "c"))) | ((with_reducible refine' Om.g_notInDS ?hv ?_); (case hv => first | rfl | exact Om.asD_adr (by walk_at "c")))
  | (with_reducible refine ⟨_, rfl, ?_⟩) | (with_reducible refine ⟨_, _, rfl, ?_⟩) | (with_reducible refine ⟨_, _, _, rfl, ?_⟩)
  | (with_reducible refine Om.g_T ?_) | (with_reducible refine Om.g_F ?_)
  | ((with_reducible refine Om.g_ifT ?hv ?_); (case hv => rfl)) | ((with_reducible refine Om.g_ifF ?hv ?_); (case hv => rfl))
  | (refine And.intro (Om.small_le (Nat.le_of_ble_eq_true rfl)) ?_))
local macro_rules | `(tactic| walk_at "os") => `(tactic| ((repeat walk_at "o"); try dsimp only [Om.st, Om.wipeG]))
namespace Om
open PySem L2
open PyProof.Rows (b2i)
theorem ups_out {lo : Int} {n i : Nat} {s : S} (h : (ups lo n)[i]? = some s) : i < n ∧ s = .int (lo + (i : Nat)) := by
  have hl := (List.getElem?_eq_some_iff.mp h).1
  rw [ups_len] at hl
  rw [ups_at hl] at h
  cases h
  exact ⟨hl, rfl⟩
theorem g_whileP {c : WT} {wb : WS} {O : OEnds} {Γ : Ga} {Ω : Om} (W : Nat → Ga → Om → Prop) (m : Nat) (h0 : W m Γ Ω) (hs : ∀ m Γ Ω, W m Γ Ω → c Γ Ω fun b Ω1 => if b = true then wb { O with nx := fun Γ' Ω' => ∃ m', m' < m ∧ W m' Γ' Ω', ct := fun Γ' Ω' => ∃ m', m' < m ∧ W m' Γ' Ω', bk := O.nx } Γ Ω1 else O.nx Γ Ω1) : wWhile c wb O Γ Ω := ⟨W, ⟨m, h0⟩, hs⟩
structure Gm where
  one : Str
  r : Int
  n : Int
  other : Str
  s : Int
  m : Int
structure Rec where
  w : Int
  t : Int
  l : Int
  p : Int
  r : Int
  n : Int
  s : Int
  m : Int
abbrev gS (g : Gm) : S := .tup [.str g.one, .int g.r, .int g.n, .str g.other, .int g.s, .int g.m]
def zR : Rec := ⟨0, 0, 0, 0, 0, 0, 0, 0⟩
def plc (r s : Int) : Nat := if s < r then 0 else if r = s then 1 else 2
abbrev Pts : Type := Int × Int × Int
abbrev ptS (p : Pts) : S := .tup [.int p.1, .int p.2.1, .int p.2.2]
def ptA (p : Pts) : Nat → Int
  | 0 => p.1
  | 1 => p.2.1
  | _ => p.2.2
def upR (p : Pts) (c : Rec) (r n s m : Int) : Rec := ⟨if plc r s = 0 then c.w + 1 else c.w, if plc r s = 1 then c.t + 1 else c.t, if plc r s = 2 then c.l + 1 else c.l, c.p + ptA p (plc r s), c.r + r, c.n + n, c.s + s, c.m + m⟩
def addT (p : Pts) (T : List (Str × Rec)) (x : Str) (r n s m : Int) : List (Str × Rec) := pOf T x (upR p ((vOf T x).getD zR) r n s m)
def addG (p : Pts) (T : List (Str × Rec)) (g : Gm) : List (Str × Rec) := addT p (addT p T g.one g.r g.n g.s g.m) g.other g.s g.m g.r g.n
def sums (p : Pts) (gs : List Gm) : List (Str × Rec) := gs.foldl (addG p) []
abbrev stF (p : Int) (t ru f : Addr) : List (Str × S) := [("points", .int p), ("tallies", .adr t), ("runs", .adr ru), ("faced", .adr f)]
/-- an instance that has a record -/
structure StA (Ω : Om) (a : Addr) (c : Rec) (t ru f : Addr) : Prop where
  hi : Ω a = some (.ins "Standing" (stF c.p t ru f))
  ht : Ω t = some (.lst [.int c.w, .int c.t, .int c.l])
  hr : Ω ru = some (.lst [.int c.r, .int c.s])
  hf : Ω f = some (.lst [.int c.n, .int c.m])
  ne : ru ≠ f ∧ t ≠ ru ∧ t ≠ f ∧ a ≠ t ∧ a ≠ ru ∧ a ≠ f
theorem StA.agr {Ω Ω' : Om} {a : Addr} {c : Rec} {t ru f : Addr} {N : Addr → Prop} (h : StA Ω a c t ru f) (g : Agr N Ω Ω') (n : ¬ N a ∧ ¬ N t ∧ ¬ N ru ∧ ¬ N f) : StA Ω' a c t ru f :=
  ⟨g.at_ n.1 h.hi, g.at_ n.2.1 h.ht, g.at_ n.2.2.1 h.hr, g.at_ n.2.2.2 h.hf, h.ne⟩
/-- numbers that a record of so many games may hold -/
structure Rec.Ok (c : Rec) (k : Int) : Prop where
  r : 0 ≤ c.r ∧ c.r ≤ 10000 * k
  n : 0 ≤ c.n ∧ c.n ≤ 10000 * k
  s : 0 ≤ c.s ∧ c.s ≤ 10000 * k
  m : 0 ≤ c.m ∧ c.m ≤ 10000 * k
def num (c : Rec) : Int := c.r * c.m - c.s * c.n
def den (c : Rec) : Int := c.n * c.m
def gcd2 (i j : Int) : Int := (Nat.gcd i.natAbs j.natAbs : Nat)
def rateS (c : Rec) : S := .tup [.int (num c / gcd2 (num c) (den c)), .int (den c / gcd2 (num c) (den c))]
/-- a record that a rate is told of -/
def Rec.Big (c : Rec) : Prop := (-1000000000000000000 < num c ∧ num c < 1000000000000000000) ∧ 0 < den c ∧ den c < 1000000000000000000 ∧ -1000000000000 < c.r ∧ c.r < 1000000000000 ∧ -1000000000000 < c.s ∧ c.s < 1000000000000 ∧ -1000000000000 < c.n ∧ c.n < 1000000000000
def W_common_part : WF := fun ss Ω P => ∃ i j : Int, ss = [.int i, .int j] ∧ 0 ≤ i ∧ 0 ≤ j ∧ P (.int (gcd2 i j)) Ω
def W_lowest_terms : WF := fun ss Ω P => ∃ i j : Int, ss = [.int i, .int j] ∧ 0 < j ∧ j < 1000000000000000000 ∧ P (.tup [.int (i / gcd2 i j), .int (j / gcd2 i j)]) Ω
def W_Standing___init__ : WF := fun ss Ω P => ∃ a : Addr, ss = [.adr a] ∧ Ω a = some (.ins "Standing" []) ∧ ∀ Ω' t ru f, StA Ω' a zR t ru f → (∀ x, x = t ∨ x = ru ∨ x = f → Ω x = none) → Agr (fun x => x = a) Ω Ω' → P .non Ω'
def W_Standing_take_game : WF := fun ss Ω P => ∃ (a t ru f : Addr) (c : Rec) (p : Pts) (r n s m : Int), ss = [.adr a, ptS p, .lst [.int r, .int s], .lst [.int n, .int m]] ∧ StA Ω a c t ru f ∧
  ∀ Ω', StA Ω' a (upR p c r n s m) t ru f → Agr (fun x => x = a ∨ x = t ∨ x = ru ∨ x = f) Ω Ω' → (∀ x, Ω x = none → Ω' x = none) → P .non Ω'
def W_Standing_rate : WF := fun ss Ω P => ∃ (a t ru f : Addr) (c : Rec), ss = [.adr a] ∧ StA Ω a c t ru f ∧ c.Big ∧ P (rateS c) Ω
def v_common_part : WS :=
  (wSeq (wWhile (wTest (wOp oGt (wVar 1) (wC (.int 0)))) (wPar 0 1 (wCons (wVar 1) (wCons (wOp oModI (wVar 0) (wVar 1)) wNil))))
  (wRet (wVar 0)))
abbrev N_common_part : List Str := ["one", "other"]
def v_lowest_terms : WS :=
  (wSeq (wSet (wCall W_common_part (wCons (wCB oAbs (wCons (wVar 0) wNil)) (wCons (wVar 1) wNil))) 2)
  (wRet (wTup (wCons (wOp oDivW (wVar 0) (wVar 2)) (wCons (wOp oDivW (wVar 1) (wVar 2)) wNil)))))
abbrev N_lowest_terms : List Str := ["number", "parts", "by"]
def v_Standing___init__ : WS :=
  (wSeq (wSetF [("Standing" : Str)] "points" (wC (.int 0)) (wVar 0))
  (wSeq (wSetF [("Standing" : Str)] "tallies" (wLst (wCons (wC (.int 0)) (wCons (wC (.int 0)) (wCons (wC (.int 0)) wNil)))) (wVar 0))
  (wSeq (wSetF [("Standing" : Str)] "runs" (wLst (wCons (wC (.int 0)) (wCons (wC (.int 0)) wNil))) (wVar 0))
  (wSetF [("Standing" : Str)] "faced" (wLst (wCons (wC (.int 0)) (wCons (wC (.int 0)) wNil))) (wVar 0)))))
abbrev N_Standing___init__ : List Str := ["self"]
def v_Standing_take_game : WS :=
  (wSeq (wSet (wC (.int 1)) 4)
  (wSeq (wCutS (wIfS (wTest (wOp oNe (wOp oIxU (wVar 2) (wC (.int 0))) (wOp oIxU (wVar 2) (wC (.int 1))))) (wSet (wOp oMul (wC (.int 2)) (wCB oInt (wCons (wOp oLt (wOp oIxU (wVar 2) (wC (.int 0))) (wOp oIxU (wVar 2) (wC (.int 1)))) wNil))) 4) wNext))
  (wSeq (wAugS (fun i j => i + j) (wFld [("Standing" : Str)] "tallies" (wVar 0)) (wVar 4) (wC (.int 1)))
  (wSeq (wAugF [("Standing" : Str)] "points" (fun i j => i + j) (wVar 0) (wOp oIxU (wVar 1) (wVar 4)))
  (wFor (wiRng1 (wCons (wC (.int 2)) wNil)) (wgName 5) (wSeq (wAugS (fun i j => i + j) (wFld [("Standing" : Str)] "runs" (wVar 0)) (wVar 5) (wOp oIxU (wVar 2) (wVar 5)))
  (wAugS (fun i j => i + j) (wFld [("Standing" : Str)] "faced" (wVar 0)) (wVar 5) (wOp oIxU (wVar 3) (wVar 5)))))))))
abbrev N_Standing_take_game : List Str := ["self", "points", "runs", "balls", "place", "k"]
def v_Standing_rate : WS :=
  (wSeq (wSet (wOp oSubI (wOp oMul (wOp oIxU (wFld [("Standing" : Str)] "runs" (wVar 0)) (wC (.int 0))) (wOp oIxU (wFld [("Standing" : Str)] "faced" (wVar 0)) (wC (.int 1)))) (wOp oMul (wOp oIxU (wFld [("Standing" : Str)] "runs" (wVar 0)) (wC (.int 1))) (wOp oIxU (wFld [("Standing" : Str)] "faced" (wVar 0)) (wC (.int 0))))) 1)
  (wRet (wCall W_lowest_terms (wCons (wVar 1) (wCons (wOp oMul (wOp oIxU (wFld [("Standing" : Str)] "faced" (wVar 0)) (wC (.int 0))) (wOp oIxU (wFld [("Standing" : Str)] "faced" (wVar 0)) (wC (.int 1)))) wNil)))))
abbrev N_Standing_rate : List Str := ["self", "number"]
theorem run_common_part (ss : List S) (Ω : Om) (P : WP) (h : W_common_part ss Ω P) : v_common_part { nx := fun _ Ω' => seen P .non Ω', rt := seen P } (startG N_common_part ss) Ω := by
  obtain ⟨i, j, rfl, hi, hj, k⟩ := h
  show v_common_part _ [some (.int i), some (.int j)] Ω
  unfold v_common_part
  walk_at "os"
  refine g_whileP (fun n Γ' Ω' => Ω' = Ω ∧ ∃ x : Nat, Γ' = [some (.int (x : Nat)), some (.int (n : Nat))] ∧ Nat.gcd x n = Nat.gcd i.natAbs j.natAbs) j.natAbs ⟨rfl, i.natAbs, by rw [Int.natAbs_of_nonneg hi, Int.natAbs_of_nonneg hj], rfl⟩ ?_
  rintro n Γ' Ω' ⟨rfl, x, rfl, e⟩
  walk_at "os"
  refine g_ite (fun h0 => ?_) (fun h0 => ?_)
  · walk_at "os"
    refine ⟨x % n, Nat.mod_lt _ (by omega), rfl, n, by rw [Int.natCast_emod], ?_⟩
    rw [← e, Nat.gcd_comm x n, Nat.gcd_rec n x, Nat.gcd_comm]
  · walk_at "os"
    have e0 : n = 0 := by omega
    subst e0
    rw [Nat.gcd_zero_right] at e
    rw [e]
    exact ⟨_, _, .refl, k⟩
theorem gcd2_pos {i j : Int} (h : 0 < j) : 0 < gcd2 i j := by
  unfold gcd2
  have : 0 < Nat.gcd i.natAbs j.natAbs := Nat.gcd_pos_of_pos_right _ (by omega)
  omega
theorem gcd2_le {i j : Int} (h : 0 < j) : gcd2 i j ≤ j := by
  unfold gcd2
  have : Nat.gcd i.natAbs j.natAbs ≤ j.natAbs := Nat.gcd_le_right _ (by omega)
  omega
theorem gcd2_abs {i j : Int} : gcd2 (if i < 0 then -i else i) j = gcd2 i j := by
  unfold gcd2
  split
  · rw [Int.natAbs_neg]
  · rfl
theorem run_lowest_terms (ss : List S) (Ω : Om) (P : WP) (h : W_lowest_terms ss Ω P) : v_lowest_terms { nx := fun _ Ω' => seen P .non Ω', rt := seen P } (startG N_lowest_terms ss) Ω := by
  obtain ⟨i, j, rfl, h0, h1, k⟩ := h
  show v_lowest_terms _ [some (.int i), some (.int j), none] Ω
  unfold v_lowest_terms
  walk_at "os"
  refine ⟨_, _, rfl, by split <;> omega, by omega, ?_⟩
  rw [gcd2_abs]
  have g1 := gcd2_pos (i := i) h0
  have g2 := gcd2_le (i := i) h0
  walk_at "os"
  exact ⟨_, _, .refl, k⟩
theorem run_Standing___init__ (ss : List S) (Ω : Om) (P : WP) (h : W_Standing___init__ ss Ω P) : v_Standing___init__ { nx := fun _ Ω' => seen P .non Ω', rt := seen P } (startG N_Standing___init__ ss) Ω := by
  obtain ⟨a, rfl, ha, k⟩ := h
  show v_Standing___init__ _ [some (.adr a)] Ω
  unfold v_Standing___init__
  walk_at "os"
  refine g_cell fun t ht => ?_
  have n1 : a ≠ t := ne_put put_same ht
  walk_at "os"
  refine g_cell fun ru hr => ?_
  have n2 : a ≠ ru := ne_put put_same hr
  have n3 : t ≠ ru := ne_put (by walk_at "c") hr
  walk_at "os"
  refine g_cell fun f hf => ?_
  have n4 : a ≠ f := ne_put put_same hf
  have n5 : t ≠ f := ne_put (by walk_at "c") hf
  have n6 : ru ≠ f := ne_put (by walk_at "c") hf
  walk_at "os"
  rw [put_ne n1.symm] at ht
  rw [put_ne n2.symm, put_ne n3.symm, put_ne n2.symm] at hr
  rw [put_ne n4.symm, put_ne n6.symm, put_ne n4.symm, put_ne n5.symm, put_ne n4.symm] at hf
  refine ⟨_, _, .refl, k _ t ru f ⟨by walk_at "c", by walk_at "c", by walk_at "c", by walk_at "c", n6, n3, n5, n1, n2, n4⟩ (fun x hx => ?_) ?_⟩
  · rcases hx with rfl | rfl | rfl <;> assumption
  · exact Agr.mut (Agr.putN (Agr.mut (Agr.putN (Agr.mut (Agr.putN (Agr.mut .refl rfl) ht) rfl) hr) rfl) hf) rfl
theorem run_Standing_rate (ss : List S) (Ω : Om) (P : WP) (h : W_Standing_rate ss Ω P) : v_Standing_rate { nx := fun _ Ω' => seen P .non Ω', rt := seen P } (startG N_Standing_rate ss) Ω := by
  obtain ⟨a, t, ru, f, c, rfl, st, hb, k⟩ := h
  obtain ⟨h1, h2, h3, h4, h5⟩ := st
  obtain ⟨⟨b1, b2⟩, b3, b4, b5, b6, b7, b8, b9, b10⟩ := hb
  show v_Standing_rate _ [some (.adr a), none] Ω
  unfold v_Standing_rate
  walk_at "os"
  refine ⟨_, _, rfl, b3, b4, ?_⟩
  exact ⟨_, _, .refl, k⟩
theorem run_Standing_take_game (ss : List S) (Ω : Om) (P : WP) (h : W_Standing_take_game ss Ω P) : v_Standing_take_game { nx := fun _ Ω' => seen P .non Ω', rt := seen P } (startG N_Standing_take_game ss) Ω := by
  obtain ⟨a, t, ru, f, c, p, r, n, s, m, rfl, ⟨h1, h2, h3, h4, n1, n2, n3, n4, n5, n6⟩, k⟩ := h
  show v_Standing_take_game _ [some (.adr a), some (ptS p), some (.lst [.int r, .int s]), some (.lst [.int n, .int m]), none, none] Ω
  unfold v_Standing_take_game
  walk_at "os"
  refine g_cutS (fun Γ' Ω' => Ω' = Ω ∧ Γ' = [some (.adr a), some (ptS p), some (.lst [.int r, .int s]), some (.lst [.int n, .int m]), some (.int (plc r s : Nat)), none]) ?_ ?_
  · walk_at "os"
    refine g_iteN (fun h0 => ?_) (fun h0 => ?_)
    · walk_at "os"
      refine ⟨rfl, ?_⟩
      by_cases h : r < s
      · rw [decide_eq_true h, show plc r s = 2 from by unfold plc; rw [if_neg (by omega), if_neg h0]]; rfl
      · rw [decide_eq_false h, show plc r s = 0 from if_pos (by omega)]; rfl
    · walk_at "os"
      refine ⟨rfl, ?_⟩
      rw [show plc r s = 1 from by unfold plc; rw [if_neg (by omega), if_pos h0]]; rfl
  rintro Γ' Ω' ⟨rfl, rfl⟩
  have hp : plc r s = 0 ∨ plc r s = 1 ∨ plc r s = 2 := by
    unfold plc
    split
    · exact .inl rfl
    · split
      · exact .inr (.inl rfl)
      · exact .inr (.inr rfl)
  rcases hp with h | h | h <;> rw [h]
  · walk_at "os"
    refine g_forP (fun i Γ' Ω2 => ∃ x, Γ' = [some (.adr a), some (ptS p), some (.lst [.int r, .int s]), some (.lst [.int n, .int m]), some (.int (0 : Nat)), x] ∧
      Ω2 a = some (.ins "Standing" (stF (upR p c r n s m).p t ru f)) ∧ Ω2 t = some (.lst [.int (upR p c r n s m).w, .int (upR p c r n s m).t, .int (upR p c r n s m).l]) ∧
      Ω2 ru = some (.lst [.int (c.r + if 0 < i then r else 0), .int (c.s + if 1 < i then s else 0)]) ∧ Ω2 f = some (.lst [.int (c.n + if 0 < i then n else 0), .int (c.m + if 1 < i then m else 0)]) ∧
      Agr (fun x => x = a ∨ x = t ∨ x = ru ∨ x = f) Ω' Ω2 ∧ ∀ x, Ω' x = none → Ω2 x = none) (fun _ _ _ _ _ => trivial) ?_ ?_ ?_
    · refine ⟨_, rfl, ?_, ?_, ?_, ?_, ?_, ?_⟩
      · unfold upR; rw [h]; walk_at "c"
      · unfold upR; rw [h]; walk_at "c"
      · rw [if_neg (by decide), if_neg (by decide), Int.add_zero, Int.add_zero]; walk_at "c"
      · rw [if_neg (by decide), if_neg (by decide), Int.add_zero, Int.add_zero]; walk_at "c"
      · exact Agr.mut (Agr.mut .refl (.inr (.inl rfl))) (.inl rfl)
      · intro x hx
        rw [put_ne (fun e => by rw [e, h1] at hx; cases hx), put_ne (fun e => by rw [e, h2] at hx; cases hx)]
        exact hx
    · rintro i sv Γ2 Ω2 hi ⟨x, rfl, e1, e2, e3, e4, e5, e6⟩
      obtain ⟨hl, rfl⟩ := ups_out hi
      have hi2 : i = 0 ∨ i = 1 := by
        have : i < 2 := hl
        omega
      rcases hi2 with rfl | rfl
      · rw [if_neg (by decide), if_neg (by decide), Int.add_zero, Int.add_zero] at e3 e4
        walk_at "os"
        refine ⟨by walk_at "c", by walk_at "c", ?_, ?_, Agr.mut (Agr.mut e5 (.inr (.inr (.inl rfl)))) (.inr (.inr (.inr rfl))), ?_⟩
        · rw [if_pos (by decide), if_neg (by decide), Int.add_zero]; walk_at "c"
        · rw [if_pos (by decide), if_neg (by decide), Int.add_zero]; walk_at "c"
        · intro x hx
          rw [put_ne (fun e => by rw [e, h4] at hx; cases hx), put_ne (fun e => by rw [e, h3] at hx; cases hx)]
          exact e6 x hx
      · rw [if_pos (by decide), if_neg (by decide), Int.add_zero] at e3 e4
        walk_at "os"
        refine ⟨by walk_at "c", by walk_at "c", ?_, ?_, Agr.mut (Agr.mut e5 (.inr (.inr (.inl rfl)))) (.inr (.inr (.inr rfl))), ?_⟩
        · rw [if_pos (by decide), if_pos (by decide)]; walk_at "c"
        · rw [if_pos (by decide), if_pos (by decide)]; walk_at "c"
        · intro x hx
          rw [put_ne (fun e => by rw [e, h4] at hx; cases hx), put_ne (fun e => by rw [e, h3] at hx; cases hx)]
          exact e6 x hx
    · rintro Γ2 Ω2 ⟨x, rfl, e1, e2, e3, e4, e5, e6⟩
      rw [ups_len, if_pos (by decide), if_pos (by decide)] at e3 e4
      exact ⟨_, _, .refl, k _ ⟨e1, e2, e3, e4, n1, n2, n3, n4, n5, n6⟩ e5 e6⟩
  · walk_at "os"
    refine g_forP (fun i Γ' Ω2 => ∃ x, Γ' = [some (.adr a), some (ptS p), some (.lst [.int r, .int s]), some (.lst [.int n, .int m]), some (.int (1 : Nat)), x] ∧
      Ω2 a = some (.ins "Standing" (stF (upR p c r n s m).p t ru f)) ∧ Ω2 t = some (.lst [.int (upR p c r n s m).w, .int (upR p c r n s m).t, .int (upR p c r n s m).l]) ∧
      Ω2 ru = some (.lst [.int (c.r + if 0 < i then r else 0), .int (c.s + if 1 < i then s else 0)]) ∧ Ω2 f = some (.lst [.int (c.n + if 0 < i then n else 0), .int (c.m + if 1 < i then m else 0)]) ∧
      Agr (fun x => x = a ∨ x = t ∨ x = ru ∨ x = f) Ω' Ω2 ∧ ∀ x, Ω' x = none → Ω2 x = none) (fun _ _ _ _ _ => trivial) ?_ ?_ ?_
    · refine ⟨_, rfl, ?_, ?_, ?_, ?_, ?_, ?_⟩
      · unfold upR; rw [h]; walk_at "c"
      · unfold upR; rw [h]; walk_at "c"
      · rw [if_neg (by decide), if_neg (by decide), Int.add_zero, Int.add_zero]; walk_at "c"
      · rw [if_neg (by decide), if_neg (by decide), Int.add_zero, Int.add_zero]; walk_at "c"
      · exact Agr.mut (Agr.mut .refl (.inr (.inl rfl))) (.inl rfl)
      · intro x hx
        rw [put_ne (fun e => by rw [e, h1] at hx; cases hx), put_ne (fun e => by rw [e, h2] at hx; cases hx)]
        exact hx
    · rintro i sv Γ2 Ω2 hi ⟨x, rfl, e1, e2, e3, e4, e5, e6⟩
      obtain ⟨hl, rfl⟩ := ups_out hi
      have hi2 : i = 0 ∨ i = 1 := by
        have : i < 2 := hl
        omega
      rcases hi2 with rfl | rfl
      · rw [if_neg (by decide), if_neg (by decide), Int.add_zero, Int.add_zero] at e3 e4
        walk_at "os"
        refine ⟨by walk_at "c", by walk_at "c", ?_, ?_, Agr.mut (Agr.mut e5 (.inr (.inr (.inl rfl)))) (.inr (.inr (.inr rfl))), ?_⟩
        · rw [if_pos (by decide), if_neg (by decide), Int.add_zero]; walk_at "c"
        · rw [if_pos (by decide), if_neg (by decide), Int.add_zero]; walk_at "c"
        · intro x hx
          rw [put_ne (fun e => by rw [e, h4] at hx; cases hx), put_ne (fun e => by rw [e, h3] at hx; cases hx)]
          exact e6 x hx
      · rw [if_pos (by decide), if_neg (by decide), Int.add_zero] at e3 e4
        walk_at "os"
        refine ⟨by walk_at "c", by walk_at "c", ?_, ?_, Agr.mut (Agr.mut e5 (.inr (.inr (.inl rfl)))) (.inr (.inr (.inr rfl))), ?_⟩
        · rw [if_pos (by decide), if_pos (by decide)]; walk_at "c"
        · rw [if_pos (by decide), if_pos (by decide)]; walk_at "c"
        · intro x hx
          rw [put_ne (fun e => by rw [e, h4] at hx; cases hx), put_ne (fun e => by rw [e, h3] at hx; cases hx)]
          exact e6 x hx
    · rintro Γ2 Ω2 ⟨x, rfl, e1, e2, e3, e4, e5, e6⟩
      rw [ups_len, if_pos (by decide), if_pos (by decide)] at e3 e4
      exact ⟨_, _, .refl, k _ ⟨e1, e2, e3, e4, n1, n2, n3, n4, n5, n6⟩ e5 e6⟩
  · walk_at "os"
    refine g_forP (fun i Γ' Ω2 => ∃ x, Γ' = [some (.adr a), some (ptS p), some (.lst [.int r, .int s]), some (.lst [.int n, .int m]), some (.int (2 : Nat)), x] ∧
      Ω2 a = some (.ins "Standing" (stF (upR p c r n s m).p t ru f)) ∧ Ω2 t = some (.lst [.int (upR p c r n s m).w, .int (upR p c r n s m).t, .int (upR p c r n s m).l]) ∧
      Ω2 ru = some (.lst [.int (c.r + if 0 < i then r else 0), .int (c.s + if 1 < i then s else 0)]) ∧ Ω2 f = some (.lst [.int (c.n + if 0 < i then n else 0), .int (c.m + if 1 < i then m else 0)]) ∧
      Agr (fun x => x = a ∨ x = t ∨ x = ru ∨ x = f) Ω' Ω2 ∧ ∀ x, Ω' x = none → Ω2 x = none) (fun _ _ _ _ _ => trivial) ?_ ?_ ?_
    · refine ⟨_, rfl, ?_, ?_, ?_, ?_, ?_, ?_⟩
      · unfold upR; rw [h]; walk_at "c"
      · unfold upR; rw [h]; walk_at "c"
      · rw [if_neg (by decide), if_neg (by decide), Int.add_zero, Int.add_zero]; walk_at "c"
      · rw [if_neg (by decide), if_neg (by decide), Int.add_zero, Int.add_zero]; walk_at "c"
      · exact Agr.mut (Agr.mut .refl (.inr (.inl rfl))) (.inl rfl)
      · intro x hx
        rw [put_ne (fun e => by rw [e, h1] at hx; cases hx), put_ne (fun e => by rw [e, h2] at hx; cases hx)]
        exact hx
    · rintro i sv Γ2 Ω2 hi ⟨x, rfl, e1, e2, e3, e4, e5, e6⟩
      obtain ⟨hl, rfl⟩ := ups_out hi
      have hi2 : i = 0 ∨ i = 1 := by
        have : i < 2 := hl
        omega
      rcases hi2 with rfl | rfl
      · rw [if_neg (by decide), if_neg (by decide), Int.add_zero, Int.add_zero] at e3 e4
        walk_at "os"
        refine ⟨by walk_at "c", by walk_at "c", ?_, ?_, Agr.mut (Agr.mut e5 (.inr (.inr (.inl rfl)))) (.inr (.inr (.inr rfl))), ?_⟩
        · rw [if_pos (by decide), if_neg (by decide), Int.add_zero]; walk_at "c"
        · rw [if_pos (by decide), if_neg (by decide), Int.add_zero]; walk_at "c"
        · intro x hx
          rw [put_ne (fun e => by rw [e, h4] at hx; cases hx), put_ne (fun e => by rw [e, h3] at hx; cases hx)]
          exact e6 x hx
      · rw [if_pos (by decide), if_neg (by decide), Int.add_zero] at e3 e4
        walk_at "os"
        refine ⟨by walk_at "c", by walk_at "c", ?_, ?_, Agr.mut (Agr.mut e5 (.inr (.inr (.inl rfl)))) (.inr (.inr (.inr rfl))), ?_⟩
        · rw [if_pos (by decide), if_pos (by decide)]; walk_at "c"
        · rw [if_pos (by decide), if_pos (by decide)]; walk_at "c"
        · intro x hx
          rw [put_ne (fun e => by rw [e, h4] at hx; cases hx), put_ne (fun e => by rw [e, h3] at hx; cases hx)]
          exact e6 x hx
    · rintro Γ2 Ω2 ⟨x, rfl, e1, e2, e3, e4, e5, e6⟩
      rw [ups_len, if_pos (by decide), if_pos (by decide)] at e3 e4
      exact ⟨_, _, .refl, k _ ⟨e1, e2, e3, e4, n1, n2, n3, n4, n5, n6⟩ e5 e6⟩
end Om
namespace Om
open PySem L2
open PyProof.Rows (b2i)
abbrev Own := Addr → Option Str
def owned (o : Own) (x : Str) (a t ru f : Addr) : Prop := o a = some x ∧ o t = some x ∧ o ru = some x ∧ o f = some x
inductive Kv (Ω : Om) (o : Own) : List (Key × S) → List (Str × Rec) → Prop
  | nil : Kv Ω o [] []
  | cons {x : Str} {c : Rec} {a t ru f : Addr} {kvs : List (Key × S)} {T : List (Str × Rec)} (h : StA Ω a c t ru f) (w : owned o x a t ru f) (r : Kv Ω o kvs T) : Kv Ω o ((.inr x, .adr a) :: kvs) ((x, c) :: T)
theorem inr_ne {x y : Str} (h : ¬ x = y) : ¬ (Sum.inr x : Key) = .inr y := fun e => h (Sum.inr.inj e)
theorem Kv.length {Ω : Om} {o : Own} {kvs : List (Key × S)} {T : List (Str × Rec)} (h : Kv Ω o kvs T) : kvs.length = T.length := by
  induction h with
  | nil => rfl
  | cons _ _ _ ih => simp [ih]
theorem Kv.look {Ω : Om} {o : Own} {kvs : List (Key × S)} {T : List (Str × Rec)} {x : Str} {c : Rec} (h : Kv Ω o kvs T) (e : vOf T x = some c) : ∃ a t ru f, vOf kvs (.inr x) = some (.adr a) ∧ StA Ω a c t ru f ∧ owned o x a t ru f := by
  induction h with
  | nil => cases e
  | @cons x' c' a t ru f kvs T h w r ih =>
    by_cases ex : x' = x
    · subst ex
      rw [vOf_pos (p := (x', c')) rfl] at e
      cases e
      exact ⟨a, t, ru, f, vOf_pos rfl, h, w⟩
    · rw [vOf_neg (p := (x', c')) ex] at e
      obtain ⟨a, t, ru, f, e1, e2, e3⟩ := ih e
      exact ⟨a, t, ru, f, by rw [vOf_neg (inr_ne ex)]; exact e1, e2, e3⟩
theorem Kv.lookN {Ω : Om} {o : Own} {kvs : List (Key × S)} {T : List (Str × Rec)} {x : Str} (h : Kv Ω o kvs T) (e : vOf T x = none) : vOf kvs (.inr x) = none := by
  induction h with
  | nil => rfl
  | @cons x' c' a t ru f kvs T h w r ih =>
    by_cases ex : x' = x
    · rw [vOf_pos (p := (x', c')) ex] at e; cases e
    · rw [vOf_neg (p := (x', c')) ex] at e
      rw [vOf_neg (inr_ne ex)]
      exact ih e
theorem Kv.keep {Ω Ω' : Om} {o o' : Own} {kvs : List (Key × S)} {T : List (Str × Rec)} {N : Addr → Prop} (h : Kv Ω o kvs T) (g : Agr N Ω Ω') (n : ∀ a x, o a = some x → x ∈ T.map (·.1) → Ω a ≠ none → ¬ N a ∧ o' a = some x) : Kv Ω' o' kvs T := by
  induction h with
  | nil => exact .nil
  | @cons x' c' a t ru f kvs T h w r ih =>
    have hm : x' ∈ ((x', c') :: T).map (·.1) := List.mem_cons_self
    have na := n a x' w.1 hm (by rw [h.hi]; simp)
    have nt := n t x' w.2.1 hm (by rw [h.ht]; simp)
    have nr := n ru x' w.2.2.1 hm (by rw [h.hr]; simp)
    have nf := n f x' w.2.2.2 hm (by rw [h.hf]; simp)
    exact .cons (h.agr g ⟨na.1, nt.1, nr.1, nf.1⟩) ⟨na.2, nt.2, nr.2, nf.2⟩ (ih fun a x e m => n a x e (List.mem_cons_of_mem _ m))
theorem vOf_none {κ α : Type} [DecidableEq κ] {T : List (κ × α)} {x : κ} (h : x ∉ T.map (·.1)) : vOf T x = none := by
  induction T with
  | nil => rfl
  | cons p r ih =>
    rw [List.map_cons, List.mem_cons] at h
    rw [vOf_neg (fun e => h (.inl e.symm))]
    exact ih fun m => h (.inr m)
theorem vOf_mem {κ α : Type} [DecidableEq κ] {T : List (κ × α)} {x : κ} (h : vOf T x = none) : x ∉ T.map (·.1) := by
  induction T with
  | nil => simp
  | cons p r ih =>
    by_cases e : p.1 = x
    · rw [vOf_pos e] at h; cases h
    · rw [vOf_neg e] at h
      rw [List.map_cons, List.mem_cons]
      rintro (q | q)
      · exact e q.symm
      · exact ih h q
theorem any_of {κ α : Type} [DecidableEq κ] {T : List (κ × α)} {x : κ} : (T.any fun kv => decide (kv.1 = x)) = (vOf T x).isSome := by
  induction T with
  | nil => rfl
  | cons p r ih =>
    rw [List.any_cons]
    by_cases e : p.1 = x
    · rw [vOf_pos e, decide_eq_true e]; rfl
    · rw [vOf_neg e, decide_eq_false e, ih]; rfl
theorem pOf_new {κ α : Type} [DecidableEq κ] {T : List (κ × α)} {x : κ} {v : α} (h : vOf T x = none) : pOf T x v = T ++ [(x, v)] := by
  unfold pOf
  rw [any_of, h]
  rfl
theorem pOf_old {κ α : Type} [DecidableEq κ] {T : List (κ × α)} {x : κ} {v u : α} (h : vOf T x = some u) : pOf T x v = T.map fun kv => if kv.1 = x then (kv.1, v) else kv := by
  unfold pOf
  rw [any_of, h]
  rfl
theorem map_off {κ α : Type} [DecidableEq κ] {T : List (κ × α)} {x : κ} {v : α} (h : x ∉ T.map (·.1)) : (T.map fun kv => if kv.1 = x then (kv.1, v) else kv) = T := by
  induction T with
  | nil => rfl
  | cons p r ih =>
    rw [List.map_cons, List.mem_cons] at h
    rw [List.map_cons, if_neg (fun e => h (.inl e.symm)), ih fun m => h (.inr m)]
theorem pOf_names {κ α : Type} [DecidableEq κ] {T : List (κ × α)} {x : κ} {v : α} : (pOf T x v).map (·.1) = if x ∈ T.map (·.1) then T.map (·.1) else T.map (·.1) ++ [x] := by
  cases e : vOf T x with
  | none => rw [pOf_new e, if_neg (vOf_mem e), List.map_append]; rfl
  | some u =>
    rw [pOf_old e, map_put1, if_pos]
    refine Classical.byContradiction fun n => ?_
    rw [vOf_none n] at e
    cases e
theorem pOf_nd {κ α : Type} [DecidableEq κ] {T : List (κ × α)} {x : κ} {v : α} (h : (T.map (·.1)).Nodup) : ((pOf T x v).map (·.1)).Nodup := by
  rw [pOf_names]
  split
  · exact h
  · rename_i n
    rw [List.nodup_append]
    refine ⟨h, by simp, fun a ha b hb e => n ?_⟩
    rw [List.mem_singleton] at hb
    rw [← hb, ← e]
    exact ha
theorem pOf_len {κ α : Type} [DecidableEq κ] {T : List (κ × α)} {x : κ} {v : α} : (pOf T x v).length ≤ T.length + 1 := by
  unfold pOf
  split
  · rw [List.length_map]; omega
  · rw [List.length_append]; exact Nat.le_refl _
theorem Kv.upd {Ω Ω' : Om} {o : Own} {kvs : List (Key × S)} {T : List (Str × Rec)} {x : Str} {c' : Rec} {a t ru f : Addr} (h : Kv Ω o kvs T) (nd : (T.map (·.1)).Nodup) (e : vOf kvs (.inr x) = some (.adr a)) (w : owned o x a t ru f) (s : StA Ω' a c' t ru f)
    (g : Agr (fun y => y = a ∨ y = t ∨ y = ru ∨ y = f) Ω Ω') : Kv Ω' o kvs (T.map fun kv => if kv.1 = x then (kv.1, c') else kv) := by
  have ow : ∀ y z, (y = a ∨ y = t ∨ y = ru ∨ y = f) → o y = some z → z = x := by
    obtain ⟨w1, w2, w3, w4⟩ := w
    rintro y z (rfl | rfl | rfl | rfl) hz
    · rw [w1] at hz; cases hz; rfl
    · rw [w2] at hz; cases hz; rfl
    · rw [w3] at hz; cases hz; rfl
    · rw [w4] at hz; cases hz; rfl
  induction h with
  | nil => cases e
  | @cons x' c0 a0 t0 ru0 f0 kvs T h0 w0 r ih =>
    rw [List.map_cons, List.nodup_cons] at nd
    by_cases ex : x' = x
    · subst ex
      rw [vOf_pos (p := ((Sum.inr x' : Key), S.adr a0)) rfl] at e
      cases e
      rw [List.map_cons, if_pos rfl, map_off nd.1]
      refine .cons s w (r.keep g fun y z hz hm _ => ⟨fun hy => nd.1 ?_, hz⟩)
      rw [← ow y z hy hz]
      exact hm
    · rw [vOf_neg (inr_ne ex)] at e
      rw [List.map_cons, if_neg ex]
      refine .cons (h0.agr g ⟨fun hy => ex (ow _ _ hy w0.1), fun hy => ex (ow _ _ hy w0.2.1), fun hy => ex (ow _ _ hy w0.2.2.1), fun hy => ex (ow _ _ hy w0.2.2.2)⟩) w0 (ih nd.2 e)
theorem Kv.snoc {Ω : Om} {o : Own} {kvs : List (Key × S)} {T : List (Str × Rec)} {x : Str} {c : Rec} {a t ru f : Addr} (h : Kv Ω o kvs T) (s : StA Ω a c t ru f) (w : owned o x a t ru f) : Kv Ω o (kvs ++ [(.inr x, .adr a)]) (T ++ [(x, c)]) := by
  induction h with
  | nil => exact .cons s w .nil
  | cons h0 w0 r ih => exact .cons h0 w0 ih
theorem Kv.fn {Ω : Om} {o : Own} {kvs : List (Key × S)} {T : List (Str × Rec)} (h : Kv Ω o kvs T) (nd : (T.map (·.1)).Nodup) : ∃ A : Str → Addr, kvs = T.map (fun e => (.inr e.1, .adr (A e.1))) ∧ ∀ e ∈ T, ∃ t ru f, StA Ω (A e.1) e.2 t ru f := by
  induction h with
  | nil => exact ⟨fun _ => 0, rfl, fun _ h => by cases h⟩
  | @cons x c a t ru f kvs T h0 w0 r ih =>
    rw [List.map_cons, List.nodup_cons] at nd
    obtain ⟨A, e1, e2⟩ := ih nd.2
    have off : ∀ e ∈ T, e.1 ≠ x := fun e he q => nd.1 (by
      rw [List.mem_map]
      exact ⟨e, he, q⟩)
    refine ⟨fun y => if y = x then a else A y, ?_, fun e he => ?_⟩
    · show (((.inr x : Key), S.adr a) :: kvs) = ((.inr x : Key), S.adr (if x = x then a else A x)) :: T.map (fun e => ((.inr e.1 : Key), S.adr (if e.1 = x then a else A e.1)))
      rw [if_pos rfl, e1]
      congr 1
      refine List.map_congr_left fun e he => ?_
      rw [if_neg (off e he)]
    · rcases List.mem_cons.mp he with rfl | he
      · refine ⟨t, ru, f, ?_⟩
        show StA Ω (if x = x then a else A x) c t ru f
        rw [if_pos rfl]
        exact h0
      · show ∃ t ru f, StA Ω (if e.1 = x then a else A e.1) e.2 t ru f
        rw [if_neg (off e he)]
        exact e2 e he
/-- the dict at d has a record for each name of T -/
structure TbA (Ω : Om) (o : Own) (d : Addr) (T : List (Str × Rec)) : Prop where
  dict : ∃ kvs, Ω d = some (.dK kvs) ∧ Kv Ω o kvs T
  od : o d = none
  live : ∀ x n, o x = some n → Ω x ≠ none
  nd : (T.map (·.1)).Nodup
def W_standings : WF := fun ss Ω P => ∃ (p : Pts) (gs : List Gm), ss = [ptS p, .lst (gs.map gS)] ∧ gs.length ≤ 2000 ∧ ∀ Ω' o d, TbA Ω' o d (sums p gs) → Agr0 Ω Ω' → Ω d = none → P (.adr d) Ω'
def W_rate_of : WF := fun ss Ω P => ∃ (gs : List Gm) (x : Str) (c : Rec), ss = [.lst (gs.map gS), .str x] ∧ gs.length ≤ 2000 ∧ vOf (sums (0, 0, 0) gs) x = some c ∧ c.Big ∧ ∀ Ω', Agr0 Ω Ω' → P (rateS c) Ω'
theorem g_tstep {i0 i2 ix j1 j2 j3 j4 : Nat} {O : OEnds} {Γ : Ga} {Ω : Om} {o : Own} {d : Addr} {T : List (Str × Rec)} {p : Pts} {x : Str} {r n s m : Int} (h : TbA Ω o d T) (hl : T.length < 100000)
    (e0 : gt Γ i0 = some (ptS p)) (e2 : gt Γ i2 = some (.adr d)) (ex : gt Γ ix = some (.str x)) (f1 : gt Γ j1 = some (.int r)) (f2 : gt Γ j2 = some (.int s)) (f3 : gt Γ j3 = some (.int n)) (f4 : gt Γ j4 = some (.int m))
    (k : ∀ Ω' o', TbA Ω' o' d (addT p T x r n s m) → Agr (fun y => y = d ∨ o y ≠ none) Ω Ω' → (∀ y, o' y ≠ none → o y ≠ none ∨ Ω y = none) → O.nx Γ Ω') :
    wDrop (wMeth W_Standing_take_game "Standing" "take_game" (wSetd (wVar i2) (wVar ix) (wMake W_Standing___init__ "Standing" wNil)) (wCons (wVar i0) (wCons (wLst (wCons (wVar j1) (wCons (wVar j2) wNil))) (wCons (wLst (wCons (wVar j3) (wCons (wVar j4) wNil))) wNil)))) O Γ Ω := by
  obtain ⟨⟨kvs, hd, kv⟩, od, live, nd⟩ := h
  walk_at "os"
  refine g_var e2 ?_
  walk_at "os"
  refine g_var ex ?_
  walk_at "os"
  refine g_makeP fun a ha => ?_
  refine ⟨a, rfl, put_same, fun Ω1 t ru f st fresh ag => ⟨rfl, ?_⟩⟩
  have nda : d ≠ a := ne_put hd ha
  have live1 : ∀ y, Ω y ≠ none → y ≠ a := fun y hy e => hy (by rw [e]; exact ha)
  have ag1 : ∀ y, Ω y ≠ none → Ω1 y = Ω y := fun y hy => by
    have e1 := ag y (live1 y hy) (by rw [put_ne (live1 y hy)]; exact hy)
    rw [e1, put_ne (live1 y hy)]
  have fr : ∀ y, y = a ∨ y = t ∨ y = ru ∨ y = f → Ω y = none := by
    rintro y (rfl | hy)
    · exact ha
    · have q := fresh y hy
      by_cases e : y = a
      · rw [e]; exact ha
      · rw [put_ne e] at q; exact q
  have hd1 : Ω1 d = some (.dK kvs) := by rw [ag1 d (by rw [hd]; simp), hd]
  have A01 : Agr (fun _ => False) Ω Ω1 := fun y _ hy => ag1 y hy
  have kl := kv.length
  refine g_setdS hd1 (Nat.lt_trans (by omega) small_lt) (fun v hv => ?_) (fun hn => ?_)
  · cases hT : vOf T x with
    | none => rw [kv.lookN hT] at hv; cases hv
    | some c =>
      obtain ⟨b, bt, br, bf, q1, q2, q3⟩ := kv.look hT
      rw [q1] at hv
      cases hv
      have q2' : StA Ω1 b c bt br bf := q2.agr A01 ⟨fun z => z, fun z => z, fun z => z, fun z => z⟩
      have q2i := q2'.hi
      walk_at "os"
      refine g_var e0 ?_
      walk_at "os"
      refine g_var f1 ?_
      walk_at "os"
      refine g_var f2 ?_
      walk_at "os"
      refine g_data ?_
      walk_at "os"
      refine g_var f3 ?_
      walk_at "os"
      refine g_var f4 ?_
      walk_at "os"
      refine g_data ?_
      walk_at "os"
      refine ⟨b, bt, br, bf, c, p, r, n, s, m, rfl, q2', fun Ω2 st2 ag2 nn => ?_⟩
      have own : ∀ y, (y = b ∨ y = bt ∨ y = br ∨ y = bf) → o y = some x := by
        obtain ⟨w1, w2, w3, w4⟩ := q3
        rintro y (rfl | rfl | rfl | rfl) <;> assumption
      refine k Ω2 o ⟨⟨kvs, ?_, ?_⟩, od, fun y z hz => ?_, ?_⟩ (fun y hy hne => ?_) (fun y hy => .inl hy)
      · refine ag2.at_ (fun hy => ?_) hd1
        rw [own d hy] at od
        cases od
      · unfold addT
        rw [hT, pOf_old hT]
        exact (kv.keep (o' := o) A01 fun y z hz _ _ => ⟨fun q => q, hz⟩).upd nd q1 q3 st2 ag2
      · by_cases hy : y = b ∨ y = bt ∨ y = br ∨ y = bf
        · rcases hy with rfl | rfl | rfl | rfl
          · rw [st2.hi]; simp
          · rw [st2.ht]; simp
          · rw [st2.hr]; simp
          · rw [st2.hf]; simp
        · rw [ag2 y hy (by rw [ag1 y (live y z hz)]; exact live y z hz), ag1 y (live y z hz)]
          exact live y z hz
      · unfold addT
        exact pOf_nd nd
      · have hy2 : ¬ (y = b ∨ y = bt ∨ y = br ∨ y = bf) := fun q => hy (.inr (by rw [own y q]; simp))
        rw [ag2 y hy2 (by rw [ag1 y hne]; exact hne), ag1 y hne]
  · have hT : vOf T x = none := by
      cases hT : vOf T x with
      | none => rfl
      | some c =>
        obtain ⟨b, bt, br, bf, q1, _⟩ := kv.look hT
        rw [q1] at hn
        cases hn
    obtain ⟨s1, s2, s3, s4, n1, n2, n3, n4, n5, n6⟩ := st
    have m1 : a ≠ d := nda.symm
    have m2 : t ≠ d := fun e => by rw [e, hd1] at s2; cases s2
    have m3 : ru ≠ d := fun e => by rw [e, hd1] at s3; cases s3
    have m4 : f ≠ d := fun e => by rw [e, hd1] at s4; cases s4
    have st' : StA (put Ω1 d (.dK (pOf kvs (.inr x) (.adr a)))) a zR t ru f := ⟨by rw [put_ne m1]; exact s1, by rw [put_ne m2]; exact s2, by rw [put_ne m3]; exact s3, by rw [put_ne m4]; exact s4, n1, n2, n3, n4, n5, n6⟩
    have si := st'.hi
    walk_at "os"
    refine g_var e0 ?_
    walk_at "os"
    refine g_var f1 ?_
    walk_at "os"
    refine g_var f2 ?_
    walk_at "os"
    refine g_data ?_
    walk_at "os"
    refine g_var f3 ?_
    walk_at "os"
    refine g_var f4 ?_
    walk_at "os"
    refine g_data ?_
    walk_at "os"
    refine ⟨a, t, ru, f, zR, p, r, n, s, m, rfl, st', fun Ω2 st2 ag2 nn => ?_⟩
    have hd2 : Ω2 d = some (.dK (pOf kvs (.inr x) (.adr a))) := ag2.at_ (by rintro (e | e | e | e) <;> first | exact m1 e.symm | exact m2 e.symm | exact m3 e.symm | exact m4 e.symm) put_same
    have old : ∀ y, Ω y ≠ none → y ≠ d → Ω2 y = Ω y := fun y hy hyd => by
      have hy2 : ¬ (y = a ∨ y = t ∨ y = ru ∨ y = f) := fun q => hy (fr y q)
      have e1 : (put Ω1 d (.dK (pOf kvs (.inr x) (.adr a)))) y = Ω y := by rw [put_ne hyd, ag1 y hy]
      rw [ag2 y hy2 (by rw [e1]; exact hy), e1]
    refine k Ω2 (fun y => if y = a ∨ y = t ∨ y = ru ∨ y = f then some x else o y) ⟨⟨_, hd2, ?_⟩, ?_, fun y z hz => ?_, ?_⟩ (fun y hy hne => old y hne fun e => hy (.inl e)) (fun y hy => ?_)
    · unfold addT
      rw [hT, pOf_new hT, pOf_new hn]
      have kv2 : Kv Ω2 (fun y => if y = a ∨ y = t ∨ y = ru ∨ y = f then some x else o y) kvs T := kv.keep (N := fun y => y = d) (fun y h1 h2 => old y h2 h1) fun y z hz _ hne => ⟨fun e => (by rw [e, od] at hz; cases hz), (by
        show (if y = a ∨ y = t ∨ y = ru ∨ y = f then some x else o y) = some z
        rw [if_neg (fun q => hne (fr y q))]; exact hz)⟩
      exact kv2.snoc st2 ⟨if_pos (.inl rfl), if_pos (.inr (.inl rfl)), if_pos (.inr (.inr (.inl rfl))), if_pos (.inr (.inr (.inr rfl)))⟩
    · show (if d = a ∨ d = t ∨ d = ru ∨ d = f then some x else o d) = none
      rw [if_neg (by rintro (e | e | e | e) <;> first | exact m1 e.symm | exact m2 e.symm | exact m3 e.symm | exact m4 e.symm), od]
    · by_cases q : y = a ∨ y = t ∨ y = ru ∨ y = f
      · rcases q with rfl | rfl | rfl | rfl
        · rw [st2.hi]; simp
        · rw [st2.ht]; simp
        · rw [st2.hr]; simp
        · rw [st2.hf]; simp
      · rw [if_neg q] at hz
        have hl1 := live y z hz
        rw [old y hl1 fun e => by rw [e, od] at hz; cases hz]
        exact hl1
    · unfold addT
      exact pOf_nd nd
    · by_cases q : y = a ∨ y = t ∨ y = ru ∨ y = f
      · exact .inr (fr y q)
      · rw [if_neg q] at hy
        exact .inl hy
def v_standings : WS :=
  (wSeq (wSet wDNew 2)
  (wSeq (wFor (wiSeq (wVar 1)) (wgTup 6 (wgCons (wgName 3) (wgCons (wgName 4) (wgCons (wgName 5) (wgCons (wgName 6) (wgCons (wgName 7) (wgCons (wgName 8) wgNil))))))) (wSeq (wDrop (wMeth W_Standing_take_game "Standing" "take_game" (wSetd (wVar 2) (wVar 3) (wMake W_Standing___init__ "Standing" wNil)) (wCons (wVar 0) (wCons (wLst (wCons (wVar 4) (wCons (wVar 7) wNil))) (wCons (wLst (wCons (wVar 5) (wCons (wVar 8) wNil))) wNil)))))
  (wDrop (wMeth W_Standing_take_game "Standing" "take_game" (wSetd (wVar 2) (wVar 6) (wMake W_Standing___init__ "Standing" wNil)) (wCons (wVar 0) (wCons (wLst (wCons (wVar 7) (wCons (wVar 4) wNil))) (wCons (wLst (wCons (wVar 8) (wCons (wVar 5) wNil))) wNil)))))))
  (wRet (wVar 2))))
abbrev N_standings : List Str := ["points", "games", "found", "one", "r", "n", "other", "s", "m"]
def v_rate_of : WS :=
  (wRet (wMeth W_Standing_rate "Standing" "rate" (wOp oIxU (wCall W_standings (wCons (wTup (wCons (wC (.int 0)) (wCons (wC (.int 0)) (wCons (wC (.int 0)) wNil)))) (wCons (wVar 0) wNil))) (wVar 1)) wNil))
abbrev N_rate_of : List Str := ["games", "team"]
theorem addT_len {p : Pts} {T : List (Str × Rec)} {x : Str} {r n s m : Int} : (addT p T x r n s m).length ≤ T.length + 1 := pOf_len
theorem sums_len {p : Pts} (gs : List Gm) : ∀ T : List (Str × Rec), (gs.foldl (addG p) T).length ≤ T.length + 2 * gs.length := by
  induction gs with
  | nil => intro T; simp
  | cons g gs ih =>
    intro T
    rw [List.foldl_cons, List.length_cons]
    have h1 := ih (addG p T g)
    have h2 : (addG p T g).length ≤ T.length + 2 := Nat.le_trans addT_len (Nat.succ_le_succ addT_len)
    omega
theorem take_fold {α β : Type} {l : List α} {f : β → α → β} {b : β} {i : Nat} {x : α} (h : l[i]? = some x) : (l.take (i + 1)).foldl f b = f ((l.take i).foldl f b) x := by
  rw [List.take_succ, h, List.foldl_append]
  rfl
theorem run_standings (ss : List S) (Ω : Om) (P : WP) (h : W_standings ss Ω P) : v_standings { nx := fun _ Ω' => seen P .non Ω', rt := seen P } (startG N_standings ss) Ω := by
  obtain ⟨p, gs, rfl, hl, k⟩ := h
  show v_standings _ [some (ptS p), some (.lst (gs.map gS)), none, none, none, none, none, none, none] Ω
  unfold v_standings
  walk_at "os"
  intro d hd
  walk_at "os"
  refine g_forP (fun i Γ' Ω' => ∃ x1 x2 x3 x4 x5 x6 o, Γ' = [some (ptS p), some (.lst (gs.map gS)), some (.adr d), x1, x2, x3, x4, x5, x6] ∧ TbA Ω' o d ((gs.take i).foldl (addG p) []) ∧ Agr0 Ω Ω' ∧ ∀ y, o y ≠ none → Ω y = none) (fun _ _ _ _ _ => seqG_lst) ?_ ?_ ?_
  · exact ⟨_, _, _, _, _, _, fun _ => none, rfl, ⟨⟨[], put_same, .nil⟩, rfl, fun _ _ h => (by cases h), (by simp)⟩, Agr.new .refl hd, fun y hy => (hy rfl).elim⟩
  · rintro i sv Γ' Ω' hi ⟨x1, x2, x3, x4, x5, x6, o, rfl, tb, ag, fr⟩
    obtain ⟨g, hg, rfl⟩ := map_out hi
    have hil := (List.getElem?_eq_some_iff.mp hg).1
    have tl : ((gs.take i).foldl (addG p) []).length ≤ 4000 := by
      have := sums_len (p := p) (gs.take i) []
      rw [List.length_take] at this
      simp only [List.length_nil] at this
      omega
    walk_at "o"; walk_at "o"; walk_at "o"; walk_at "o"; walk_at "o"; walk_at "o"; walk_at "o"; walk_at "o"; walk_at "o"; walk_at "o"; walk_at "o"; walk_at "o"; walk_at "o"
    refine g_gnil ?_
    refine g_seq ?_
    refine g_tstep tb (Nat.lt_of_le_of_lt tl (by decide)) rfl rfl rfl rfl rfl rfl rfl fun Ω1 o1 tb1 ag1 fr1 => ?_
    refine g_tstep tb1 (Nat.lt_of_le_of_lt (Nat.le_trans addT_len (Nat.succ_le_succ tl)) (by decide)) rfl rfl rfl rfl rfl rfl rfl fun Ω2 o2 tb2 ag2 fr2 => ?_
    have F1 : ∀ y, o1 y ≠ none → Ω y = none := fun y hy => by
      rcases fr1 y hy with q | q
      · exact fr y q
      · refine no_some fun hn => ?_
        have := ag y (fun z => z) hn
        rw [q] at this
        exact hn this.symm
    have B1 : Agr0 Ω Ω1 := fun y _ hy => by
      have e := ag y (fun z => z) hy
      rw [ag1 y ?_ (by rw [e]; exact hy), e]
      rintro (q | q)
      · rw [q] at hy; exact hy hd
      · exact hy (fr y q)
    refine ⟨_, _, _, _, _, _, o2, rfl, ?_, fun y _ hy => ?_, fun y hy => ?_⟩
    · rw [take_fold hg]
      exact tb2
    · have e := B1 y (fun z => z) hy
      rw [ag2 y ?_ (by rw [e]; exact hy), e]
      rintro (q | q)
      · rw [q] at hy; exact hy hd
      · exact hy (F1 y q)
    · rcases fr2 y hy with q | q
      · exact F1 y q
      · refine no_some fun hn => ?_
        have := B1 y (fun z => z) hn
        rw [q] at this
        exact hn this.symm
  · rintro Γ' Ω' ⟨x1, x2, x3, x4, x5, x6, o, rfl, tb, ag, fr⟩
    rw [List.length_map, List.take_length] at tb
    walk_at "os"
    exact ⟨_, _, .refl, k _ o d tb ag hd⟩
theorem run_rate_of (ss : List S) (Ω : Om) (P : WP) (h : W_rate_of ss Ω P) : v_rate_of { nx := fun _ Ω' => seen P .non Ω', rt := seen P } (startG N_rate_of ss) Ω := by
  obtain ⟨gs, x, c, rfl, hl, hx, hb, k⟩ := h
  show v_rate_of _ [some (.lst (gs.map gS)), some (.str x)] Ω
  unfold v_rate_of
  walk_at "os"
  refine ⟨(0, 0, 0), gs, rfl, hl, fun Ω1 o d tb ag hd => ?_⟩
  obtain ⟨⟨kvs, h1, kv⟩, od, live, nd⟩ := tb
  obtain ⟨a, t, ru, f, e1, st, w⟩ := kv.look hx
  have si := st.hi
  walk_at "os"
  refine g_ixDS (asD_adr h1) e1 ?_
  walk_at "os"
  exact ⟨a, t, ru, f, c, rfl, st, hb, _, _, .refl, k _ ag⟩
end Om
namespace Om
open PySem L2
open PyProof.Rows (b2i)
abbrev E2 : Type := Str × Rec
def rnA (c : Rec) : Int := num c / gcd2 (num c) (den c)
def rdA (c : Rec) : Int := den c / gcd2 (num c) (den c)
def lfA (w : Str) (c d : Rec) : Int := if w = "runs" then c.r else if w = "rate" then rnA c * rdA d else c.w
/-- what one breaker says -/
def dec1 (w : Str) (x y : E2) : Option Bool := if w = "name" then some (decide (x.1.cps.toList < y.1.cps.toList)) else if lfA w x.2 y.2 = lfA w y.2 x.2 then none else some (decide (lfA w y.2 x.2 < lfA w x.2 y.2))
def decs : List Str → E2 → E2 → Option Bool
  | [], _, _ => none
  | w :: r, x, y => match dec1 w x y with
    | some b => some b
    | none => decs r x y
def dec (bs : List Str) (x y : E2) : Option Bool := if x.2.p = y.2.p then decs bs x y else some (decide (y.2.p < x.2.p))
def ahead (bs : List Str) (x y : E2) : Bool := (dec bs x y).getD false
theorem decs_some : ∀ {bs : List Str} {i : Nat} {w : Str} {x y : E2} {b : Bool}, decs (bs.take i) x y = none → bs[i]? = some w → dec1 w x y = some b → decs bs x y = some b
  | [], i, _, _, _, _, _, h, _ => by simp at h
  | v :: bs, 0, w, x, y, b, _, h, e => by
    simp at h
    subst h
    unfold decs
    rw [e]
  | v :: bs, i + 1, w, x, y, b, h0, h, e => by
    rw [List.take_succ_cons] at h0
    unfold decs at h0 ⊢
    cases q : dec1 v x y with
    | some c => rw [q] at h0; cases h0
    | none =>
      rw [q] at h0
      exact decs_some h0 (by simpa using h) e
theorem decs_next : ∀ {bs : List Str} {i : Nat} {w : Str} {x y : E2}, decs (bs.take i) x y = none → bs[i]? = some w → dec1 w x y = none → decs (bs.take (i + 1)) x y = none
  | [], i, _, _, _, _, h, _ => by simp at h
  | v :: bs, 0, w, x, y, _, h, e => by
    simp at h
    subst h
    show decs [v] x y = none
    unfold decs
    rw [e]
    rfl
  | v :: bs, i + 1, w, x, y, h0, h, e => by
    rw [List.take_succ_cons] at h0
    rw [List.take_succ_cons]
    unfold decs at h0 ⊢
    cases q : dec1 v x y with
    | some c => rw [q] at h0; cases h0
    | none =>
      rw [q] at h0
      exact decs_next h0 (by simpa using h) e
structure StO (Ω : Om) (x : E2) (a : Addr) : Prop where
  ex : ∃ t ru f, StA Ω a x.2 t ru f
  big : x.2.Big
abbrev eA (x : E2) (a : Addr) : S := .tup [.str x.1, .adr a]
def W_goes_ahead : WF := fun ss Ω P => ∃ (x y : E2) (a b : Addr) (bs : List Str), ss = [eA x a, eA y b, .lst (bs.map S.str)] ∧ StO Ω x a ∧ StO Ω y b ∧ P (.bl (ahead bs x y)) Ω
theorem gcd2_dvd2 {i j : Int} : gcd2 i j ∣ j := Int.ofNat_dvd_left.mpr (Nat.gcd_dvd_right _ _)
theorem gcd2_dvd1 {i j : Int} : gcd2 i j ∣ i := Int.ofNat_dvd_left.mpr (Nat.gcd_dvd_left _ _)
theorem rdA_pos {c : Rec} (h : c.Big) : 0 < rdA c ∧ rdA c < 1000000000000000000 := by
  obtain ⟨_, h1, h2, _⟩ := h
  have g1 := gcd2_pos (i := num c) h1
  have g2 := gcd2_le (i := num c) h1
  unfold rdA
  refine ⟨Int.ediv_pos_of_pos_of_dvd h1 (Int.le_of_lt g1) ?_, Int.lt_of_le_of_lt (Int.ediv_le_self _ (Int.le_of_lt h1)) h2⟩
  exact gcd2_dvd2
def v_goes_ahead : WS :=
  (wSeq (wIfS (wTest (wOp oNe (wFld [("Standing" : Str)] "points" (wOp oIxU (wVar 0) (wC (.int 1)))) (wFld [("Standing" : Str)] "points" (wOp oIxU (wVar 1) (wC (.int 1)))))) (wRet (wOp oGt (wFld [("Standing" : Str)] "points" (wOp oIxU (wVar 0) (wC (.int 1)))) (wFld [("Standing" : Str)] "points" (wOp oIxU (wVar 1) (wC (.int 1)))))) wNext)
  (wSeq (wFor (wiSeq (wVar 2)) (wgName 3) (wSeq (wIfS (wTest (wOp oEq (wVar 3) (wC (.str ("name" : Str))))) (wRet (wOp oLt (wOp oIxU (wVar 0) (wC (.int 0))) (wOp oIxU (wVar 1) (wC (.int 0))))) wNext)
  (wSeq (wSet (wOp oIxU (wFld [("Standing" : Str)] "tallies" (wOp oIxU (wVar 0) (wC (.int 1)))) (wC (.int 0))) 4)
  (wSeq (wSet (wOp oIxU (wFld [("Standing" : Str)] "tallies" (wOp oIxU (wVar 1) (wC (.int 1)))) (wC (.int 0))) 5)
  (wSeq (wCutS (wIfS (wTest (wOp oEq (wVar 3) (wC (.str ("runs" : Str))))) (wSeq (wSet (wOp oIxU (wFld [("Standing" : Str)] "runs" (wOp oIxU (wVar 0) (wC (.int 1)))) (wC (.int 0))) 4)
  (wSet (wOp oIxU (wFld [("Standing" : Str)] "runs" (wOp oIxU (wVar 1) (wC (.int 1)))) (wC (.int 0))) 5)) (wIfS (wTest (wOp oEq (wVar 3) (wC (.str ("rate" : Str))))) (wSeq (wSet (wOp oMul (wOp oIxU (wMeth W_Standing_rate "Standing" "rate" (wOp oIxU (wVar 0) (wC (.int 1))) wNil) (wC (.int 0))) (wOp oIxU (wMeth W_Standing_rate "Standing" "rate" (wOp oIxU (wVar 1) (wC (.int 1))) wNil) (wC (.int 1)))) 4)
  (wSet (wOp oMul (wOp oIxU (wMeth W_Standing_rate "Standing" "rate" (wOp oIxU (wVar 1) (wC (.int 1))) wNil) (wC (.int 0))) (wOp oIxU (wMeth W_Standing_rate "Standing" "rate" (wOp oIxU (wVar 0) (wC (.int 1))) wNil) (wC (.int 1)))) 5)) wNext)))
  (wIfS (wTest (wOp oNe (wVar 4) (wVar 5))) (wRet (wOp oGt (wVar 4) (wVar 5))) wNext))))))
  (wRet (wC (.bl false)))))
abbrev N_goes_ahead : List Str := ["one", "other", "breakers", "word", "left", "right"]
theorem run_goes_ahead (ss : List S) (Ω : Om) (P : WP) (h : W_goes_ahead ss Ω P) : v_goes_ahead { nx := fun _ Ω' => seen P .non Ω', rt := seen P } (startG N_goes_ahead ss) Ω := by
  obtain ⟨x, y, a, b, bs, rfl, ⟨⟨t, ru, f, ⟨h1, h2, h3, h4, h5⟩⟩, hb⟩, ⟨⟨t', ru', f', ⟨q1, q2, q3, q4, q5⟩⟩, qb⟩, k⟩ := h
  have hbb := hb
  have qbb := qb
  have rx := rdA_pos hb
  have ry := rdA_pos qb
  show v_goes_ahead _ [some (eA x a), some (eA y b), some (.lst (bs.map S.str)), none, none, none] Ω
  unfold v_goes_ahead
  walk_at "os"
  refine g_iteN (fun hp => ?_) (fun hp => ?_)
  · walk_at "os"
    refine ⟨_, _, .refl, ?_⟩
    have e : ahead bs x y = decide (y.2.p < x.2.p) := by
      unfold ahead dec
      rw [if_neg hp]
      rfl
    rw [← e]
    exact k
  have ek : ahead bs x y = (decs bs x y).getD false := by
    unfold ahead dec
    rw [if_pos hp]
  walk_at "os"
  refine g_forP (fun i Γ' Ω' => ∃ w l r, Γ' = [some (eA x a), some (eA y b), some (.lst (bs.map S.str)), w, l, r] ∧ Ω' = Ω ∧ decs (bs.take i) x y = none) (fun _ _ _ _ _ => seqG_lst) ⟨_, _, _, rfl, rfl, rfl⟩ ?_ ?_
  · rintro i sv Γ' Ω' hi ⟨w, l, r, rfl, rfl, hd⟩
    obtain ⟨v, hv, rfl⟩ := map_out hi
    walk_at "os"
    refine g_ite (fun hn => ?_) (fun hn => ?_)
    · walk_at "os"
      refine ⟨_, _, .refl, ?_⟩
      have e := decs_some (b := decide (x.1.cps.toList < y.1.cps.toList)) hd hv (by unfold dec1; rw [if_pos hn])
      rw [ek, e] at k
      exact k
    walk_at "os"
    have sx : StA Ω' a x.2 t ru f := ⟨h1, h2, h3, h4, h5⟩
    have sy : StA Ω' b y.2 t' ru' f' := ⟨q1, q2, q3, q4, q5⟩
    refine g_cutS (fun Γ' Ω'' => Ω'' = Ω' ∧ Γ' = [some (eA x a), some (eA y b), some (.lst (bs.map S.str)), some (.str v), some (.int (lfA v x.2 y.2)), some (.int (lfA v y.2 x.2))]) ?_ ?_
    · walk_at "os"
      refine g_ite (fun hr => ?_) (fun hr => ?_)
      · walk_at "os"
        refine ⟨rfl, ?_⟩
        unfold lfA
        rw [if_pos hr, if_pos hr]
      · walk_at "os"
        refine g_ite (fun ht => ?_) (fun ht => ?_)
        · walk_at "os"
          refine ⟨a, t, ru, f, x.2, rfl, sx, hbb, ?_⟩
          walk_at "os"
          refine ⟨b, t', ru', f', y.2, rfl, sy, qbb, ?_⟩
          walk_at "os"
          refine g_mulI (.inr ?_) ?_
          · have := ry
            unfold rdA at this
            omega
          walk_at "os"
          refine ⟨b, t', ru', f', y.2, rfl, sy, qbb, ?_⟩
          walk_at "os"
          refine ⟨a, t, ru, f, x.2, rfl, sx, hbb, ?_⟩
          walk_at "os"
          refine g_mulI (.inr ?_) ?_
          · have := rx
            unfold rdA at this
            omega
          walk_at "os"
          refine ⟨rfl, ?_⟩
          unfold lfA
          rw [if_neg hr, if_pos ht, if_neg hr, if_pos ht]
          rfl
        · walk_at "os"
          refine ⟨rfl, ?_⟩
          unfold lfA
          rw [if_neg hr, if_neg ht, if_neg hr, if_neg ht]
    rintro Γ2 Ω2 ⟨rfl, rfl⟩
    walk_at "os"
    refine g_iteN (fun hl => ?_) (fun hl => ?_)
    · walk_at "os"
      refine ⟨_, _, .refl, ?_⟩
      have e := decs_some (b := decide (lfA v y.2 x.2 < lfA v x.2 y.2)) hd hv (by unfold dec1; rw [if_neg hn, if_neg hl])
      rw [ek, e] at k
      exact k
    · walk_at "os"
      exact ⟨rfl, decs_next hd hv (by unfold dec1; rw [if_neg hn, if_pos hl])⟩
  · rintro Γ' Ω' ⟨w, l, r, rfl, rfl, hd⟩
    rw [List.length_map, List.take_length] at hd
    walk_at "os"
    refine ⟨_, _, .refl, ?_⟩
    rw [ek, hd] at k
    exact k
end Om
namespace Om
open PySem L2
open PyProof.Rows (b2i)
/-- behind which of the first n a new one goes -/
def posF {α : Type} (f : α → Bool) (l : List α) : Nat → Nat
  | 0 => 0
  | n + 1 => match l[n]? with
    | some y => if f y = true then posF f l n else n + 1
    | none => 0
theorem posF_step {α : Type} {f : α → Bool} {l : List α} {n : Nat} {y : α} (h : l[n]? = some y) : posF f l (n + 1) = if f y = true then posF f l n else n + 1 := by
  rw [posF, h]
def insF {α : Type} (lt : α → α → Bool) (l : List α) (x : α) : List α := l.take (posF (lt x) l l.length) ++ [x] ++ l.drop (posF (lt x) l l.length)
def insAll {α : Type} (lt : α → α → Bool) (l : List α) : List α := l.foldl (insF lt) []
theorem posF_le {α : Type} (f : α → Bool) (l : List α) : ∀ n, posF f l n ≤ n
  | 0 => Nat.le_refl _
  | n + 1 => by
    unfold posF
    split
    · split
      · exact Nat.le_succ_of_le (posF_le f l n)
      · exact Nat.le_refl _
    · omega
theorem insF_len {α : Type} (lt : α → α → Bool) (l : List α) (x : α) : (insF lt l x).length = l.length + 1 := by
  unfold insF
  have h := posF_le (lt x) l l.length
  rw [List.length_append, List.length_append, List.length_take, List.length_drop, List.length_singleton]
  omega
theorem insF_mem {α : Type} {lt : α → α → Bool} {l : List α} {x y : α} : y ∈ insF lt l x ↔ y = x ∨ y ∈ l := by
  unfold insF
  rw [List.mem_append, List.mem_append, List.mem_singleton]
  have h := List.take_append_drop (posF (lt x) l l.length) l
  constructor
  · rintro ((h1 | h1) | h1)
    · exact .inr (List.mem_of_mem_take h1)
    · exact .inl h1
    · exact .inr (List.mem_of_mem_drop h1)
  · rintro (h1 | h1)
    · exact .inl (.inr h1)
    · rw [← h, List.mem_append] at h1
      rcases h1 with h1 | h1
      · exact .inl (.inl h1)
      · exact .inr h1
theorem fold_len {α : Type} (lt : α → α → Bool) : ∀ (xs l : List α), (xs.foldl (insF lt) l).length = l.length + xs.length
  | [], l => rfl
  | x :: xs, l => by
    rw [List.foldl_cons, fold_len lt xs, insF_len, List.length_cons]
    omega
theorem fold_mem {α : Type} (lt : α → α → Bool) {y : α} : ∀ (xs l : List α), y ∈ xs.foldl (insF lt) l ↔ y ∈ l ∨ y ∈ xs
  | [], l => by simp
  | x :: xs, l => by
    rw [List.foldl_cons, fold_mem lt xs, insF_mem, List.mem_cons]
    constructor
    · rintro ((h | h) | h)
      · exact .inr (.inl h)
      · exact .inl h
      · exact .inr (.inr h)
    · rintro (h | h | h)
      · exact .inl (.inr h)
      · exact .inl (.inl h)
      · exact .inr h
abbrev toldS (e : E2) : S := .tup [.str e.1, .int e.2.p, .int e.2.w, .int e.2.t, .int e.2.l, rateS e.2]
def W_standing : WF := fun ss Ω P => ∃ (p : Pts) (bs : List Str) (gs : List Gm), ss = [ptS p, .lst (bs.map S.str), .lst (gs.map gS)] ∧ gs.length ≤ 2000 ∧ (∀ e ∈ sums p gs, e.2.Big) ∧ ∀ Ω', Agr0 Ω Ω' → P (.lst ((insAll (ahead bs) (sums p gs)).map toldS)) Ω'
def v_standing : WS :=
  (wSeq (wSet (wLst wNil) 3)
  (wSeq (wFor (wiItems (wFrz (wCall W_standings (wCons (wVar 0) (wCons (wVar 2) wNil))))) (wgTup 2 (wgCons (wgName 4) (wgCons (wgName 5) wgNil))) (wSeq (wSet (wCB oLenU (wCons (wVar 3) wNil)) 6)
  (wSeq (wWhile (wAnd (wTest (wOp oGt (wVar 6) (wC (.int 0)))) (wTest (wCall W_goes_ahead (wCons (wTup (wCons (wVar 4) (wCons (wVar 5) wNil))) (wCons (wOp oIxU (wVar 3) (wOp oSubI (wVar 6) (wC (.int 1)))) (wCons (wVar 1) wNil)))))) (wAug 6 (fun i j => i - j) (wC (.int 1))))
  (wInsert (wVar 3) (wCons (wVar 6) (wCons (wTup (wCons (wVar 4) (wCons (wVar 5) wNil))) wNil))))))
  (wRet (wLc (wiSeq (wVar 3)) (wgTup 2 (wgCons (wgName 4) (wgCons (wgName 5) wgNil))) wYes (wOp oAdd (wOp oAdd (wTup (wCons (wVar 4) (wCons (wFld [("Standing" : Str)] "points" (wVar 5)) wNil))) (wCB oTuple (wCons (wFld [("Standing" : Str)] "tallies" (wVar 5)) wNil))) (wTup (wCons (wMeth W_Standing_rate "Standing" "rate" (wVar 5) wNil) wNil))) [4, 5]))))
abbrev N_standing : List Str := ["points", "breakers", "games", "order", "team", "mine", "at"]
theorem run_standing (ss : List S) (Ω : Om) (P : WP) (h : W_standing ss Ω P) : v_standing { nx := fun _ Ω' => seen P .non Ω', rt := seen P } (startG N_standing ss) Ω := by
  obtain ⟨p, bs, gs, rfl, hl, big, k⟩ := h
  show v_standing _ [some (ptS p), some (.lst (bs.map S.str)), some (.lst (gs.map gS)), none, none, none, none] Ω
  unfold v_standing
  walk_at "os"
  refine g_cell fun q hq => ?_
  walk_at "os"
  refine ⟨p, gs, rfl, hl, fun Ω1 o d tb ag hd => ?_⟩
  obtain ⟨⟨kvs, h1, kv⟩, od, live, nd⟩ := tb
  obtain ⟨A, rfl, hA⟩ := kv.fn nd
  have q1 : Ω1 q = some (.lst []) := ag.at_ (fun z => z) put_same
  have nq : q ≠ d := fun e => by rw [e, h1] at q1; cases q1
  have dn : Ω d = none := by
    by_cases e : d = q
    · rw [e]; exact hq
    · rw [put_ne e] at hd; exact hd
  generalize hT : sums p gs = T at *
  have Tl : T.length ≤ 4000 := by
    have := sums_len (p := p) gs []
    simp only [List.length_nil] at this
    rw [← hT]
    exact Nat.le_trans this (by omega)
  refine g_frzY h1 ?_
  walk_at "os"
  have hO : ∀ (L : List S) e, e ∈ T → StO (put (drp Ω1 d) q (.lst L)) e (A e.1) := fun L e he => by
    obtain ⟨t, ru, f, s1, s2, s3, s4, s5⟩ := hA e he
    have y1 : A e.1 ≠ q := fun z => by rw [z, q1] at s1; cases s1
    have y2 : t ≠ q := fun z => by rw [z, q1] at s2; cases s2
    have y3 : ru ≠ q := fun z => by rw [z, q1] at s3; cases s3
    have y4 : f ≠ q := fun z => by rw [z, q1] at s4; cases s4
    have z1 : A e.1 ≠ d := fun z => by rw [z, h1] at s1; cases s1
    have z2 : t ≠ d := fun z => by rw [z, h1] at s2; cases s2
    have z3 : ru ≠ d := fun z => by rw [z, h1] at s3; cases s3
    have z4 : f ≠ d := fun z => by rw [z, h1] at s4; cases s4
    exact ⟨⟨t, ru, f, by walk_at "c", by walk_at "c", by walk_at "c", by walk_at "c", s5⟩, big e he⟩
  refine g_forP (fun i Γ' Ω' => ∃ x1 x2 x3, Γ' = [some (ptS p), some (.lst (bs.map S.str)), some (.lst (gs.map gS)), some (.adr q), x1, x2, x3] ∧
    Ω' = put (drp Ω1 d) q (.lst (((T.take i).foldl (insF (ahead bs)) []).map fun e => eA e (A e.1)))) (fun _ _ _ _ _ => trivial) ⟨_, _, _, rfl, (put_self (by rw [drp_ne nq]; exact q1)).symm⟩ ?_ ?_
  · rintro i sv Γ' Ω' hi ⟨x1, x2, x3, rfl, rfl⟩
    unfold itemsL at hi
    rw [List.map_map] at hi
    obtain ⟨e, he, rfl⟩ := map_out hi
    have hem := List.mem_of_getElem? he
    generalize hL : (T.take i).foldl (insF (ahead bs)) [] = L
    have Ll : L.length ≤ 4000 := by
      rw [← hL, fold_len, List.length_take]
      simp only [List.length_nil]
      omega
    have Lm : ∀ y ∈ L, y ∈ T := fun y hy => by
      rw [← hL, fold_mem] at hy
      rcases hy with hy | hy
      · cases hy
      · exact List.mem_of_mem_take hy
    show wgTup _ _ (.tup [.str e.1, .adr (A e.1)]) _ _ _
    walk_at "os"
    rw [List.length_map]
    walk_at "os"
    refine g_whileP (fun n Γ2 Ω2 => n ≤ L.length ∧ Ω2 = put (drp Ω1 d) q (.lst (L.map fun e => eA e (A e.1))) ∧ Γ2 = [some (ptS p), some (.lst (bs.map S.str)), some (.lst (gs.map gS)), some (.adr q), some (.str e.1), some (.adr (A e.1)), some (.int (n : Nat))] ∧
      posF (ahead bs e) L n = posF (ahead bs e) L L.length) L.length ⟨Nat.le_refl _, rfl, rfl, rfl⟩ ?_
    rintro n Γ2 Ω2 ⟨hn, rfl, rfl, hp⟩
    walk_at "os"
    refine g_ite (fun h0 => ?_) (fun h0 => ?_)
    · obtain ⟨n, rfl⟩ : ∃ m, n = m + 1 := ⟨n - 1, by omega⟩
      obtain ⟨y, hy⟩ := at_some (xs := L) (j := n) (by omega)
      walk_at "os"
      have ei : ((n + 1 : Nat) : Int) - 1 = (n : Nat) := by omega
      rw [ei]
      refine g_ixU (asQ_adr put_same) (atI_map (fun e => eA e (A e.1)) (atI_n hy)) ?_
      walk_at "os"
      refine ⟨e, y, A e.1, A y.1, bs, rfl, hO _ e hem, hO _ y (Lm y (List.mem_of_getElem? hy)), ?_⟩
      refine ⟨_, rfl, ?_⟩
      have hp2 := hp
      rw [posF_step hy] at hp2
      cases hb : ahead bs e y with
      | true =>
        rw [hb, if_pos rfl] at hp2
        walk_at "os"
        exact ⟨n, by omega, by omega, rfl, by rw [ei], hp2⟩
      | false =>
        rw [hb, if_neg (by decide)] at hp2
        walk_at "os"
        refine g_ins2 put_same (Nat.lt_trans (by rw [List.length_map]; omega) small_lt) (by omega) ?_
        rw [put_put]
        refine ⟨_, _, _, rfl, ?_⟩
        rw [take_fold he, hL]
        unfold insF
        rw [← hp2, Int.toNat_natCast, List.map_append, List.map_append, List.map_take, List.map_drop]
        rfl
    · have h00 : n = 0 := by omega
      subst h00
      walk_at "os"
      refine g_ins2 put_same (Nat.lt_trans (by rw [List.length_map]; omega) small_lt) (by omega) ?_
      rw [put_put]
      refine ⟨_, _, _, rfl, ?_⟩
      rw [take_fold he, hL]
      unfold insF
      rw [← hp, Int.toNat_natCast, List.map_append, List.map_append, List.map_take, List.map_drop]
      rfl
  · rintro Γ' Ω' ⟨x1, x2, x3, rfl, rfl⟩
    have hTl : (itemsL (T.map fun e => ((.inr e.1 : Key), S.adr (A e.1)))).length = T.length := by
      unfold itemsL
      rw [List.length_map, List.length_map]
    rw [hTl, List.take_length]
    have hI : T.foldl (insF (ahead bs)) [] = insAll (ahead bs) T := rfl
    rw [hI]
    generalize hL : insAll (ahead bs) T = L at *
    have Lm : ∀ y ∈ L, y ∈ T := fun y hy => by
      rw [← hL] at hy
      unfold insAll at hy
      rw [fold_mem] at hy
      rcases hy with hy | hy
      · cases hy
      · exact hy
    have Ll : L.length ≤ 4000 := by
      rw [← hL]
      unfold insAll
      rw [fold_len]
      simp only [List.length_nil]
      omega
    walk_at "os"
    refine g_mapL (fun e : E2 => eA e (A e.1)) toldS (fun a ha => by cases ha; exact put_same) (Nat.lt_trans (by omega) small_lt) (fun i e he Q hQ => ?_) ?_
    · obtain ⟨⟨t, ru, f, st⟩, hb⟩ := hO (L.map fun e => eA e (A e.1)) e (Lm e (List.mem_of_getElem? he))
      have st0 := st
      obtain ⟨s1, s2, s3, s4, s5⟩ := st
      walk_at "os"
      refine g_addT (small_le (by simp)) ?_
      walk_at "os"
      refine ⟨_, t, ru, f, e.2, rfl, st0, hb, ?_⟩
      walk_at "os"
      refine g_addT (small_le (by simp)) ?_
      exact hQ
    · refine g_data ?_
      refine ⟨_, _, .refl, k _ ?_⟩
      exact Agr.putN (Agr.drpN (fun y n hy => by
        rw [ag y n (by rw [put_ne (fun e => hy (by rw [e]; exact hq))]; exact hy), put_ne (fun e => hy (by rw [e]; exact hq))]) dn) hq
end Om
namespace Om
open PySem L2
open PyProof.Rows (b2i)
structure NmOk (x : Str) : Prop where
  ok : PyData.strOk x = true
  len : x.length ≤ 30
structure GmOk (g : Gm) : Prop where
  r : 0 ≤ g.r ∧ g.r ≤ 9999
  n : 1 ≤ g.n ∧ g.n ≤ 9999
  s : 0 ≤ g.s ∧ g.s ≤ 9999
  m : 1 ≤ g.m ∧ g.m ≤ 9999
  one : NmOk g.one
  other : NmOk g.other
def W_league : WF := fun ss Ω P => ∃ (b : Addr) (many : Nat) (n : Int), ss = [.adr b, .int (many : Nat)] ∧ Box b n Ω ∧ 0 ≤ n ∧ n < 100000 ∧ many ≤ 1990 ∧ ∀ (p : Pts) (bs : List Str) (gs : List Gm) Ω', gs.length = many → (∀ x ∈ bs, NmOk x) → (∀ g ∈ gs, GmOk g) → Box b (n + 100000) Ω' → Agr (fun y => y = b) Ω Ω' →
  P (.lst [ptS p, .lst (bs.map S.str), .lst (gs.map gS)]) Ω'
theorem str_len {x y : Str} : (x ++ y).length = x.length + y.length := Array.size_append
theorem nm_app {x y : Str} (hx : PyData.strOk x = true) (hy : PyData.strOk y = true) : PyData.strOk (x ++ y) = true := by
  unfold PyData.strOk at *
  have e : (x ++ y).cps = x.cps ++ y.cps := rfl
  rw [e, Array.all_append, hx, hy]
  rfl
theorem chr_at {x : Str} {i : Int} (hx : PyData.strOk x = true) (h0 : 0 ≤ i) (h1 : i < x.length) : ∃ c, atI x.cps.toList i = some c ∧ PyData.strOk ⟨#[c]⟩ = true := by
  have hl : i.toNat < x.cps.toList.length := by
    have e : x.length = x.cps.toList.length := by simp [Str.length]
    rw [← e]
    omega
  obtain ⟨c, hc⟩ := at_some hl
  refine ⟨c, atI_i h0 hc, ?_⟩
  unfold PyData.strOk at *
  rw [Array.all_eq_true'] at hx
  have := hx c (by rw [← Array.mem_toList_iff]; exact List.mem_of_getElem? hc)
  simpa using this
theorem g_mulS {x : Str} {i : Int} {Ω : Om} {P : WP} (h : i ≤ 1000 ∧ -1000 ≤ i ∧ x.length ≤ 1000) (p : P (.str ⟨(List.replicate i.toNat x.cps.toList).flatten.toArray⟩) Ω) : oMul (.str x) (.int i) Ω P := .inr (.inr ⟨x, i, rfl, rfl, h.1, h.2.1, h.2.2, p⟩)
theorem g_mulL {xs : List S} {s : S} {i : Int} {Ω : Om} {P : WP} (h : asK Ω s = some xs) (h2 : 0 ≤ i ∧ i ≤ 100 ∧ xs.length ≤ 100) (p : nw (List.replicate i.toNat xs).flatten Ω P) : oMul s (.int i) Ω P := by
  refine .inr (.inl ⟨xs, i, h, rfl, by omega, by omega, ?_, p⟩)
  have h9 : xs.length * i.toNat ≤ 100 * 100 := Nat.mul_le_mul h2.2.2 (by omega)
  exact Nat.le_trans h9 (by decide)
theorem nm_lit {x : Str} (h : (PyData.strOk x && decide (x.length ≤ 30)) = true) : NmOk x := by
  rw [Bool.and_eq_true] at h
  exact ⟨h.1, of_decide_eq_true h.2⟩
theorem box_agr {b : Addr} {L : List Addr} {Ω Ω1 Ω2 : Om} (h : Agr (fun y => y = b) Ω Ω1) (c : Chg [b] Ω1 Ω2) : Agr (fun y => y = b) Ω Ω2 := fun y n hy => by
  have e := h y n hy
  rw [c y (fun q => n (List.mem_singleton.mp q)), e]
theorem chg_at {b a : Addr} {c : Cell} {Ω1 Ω2 : Om} (h : Chg [b] Ω1 Ω2) (n : b ≠ a) (e : Ω1 a = some c) : Ω2 a = some c := h.at_ (fun q => n (List.mem_singleton.mp q).symm) e
def v_box : WS :=
  (wSeq (wSet (wC (.int 0)) 1)
  (wSeq (wFor (wiEnum (wCons (wSl (wVar 0) wNoP (wPart (wC (.int 63)))) wNil)) (wgTup 2 (wgCons (wgName 2) (wgCons (wgName 3) wgNil))) (wSet (wOp oAdd (wVar 1) (wOp oMul (wVar 3) (wOp oAdd (wOp oMul (wVar 2) (wVar 2)) (wC (.int 1))))) 1))
  (wRet (wLst (wCons (wOp oMul (wCB oAbs (wCons (wVar 1) wNil)) (wCB oInt (wCons (wOp oGe (wCB oAbs (wCons (wVar 1) wNil)) (wOp oPowI (wC (.int 10)) (wC (.int 18)))) wNil))) (wCons (wOp oModI (wOp oMul (wOp oAdd (wOp oModI (wVar 1) (wC (.int 2147483647))) (wC (.int 11))) (wC (.int 48271))) (wC (.int 2147483629))) (wCons (wC (.int 0)) wNil)))))))
abbrev N_box : List Str := ["script", "cell", "k", "one"]
def v_take : WS :=
  (wSeq (wIfS (wTest (wOp oGt (wOp oIxU (wVar 0) (wC (.int 0))) (wC (.int 0)))) (wSeq (wAsg (wCB oDivmod (wCons (wOp oIxU (wVar 0) (wC (.int 0))) (wCons (wVar 1) wNil))) (wgTup 2 (wgCons (wgSubU (wVar 0) (wC (.int 0))) (wgCons (wgName 2) wgNil))))
  (wRet (wVar 2))) wNext)
  (wSeq (wAsg (wOp oAdd (wOp oIxU (wVar 0) (wC (.int 2))) (wC (.int 1))) (wgSubU (wVar 0) (wC (.int 2))))
  (wSeq (wSet (wOp oModI (wOp oMul (wOp oAdd (wOp oIxU (wVar 0) (wC (.int 1))) (wOp oMul (wC (.int 39373)) (wOp oIxU (wVar 0) (wC (.int 2))))) (wOp oAdd (wC (.int 48271)) (wOp oIxU (wVar 0) (wC (.int 2))))) (wC (.int 2147483647))) 3)
  (wSeq (wAsg (wOp oModI (wOp oAdd (wOp oMul (wVar 3) (wOp oAdd (wOp oModI (wVar 3) (wC (.int 40009))) (wC (.int 7)))) (wOp oIxU (wVar 0) (wC (.int 2)))) (wC (.int 2147483629))) (wgSubU (wVar 0) (wC (.int 1))))
  (wRet (wOp oModI (wOp oDivW (wOp oModI (wOp oMul (wOp oIxU (wVar 0) (wC (.int 1))) (wOp oAdd (wOp oModI (wOp oIxU (wVar 0) (wC (.int 1))) (wC (.int 1009))) (wC (.int 3)))) (wC (.int 998244353))) (wC (.int 7))) (wVar 1)))))))
abbrev N_take : List Str := ["box", "many", "found", "once"]
def v_league : WS :=
  (wSeq (wPar3 2 3 4 (wCons (wOp oIxU (wLst (wCons (wC (.str ("a" : Str))) (wCons (wC (.str ("ql" : Str))) (wCons (wC (.str ("hallq" : Str))) wNil)))) (wCall W_take (wCons (wVar 0) (wCons (wC (.int 3)) wNil)))) (wCons (wOp oAdd (wC (.int 2)) (wCall W_take (wCons (wVar 0) (wCons (wC (.int 39)) wNil)))) (wCons (wCall W_take (wCons (wVar 0) (wCons (wC (.int 40)) wNil))) wNil))))
  (wSeq (wPar3 5 6 7 (wCons (wCall W_take (wCons (wVar 0) (wCons (wC (.int 2)) wNil))) (wCons (wCall W_take (wCons (wVar 0) (wCons (wC (.int 2)) wNil))) (wCons (wCall W_take (wCons (wVar 0) (wCons (wC (.int 4)) wNil))) wNil))))
  (wSeq (wSet (wSl (wOp oMul (wLst (wCons (wC (.str ("wins" : Str))) (wCons (wC (.str ("rate" : Str))) (wCons (wC (.str ("runs" : Str))) (wCons (wC (.str ("name" : Str))) wNil))))) (wC (.int 2))) (wPart (wVar 7)) (wPart (wOp oAdd (wOp oAdd (wVar 7) (wC (.int 1))) (wCall W_take (wCons (wVar 0) (wCons (wC (.int 4)) wNil)))))) 8)
  (wSeq (wSet (wOp oIxU (wLst (wCons (wVar 8) (wCons (wRev (wVar 8)) wNil))) (wCall W_take (wCons (wVar 0) (wCons (wC (.int 2)) wNil)))) 8)
  (wSeq (wSet (wOp oIxU (wLst (wCons (wCB oTuple (wCons (wLc (wiRng1 (wCons (wC (.int 3)) wNil)) (wgName 12) wYes (wCall W_take (wCons (wVar 0) (wCons (wC (.int 10000)) wNil))) [12]) wNil)) (wCons (wTup (wCons (wC (.int 2)) (wCons (wC (.int 1)) (wCons (wC (.int 0)) wNil)))) wNil))) (wVar 6)) 9)
  (wSeq (wPar 10 11 (wCons (wLst wNil) (wCons (wLst wNil) wNil)))
  (wSeq (wFor (wiRng1 (wCons (wVar 3) wNil)) (wgName 12) (wSeq (wSet (wOp oModI (wOp oAdd (wVar 4) (wOp oMul (wC (.int 7)) (wVar 12))) (wC (.int 40))) 13)
  (wAppend (wVar 10) (wOp oAdd (wOp oAdd (wOp oAdd (wVar 2) (wOp oIxU (wC (.str ("bcdfghjklm" : Str))) (wOp oModI (wVar 13) (wC (.int 10))))) (wOp oIxU (wC (.str ("vxzq" : Str))) (wOp oDivW (wVar 13) (wC (.int 10))))) (wOp oMul (wC (.str ("z" : Str))) (wOp oModI (wVar 13) (wC (.int 2))))))))
  (wSeq (wFor (wiRng1 (wCons (wVar 1) wNil)) (wgName 14) (wSeq (wPar 15 16 (wCons (wCall W_take (wCons (wVar 0) (wCons (wVar 3) wNil))) (wCons (wOp oAdd (wC (.int 1)) (wCall W_take (wCons (wVar 0) (wCons (wOp oSubI (wVar 3) (wC (.int 1))) wNil)))) wNil)))
  (wSeq (wSet (wOp oIxU (wLst (wCons (wC (.int 10000)) (wCons (wC (.int 4)) wNil))) (wVar 5)) 17)
  (wSeq (wSet (wTup (wCons (wOp oIxU (wVar 10) (wVar 15)) (wCons (wCall W_take (wCons (wVar 0) (wCons (wVar 17) wNil))) (wCons (wOp oAdd (wC (.int 1)) (wCall W_take (wCons (wVar 0) (wCons (wOp oSubI (wVar 17) (wC (.int 1))) wNil)))) wNil)))) 18)
  (wAppend (wVar 11) (wOp oAdd (wVar 18) (wTup (wCons (wOp oIxU (wVar 10) (wOp oModI (wOp oAdd (wVar 15) (wVar 16)) (wVar 3))) (wCons (wCall W_take (wCons (wVar 0) (wCons (wVar 17) wNil))) (wCons (wOp oAdd (wC (.int 1)) (wCall W_take (wCons (wVar 0) (wCons (wOp oSubI (wVar 17) (wC (.int 1))) wNil)))) wNil))))))))))
  (wView (wRet (wLst (wCons (wVar 9) (wCons (wVar 8) (wCons (wVar 11) wNil))))))))))))))
abbrev N_league : List Str := ["box", "many", "stem", "teams", "first", "few", "usual", "at", "breakers", "points", "names", "games", "k", "j", "turn", "one", "step", "sizes", "mine"]
theorem run_take (ss : List S) (Ω : Om) (P : WP) (h : W_take ss Ω P) : v_take { nx := fun _ Ω' => seen P .non Ω', rt := seen P } (startG N_take ss) Ω := by
  obtain ⟨b, m, n, rfl, ⟨x, y, z, hb, h1, h2, h3, h4, h5⟩, h6, h7, h8, k⟩ := h
  show v_take _ [some (.adr b), some (.int m), none, none] Ω
  unfold v_take
  walk_at "os"
  refine g_ite (fun h0 => ?_) (fun h0 => ?_)
  · walk_at "os"
    refine ⟨_, _, .refl, k _ _ (Int.emod_nonneg _ (by omega)) (Int.emod_lt_of_pos _ (by omega)) ⟨x / m, y, z, put_same, Int.ediv_nonneg h1 (by omega), h2, h3, h4, by omega⟩ put_chg⟩
  · walk_at "os"
    refine ⟨_, _, .refl, k _ _ (Int.emod_nonneg _ (by omega)) (Int.emod_lt_of_pos _ (by omega)) ⟨x, _, z + 1, put_same, h1, Int.emod_nonneg _ (by omega), Int.lt_trans (Int.emod_lt_of_pos _ (by decide)) (by decide), by omega, by omega⟩ (by walk_at "h")⟩
theorem run_box (ss : List S) (Ω : Om) (P : WP) (h : W_box ss Ω P) : v_box { nx := fun _ Ω' => seen P .non Ω', rt := seen P } (startG N_box ss) Ω := by
  obtain ⟨ns, rfl, hl, k⟩ := h
  show v_box _ [some (.wls (ns.map S.int)), none, none, none] Ω
  unfold v_box
  walk_at "os"
  refine g_data ?_
  walk_at "os"
  rw [cut_map]
  refine g_forP (fun i Γ' Ω' => Ω' = Ω ∧ ∃ (c : Int) (x y : Option S), Γ' = [some (.wls (ns.map S.int)), some (.int c), x, y]) (fun _ _ _ _ _ => seqG_lst) ⟨rfl, _, _, _, rfl⟩ ?_ ?_
  · rintro i s Γ' Ω' hi ⟨rfl, c, x, y, rfl⟩
    obtain ⟨u, h1, rfl⟩ := enumL_out hi
    obtain ⟨z, h2, rfl⟩ := map_out h1
    have hlt : i < 1000 := by
      have := (List.getElem?_eq_some_iff.mp h2).1
      have := cut_le ns none (some 63)
      omega
    rw [Nat.zero_add]
    walk_at "os"
    have hm : (i : Int) * (i : Int) ≤ 1000 * 1000 := Int.mul_le_mul (by omega) (by omega) (by omega) (by omega)
    have hm0 : 0 ≤ (i : Int) * (i : Int) := Int.mul_nonneg (by omega) (by omega)
    walk_at "os"
    exact ⟨rfl, _, _, _, rfl⟩
  · rintro Γ' Ω' ⟨rfl, c, x, y, rfl⟩
    walk_at "os"
    refine g_mulI (.inr ?_) ?_
    · unfold PyProof.Rows.b2i
      split <;> omega
    walk_at "os"
    refine g_cell fun a ha => ?_
    refine ⟨_, _, .refl, k a _ ha ⟨_, _, 0, put_same, ?_, Int.emod_nonneg _ (by decide), Int.lt_trans (Int.emod_lt_of_pos _ (by decide)) (by decide), by decide, by decide⟩ put_chg⟩
    refine Int.mul_nonneg (by split <;> omega) ?_
    unfold PyProof.Rows.b2i
    split <;> omega
theorem run_league (ss : List S) (Ω : Om) (P : WP) (h : W_league ss Ω P) : v_league { nx := fun _ Ω' => seen P .non Ω', rt := seen P } (startG N_league ss) Ω := by
  obtain ⟨b, many, n, rfl, hB, n0, n1, hm, k⟩ := h
  show v_league _ [some (.adr b), some (.int (many : Nat)), none, none, none, none, none, none, none, none, none, none, none, none, none, none, none, none, none] Ω
  unfold v_league
  walk_at "os"
  refine g_data ?_
  walk_at "os"
  refine g_take hB (by omega) (by decide) (by decide) fun r0 Ω1 a1 a2 B1 C1 => ?_
  refine g_pickU (fun s => ∃ x, s = .str x ∧ NmOk x ∧ x.length ≤ 10) a1 (by simpa using a2) ?_ ?_
  · intro s hs
    simp only [List.mem_cons, List.not_mem_nil, or_false] at hs
    rcases hs with rfl | rfl | rfl
    · exact ⟨_, rfl, nm_lit (by decide +kernel), by decide +kernel⟩
    · exact ⟨_, rfl, nm_lit (by decide +kernel), by decide +kernel⟩
    · exact ⟨_, rfl, nm_lit (by decide +kernel), by decide +kernel⟩
  rintro s ⟨stem, rfl, stok, stl⟩
  walk_at "os"
  refine g_take B1 (by omega) (by decide) (by decide) fun t0 Ω2 a3 a4 B2 C2 => ?_
  walk_at "os"
  refine g_take B2 (by omega) (by decide) (by decide) fun first Ω3 a5 a6 B3 C3 => ?_
  walk_at "os"
  refine g_take B3 (by omega) (by decide) (by decide) fun few Ω4 a7 a8 B4 C4 => ?_
  walk_at "os"
  refine g_take B4 (by omega) (by decide) (by decide) fun usual Ω5 a9 a10 B5 C5 => ?_
  walk_at "os"
  refine g_take B5 (by omega) (by decide) (by decide) fun at_ Ω6 b1 b2 B6 C6 => ?_
  walk_at "os"
  refine g_data ?_
  walk_at "os"
  refine g_mulL rfl ⟨by decide, by decide, by decide⟩ ?_
  refine g_data ?_
  walk_at "os"
  refine g_take B6 (by omega) (by decide) (by decide) fun r1 Ω7 b3 b4 B7 C7 => ?_
  walk_at "os"
  have e8 : (List.replicate (Int.toNat 2) [S.str ("wins" : Str), S.str ("rate" : Str), S.str ("runs" : Str), S.str ("name" : Str)]).flatten = (["wins", "rate", "runs", "name", "wins", "rate", "runs", "name"] : List Str).map S.str := rfl
  rw [e8, cut_map]
  have okC : ∀ x ∈ cutL (["wins", "rate", "runs", "name", "wins", "rate", "runs", "name"] : List Str) (some at_) (some (at_ + 1 + r1)), NmOk x := fun x hx => by
    have hx := List.mem_of_mem_drop (List.mem_of_mem_take hx)
    simp only [List.mem_cons, List.not_mem_nil, or_false] at hx
    rcases hx with rfl | rfl | rfl | rfl | rfl | rfl | rfl | rfl <;> exact nm_lit (by decide +kernel)
  generalize cutL (["wins", "rate", "runs", "name", "wins", "rate", "runs", "name"] : List Str) (some at_) (some (at_ + 1 + r1)) = cs at okC ⊢
  refine g_data ?_
  walk_at "os"
  rw [← List.map_reverse]
  refine g_data ?_
  walk_at "os"
  refine g_data ?_
  walk_at "os"
  refine g_take B7 (by omega) (by decide) (by decide) fun r2 Ω8 b5 b6 B8 C8 => ?_
  refine g_pickU (fun s => ∃ bs : List Str, s = .lst (bs.map S.str) ∧ ∀ x ∈ bs, NmOk x) b5 (by simpa using b6) ?_ ?_
  · intro s hs
    simp only [List.mem_cons, List.not_mem_nil, or_false] at hs
    rcases hs with rfl | rfl
    · exact ⟨_, rfl, okC⟩
    · exact ⟨_, rfl, fun x hx => okC x (List.mem_reverse.mp hx)⟩
  rintro s ⟨bs, rfl, bok⟩
  walk_at "os"
  refine g_lcP (fun i acc Ω' => ∃ ns : List Int, acc = ns.map S.int ∧ ns.length = i ∧ Box b (n + 8 + i) Ω' ∧ Chg [b] Ω8 Ω') (fun _ _ _ _ _ => trivial) ⟨[], rfl, rfl, B8.mono (by omega), .refl⟩ ?_ ?_
  · rintro i s acc Ω' hi ⟨ns, rfl, hns, Bi, Ci⟩
    obtain ⟨hil, rfl⟩ := ups_out hi
    have hil : i < 3 := hil
    walk_at "os"
    refine g_take Bi (by omega) (by decide) (by decide) fun v Ω9 c1 c2 B9 C9 => ?_
    refine ⟨Nat.lt_trans (by rw [List.length_map]; omega) small_lt, ns ++ [v], by rw [List.map_append]; rfl, by rw [List.length_append, hns]; rfl, B9.mono (by omega), Ci.trans C9⟩
  rintro acc Ω9 ⟨ns, rfl, hns, B9, C9⟩
  rw [ups_len] at hns B9
  have hns : ns.length = 3 := hns
  obtain ⟨p0, p1, p2, rfl⟩ : ∃ x y z, ns = [x, y, z] := by
    match ns, hns with
    | [x, y, z], _ => exact ⟨x, y, z, rfl⟩
  refine g_data ?_
  walk_at "os"
  refine g_data ?_
  walk_at "os"
  refine g_pickU (fun s => ∃ p : Pts, s = ptS p) a9 (by simpa using a10) ?_ ?_
  · intro s hs
    simp only [List.mem_cons, List.not_mem_nil, or_false] at hs
    rcases hs with rfl | rfl
    · exact ⟨(p0, p1, p2), rfl⟩
    · exact ⟨(2, 1, 0), rfl⟩
  rintro s ⟨p, rfl⟩
  walk_at "os"
  refine g_cell fun nl hnl => ?_
  walk_at "os"
  refine g_cell fun gl hgl => ?_
  walk_at "os"
  have B9' : Box b (n + 11) Ω9 := B9.mono (by have : ((Int.toNat 3 : Nat) : Int) = 3 := rfl; omega)
  have nb1 : b ≠ nl := fun e => B9.ne (by rw [e]; exact hnl)
  have nb2 : b ≠ gl := fun e => (B9.put (c := .lst []) nb1).ne (by rw [e]; exact hgl)
  have ng : nl ≠ gl := ne_put put_same hgl
  have hgl9 : Ω9 gl = none := by rw [put_ne ng.symm] at hgl; exact hgl
  have CC : Chg [b] Ω Ω9 := (((((((C1.trans C2).trans C3).trans C4).trans C5).trans C6).trans C7).trans C8).trans C9
  have hnl0 : Ω nl = none := by
    refine no_some fun q => ?_
    rw [CC nl (fun e => nb1 (List.mem_singleton.mp e).symm)] at hnl
    exact q hnl
  have hgl0 : Ω gl = none := by
    refine no_some fun q => ?_
    rw [CC gl (fun e => nb2 (List.mem_singleton.mp e).symm)] at hgl9
    exact q hgl9
  obtain ⟨tn, ht⟩ : ∃ k : Nat, 2 + t0 = (k : Int) := ⟨(2 + t0).toNat, by omega⟩
  rw [ht]
  have ag9 : Agr (fun y => y = b) Ω (put (put Ω9 nl (.lst [])) gl (.lst [])) := Agr.putN (Agr.putN (fun y hy _ => CC y (fun e => hy (List.mem_singleton.mp e))) hnl0) hgl0
  walk_at "os"
  refine g_forP (fun i Γ' Ω' => ∃ x y, ∃ ns : List Str, Γ' = [some (.adr b), some (.int (many : Nat)), some (.str stem), some (.int (tn : Nat)), some (.int first), some (.int few), some (.int usual), some (.int at_), some (.lst (bs.map S.str)), some (ptS p), some (.adr nl), some (.adr gl), x, y, none, none, none, none, none] ∧
    Ω' nl = some (.lst (ns.map S.str)) ∧ Ω' gl = some (.lst []) ∧ ns.length = i ∧ (∀ x ∈ ns, NmOk x) ∧ Box b (n + 11) Ω' ∧ Agr (fun y => y = b) Ω Ω') (fun _ _ _ _ _ => trivial) ?_ ?_ ?_
  · refine ⟨_, _, [], rfl, by walk_at "c", put_same, rfl, (by intro x hx; cases hx), (B9'.put nb1).put nb2, ag9⟩
  · rintro i s Γ' Ω' hi ⟨x, y, ns, rfl, e1, e2, hl, hok, Bi, ag⟩
    obtain ⟨hil, rfl⟩ := ups_out hi
    walk_at "os"
    have j0 : 0 ≤ (first + 7 * (0 + (i : Nat))) % 40 := Int.emod_nonneg _ (by decide)
    have j1 : (first + 7 * (0 + (i : Nat))) % 40 < 40 := Int.emod_lt_of_pos _ (by decide)
    generalize (first + 7 * (0 + ((i : Nat) : Int))) % 40 = j at j0 j1 ⊢
    obtain ⟨c, hc, okc⟩ := chr_at (x := "bcdfghjklm") (i := j % 10) (by decide +kernel) (by omega) (by
      have : ((("bcdfghjklm" : Str).length : Nat) : Int) = 10 := by decide +kernel
      omega)
    refine g_ixUS (by decide +kernel) hc ?_
    have l1 : (⟨#[c]⟩ : Str).length = 1 := rfl
    refine g_addS (Nat.le_trans (by rw [l1]; omega) (small_le (n := 100) (by omega))) ?_
    walk_at "os"
    obtain ⟨c2, hc2, okc2⟩ := chr_at (x := "vxzq") (i := j / 10) (by decide +kernel) (by omega) (by
      have : ((("vxzq" : Str).length : Nat) : Int) = 4 := by decide +kernel
      omega)
    refine g_ixUS (by decide +kernel) hc2 ?_
    have l2 : (⟨#[c2]⟩ : Str).length = 1 := rfl
    refine g_addS (Nat.le_trans (by rw [str_len, l1, l2]; omega) (small_le (n := 100) (by omega))) ?_
    walk_at "os"
    refine g_mulS ⟨by omega, by omega, by decide +kernel⟩ ?_
    obtain ⟨z, hz, okz, lz⟩ : ∃ z : Str, (⟨(List.replicate (j % 2).toNat ("z" : Str).cps.toList).flatten.toArray⟩ : Str) = z ∧ PyData.strOk z = true ∧ z.length ≤ 1 := by
      have h2 : j % 2 = 0 ∨ j % 2 = 1 := by omega
      rcases h2 with h2 | h2
      · rw [h2]; exact ⟨_, rfl, by decide +kernel, by decide +kernel⟩
      · rw [h2]; exact ⟨_, rfl, by decide +kernel, by decide +kernel⟩
    rw [hz]
    refine g_addS (Nat.le_trans (by rw [str_len, str_len, l1, l2]; omega) (small_le (n := 100) (by omega))) ?_
    refine g_app2 e1 (Nat.lt_trans (by rw [List.length_map]; omega) small_lt) ?_
    refine ⟨_, _, ns ++ [stem ++ ⟨#[c]⟩ ++ ⟨#[c2]⟩ ++ z], rfl, by rw [List.map_append]; exact put_same, by walk_at "c", by rw [List.length_append, hl]; rfl, fun w hw => ?_, Bi.put nb1, Agr.putN ag hnl0⟩
    rcases List.mem_append.mp hw with hw | hw
    · exact hok w hw
    · rw [List.mem_singleton.mp hw]
      exact ⟨nm_app (nm_app (nm_app stok.ok okc) okc2) okz, by rw [str_len, str_len, str_len, l1, l2]; omega⟩
  rintro Γ' Ω' ⟨x, y, ns, rfl, e1, e2, hl, hok, Bi, ag⟩
  rw [ups_len] at hl
  have hl : ns.length = tn := by rw [hl]; omega
  walk_at "os"
  refine g_forP (fun i Γ2 Ω2 => ∃ x1 x2 x3 x4 x5 x6 x7, ∃ gs : List Gm, Γ2 = [some (.adr b), some (.int (many : Nat)), some (.str stem), some (.int (tn : Nat)), some (.int first), some (.int few), some (.int usual), some (.int at_), some (.lst (bs.map S.str)), some (ptS p), some (.adr nl), some (.adr gl), x1, x2, x3, x4, x5, x6, x7] ∧
    Ω2 nl = some (.lst (ns.map S.str)) ∧ Ω2 gl = some (.lst (gs.map gS)) ∧ gs.length = i ∧ (∀ g ∈ gs, GmOk g) ∧ Box b (n + 11 + 6 * i) Ω2 ∧ Agr (fun y => y = b) Ω Ω2) (fun _ _ _ _ _ => trivial) ?_ ?_ ?_
  · exact ⟨_, _, _, _, _, _, _, [], rfl, e1, e2, rfl, (by intro x hx; cases hx), Bi.mono (by omega), ag⟩
  · rintro i s Γ2 Ω2 hi ⟨x1, x2, x3, x4, x5, x6, x7, gs, rfl, e1, e2, hgl', hok', Bi, ag⟩
    obtain ⟨hil, rfl⟩ := ups_out hi
    have hil : i < many := by omega
    walk_at "os"
    refine g_take Bi (by omega) (by omega) (by omega) fun one Ω3 o1 o2 B3 D3 => ?_
    walk_at "os"
    refine g_take B3 (by omega) (by omega) (by omega) fun step Ω4 o3 o4 B4 D4 => ?_
    walk_at "os"
    refine g_data ?_
    walk_at "os"
    refine g_pickUI [10000, 4] (fun x => 4 ≤ x ∧ x ≤ 10000) rfl a7 (by simpa using a8) (by decide) fun sz ⟨z1, z2⟩ => ?_
    have e13 := chg_at D4 nb1 (chg_at D3 nb1 e1)
    obtain ⟨nm1, hn1⟩ := at_some (xs := ns) (j := one.toNat) (by omega)
    have hn1' : atI (ns.map S.str) one = some (.str nm1) := atI_map S.str (atI_i o1 hn1)
    walk_at "os"
    refine g_take B4 (by omega) (by omega) (by omega) fun r Ω5 r1' r2' B5 D5 => ?_
    walk_at "os"
    refine g_take B5 (by omega) (by omega) (by omega) fun m1 Ω6 m1' m2' B6 D6 => ?_
    have e14 := chg_at D6 nb1 (chg_at D5 nb1 e13)
    have g14 := chg_at D6 nb2 (chg_at D5 nb2 (chg_at D4 nb2 (chg_at D3 nb2 e2)))
    walk_at "os"
    have w1 : 0 ≤ (one + (1 + step)) % (tn : Int) := Int.emod_nonneg _ (by omega)
    have w2 : (one + (1 + step)) % (tn : Int) < tn := Int.emod_lt_of_pos _ (by omega)
    obtain ⟨nm2, hn2⟩ := at_some (xs := ns) (j := ((one + (1 + step)) % (tn : Int)).toNat) (by omega)
    have hn2' : atI (ns.map S.str) ((one + (1 + step)) % (tn : Int)) = some (.str nm2) := atI_map S.str (atI_i w1 hn2)
    walk_at "os"
    refine g_take B6 (by omega) (by omega) (by omega) fun s1 Ω7 s1' s2' B7 D7 => ?_
    walk_at "os"
    refine g_take B7 (by omega) (by omega) (by omega) fun m2 Ω8 m3' m4' B8 D8 => ?_
    have e15 := chg_at D8 nb1 (chg_at D7 nb1 e14)
    have g15 := chg_at D8 nb2 (chg_at D7 nb2 g14)
    walk_at "os"
    refine g_addT (small_le (by simp)) ?_
    refine g_app2 g15 (Nat.lt_trans (by rw [List.length_map]; omega) small_lt) ?_
    have ag8 : Agr (fun y => y = b) Ω Ω8 := box_agr (L := []) (box_agr (L := []) (box_agr (L := []) (box_agr (L := []) (box_agr (L := []) (box_agr (L := []) ag D3) D4) D5) D6) D7) D8
    refine ⟨_, _, _, _, _, _, _, gs ++ [⟨nm1, r, 1 + m1, nm2, s1, 1 + m2⟩], rfl, by walk_at "c", by rw [List.map_append]; exact put_same, by rw [List.length_append, hgl']; rfl, fun g hg => ?_, (B8.put nb2).mono (by omega), Agr.putN ag8 hgl0⟩
    rcases List.mem_append.mp hg with hg | hg
    · exact hok' g hg
    · rw [List.mem_singleton.mp hg]
      exact ⟨⟨r1', by simp only; omega⟩, ⟨by simp only; omega, by simp only; omega⟩, ⟨s1', by simp only; omega⟩, ⟨by simp only; omega, by simp only; omega⟩, hok nm1 (List.mem_of_getElem? hn1), hok nm2 (List.mem_of_getElem? hn2)⟩
  · rintro Γ2 Ω2 ⟨x1, x2, x3, x4, x5, x6, x7, gs, rfl, e1, e2, hgl', hok', Bi, ag⟩
    rw [ups_len] at hgl' Bi
    refine g_view (VwE.freeze (i := 11) rfl e2) ?_
    walk_at "os"
    refine g_data ?_
    refine ⟨_, _, .refl, k p bs gs _ (by omega) bok hok' ((Bi.at_ (drp_ne nb2)).mono (by omega)) (Agr.drpN ag hgl0)⟩
end Om
namespace Om
open PySem L2
open PyProof.Rows (b2i)
abbrev rowS (c : Rec) : List S := [.int c.w, .int c.t, .int c.l, .int c.p, .int c.r, .int c.n, .int c.s, .int c.m]
inductive Kr (Ω : Om) (o : Own) : List (Key × S) → List (Str × Rec) → Prop
  | nil : Kr Ω o [] []
  | cons {x : Str} {c : Rec} {a : Addr} {kvs : List (Key × S)} {T : List (Str × Rec)} (h : Ω a = some (.lst (rowS c))) (w : o a = some x) (r : Kr Ω o kvs T) : Kr Ω o ((.inr x, .adr a) :: kvs) ((x, c) :: T)
theorem Kr.length {Ω : Om} {o : Own} {kvs : List (Key × S)} {T : List (Str × Rec)} (h : Kr Ω o kvs T) : kvs.length = T.length := by
  induction h with
  | nil => rfl
  | cons _ _ _ ih => simp [ih]
theorem Kr.look {Ω : Om} {o : Own} {kvs : List (Key × S)} {T : List (Str × Rec)} {x : Str} {c : Rec} (h : Kr Ω o kvs T) (e : vOf T x = some c) : ∃ a, vOf kvs (.inr x) = some (.adr a) ∧ Ω a = some (.lst (rowS c)) ∧ o a = some x := by
  induction h with
  | nil => cases e
  | @cons x' c' a kvs T h w r ih =>
    by_cases ex : x' = x
    · subst ex
      rw [vOf_pos (p := (x', c')) rfl] at e
      cases e
      exact ⟨a, vOf_pos rfl, h, w⟩
    · rw [vOf_neg (p := (x', c')) ex] at e
      obtain ⟨a, e1, e2, e3⟩ := ih e
      exact ⟨a, by rw [vOf_neg (inr_ne ex)]; exact e1, e2, e3⟩
theorem Kr.lookN {Ω : Om} {o : Own} {kvs : List (Key × S)} {T : List (Str × Rec)} {x : Str} (h : Kr Ω o kvs T) (e : vOf T x = none) : vOf kvs (.inr x) = none := by
  induction h with
  | nil => rfl
  | @cons x' c' a kvs T h w r ih =>
    by_cases ex : x' = x
    · rw [vOf_pos (p := (x', c')) ex] at e; cases e
    · rw [vOf_neg (p := (x', c')) ex] at e
      rw [vOf_neg (inr_ne ex)]
      exact ih e
theorem Kr.keep {Ω Ω' : Om} {o o' : Own} {kvs : List (Key × S)} {T : List (Str × Rec)} {N : Addr → Prop} (h : Kr Ω o kvs T) (g : Agr N Ω Ω') (n : ∀ a x, o a = some x → x ∈ T.map (·.1) → Ω a ≠ none → ¬ N a ∧ o' a = some x) : Kr Ω' o' kvs T := by
  induction h with
  | nil => exact .nil
  | @cons x' c' a kvs T h w r ih =>
    have na := n a x' w List.mem_cons_self (by rw [h]; simp)
    exact .cons (g.at_ na.1 h) na.2 (ih fun a x e m => n a x e (List.mem_cons_of_mem _ m))
theorem Kr.upd {Ω Ω' : Om} {o : Own} {kvs : List (Key × S)} {T : List (Str × Rec)} {x : Str} {c' : Rec} {a : Addr} (h : Kr Ω o kvs T) (nd : (T.map (·.1)).Nodup) (e : vOf kvs (.inr x) = some (.adr a)) (w : o a = some x) (s : Ω' a = some (.lst (rowS c')))
    (g : Agr (fun y => y = a) Ω Ω') : Kr Ω' o kvs (T.map fun kv => if kv.1 = x then (kv.1, c') else kv) := by
  induction h with
  | nil => cases e
  | @cons x' c0 a0 kvs T h0 w0 r ih =>
    rw [List.map_cons, List.nodup_cons] at nd
    by_cases ex : x' = x
    · subst ex
      rw [vOf_pos (p := ((Sum.inr x' : Key), S.adr a0)) rfl] at e
      cases e
      rw [List.map_cons, if_pos rfl, map_off nd.1]
      refine .cons s w (r.keep g fun y z hz hm _ => ⟨fun hy => nd.1 ?_, hz⟩)
      rw [hy, w] at hz
      cases hz
      exact hm
    · rw [vOf_neg (inr_ne ex)] at e
      rw [List.map_cons, if_neg ex]
      exact .cons (g.at_ (fun hy => ex (by rw [hy, w] at w0; cases w0; rfl)) h0) w0 (ih nd.2 e)
theorem Kr.snoc {Ω : Om} {o : Own} {kvs : List (Key × S)} {T : List (Str × Rec)} {x : Str} {c : Rec} {a : Addr} (h : Kr Ω o kvs T) (s : Ω a = some (.lst (rowS c))) (w : o a = some x) : Kr Ω o (kvs ++ [(.inr x, .adr a)]) (T ++ [(x, c)]) := by
  induction h with
  | nil => exact .cons s w .nil
  | cons h0 w0 r ih => exact .cons h0 w0 ih
theorem Kr.fn {Ω : Om} {o : Own} {kvs : List (Key × S)} {T : List (Str × Rec)} (h : Kr Ω o kvs T) (nd : (T.map (·.1)).Nodup) : ∃ A : Str → Addr, kvs = T.map (fun e => (.inr e.1, .adr (A e.1))) ∧ ∀ e ∈ T, Ω (A e.1) = some (.lst (rowS e.2)) := by
  induction h with
  | nil => exact ⟨fun _ => 0, rfl, fun _ h => by cases h⟩
  | @cons x c a kvs T h0 w0 r ih =>
    rw [List.map_cons, List.nodup_cons] at nd
    obtain ⟨A, e1, e2⟩ := ih nd.2
    have off : ∀ e ∈ T, e.1 ≠ x := fun e he q => nd.1 (by
      rw [List.mem_map]
      exact ⟨e, he, q⟩)
    refine ⟨fun y => if y = x then a else A y, ?_, fun e he => ?_⟩
    · show (((.inr x : Key), S.adr a) :: kvs) = ((.inr x : Key), S.adr (if x = x then a else A x)) :: T.map (fun e => ((.inr e.1 : Key), S.adr (if e.1 = x then a else A e.1)))
      rw [if_pos rfl, e1]
      congr 1
      refine List.map_congr_left fun e he => ?_
      rw [if_neg (off e he)]
    · rcases List.mem_cons.mp he with rfl | he
      · show Ω (if x = x then a else A x) = some (.lst (rowS c))
        rw [if_pos rfl]
        exact h0
      · show Ω (if e.1 = x then a else A e.1) = some (.lst (rowS e.2))
        rw [if_neg (off e he)]
        exact e2 e he
structure TbR (Ω : Om) (o : Own) (d : Addr) (T : List (Str × Rec)) : Prop where
  dict : ∃ kvs, Ω d = some (.dK kvs) ∧ Kr Ω o kvs T
  od : o d = none
  live : ∀ x n, o x = some n → Ω x ≠ none
  nd : (T.map (·.1)).Nodup
def W_sums : WF := fun ss Ω P => ∃ (p : Pts) (gs : List Gm), ss = [ptS p, .lst (gs.map gS)] ∧ gs.length ≤ 2000 ∧ ∀ Ω' o d, TbR Ω' o d (sums p gs) → Agr0 Ω Ω' → Ω d = none → P (.adr d) Ω'
def sca1 (s : S) : Prop := (∃ x, s = .str x) ∨ ∃ i, s = .int i
def W_alike0 : WF := fun ss Ω P => ∃ s, ss = [s, s] ∧ sca1 s ∧ P (.bl true) Ω
def W_alike1 : WF := fun ss Ω P => ∃ xs : List S, ss = [.tup xs, .tup xs] ∧ xs.length ≤ 100 ∧ (∀ s ∈ xs, sca1 s) ∧ P (.bl true) Ω
/-- a record whose row may be checked -/
def Rec.Sm (c : Rec) : Prop := 0 < c.n ∧ c.n < 1000000000 ∧ 0 < c.m ∧ c.m < 1000000000 ∧ 0 ≤ c.r ∧ c.r < 1000000000 ∧ 0 ≤ c.s ∧ c.s < 1000000000
def W_rate_right : WF := fun ss Ω P => ∃ (c : Rec) (a : Addr), ss = [rateS c, .adr a] ∧ Ω a = some (.lst (rowS c)) ∧ c.Sm ∧ P (.bl true) Ω
/-- the place of a name -/
def plcS (T : List (Str × Rec)) (x : Str) : Int := ((T.map (·.1)).idxOf x : Nat)
def lawAhead (bs : List Str) (q : Str → Int) (x y : E2) : Bool := (dec bs x y).getD (decide (q x.1 < q y.1))
def W_ahead : WF := fun ss Ω P => ∃ (x y : E2) (a b : Addr) (kvs : List (Key × S)) (bs : List Str) (pl : S) (pk : List (Key × S)) (q : Str → Int), ss = [toldS x, toldS y, .dic kvs, .lst (bs.map S.str), pl] ∧
  vOf kvs (.inr x.1) = some (.adr a) ∧ vOf kvs (.inr y.1) = some (.adr b) ∧ Ω a = some (.lst (rowS x.2)) ∧ Ω b = some (.lst (rowS y.2)) ∧ x.2.Big ∧ y.2.Big ∧ asD Ω pl = some pk ∧ vOf pk (.inr x.1) = some (.int (q x.1)) ∧ vOf pk (.inr y.1) = some (.int (q y.1)) ∧ P (.bl (lawAhead bs q x y)) Ω
theorem g_is {s : S} {c : Bool} {Ω : Om} {P : WP} (h : isN s = some c) (p : P (.bl c) Ω) : oIs s .non Ω P := ⟨rfl, c, h, p⟩
def rBody : WS := wSeq (wSet (wSetd (wVar 2) (wVar 9) (wLst (wCons (wC (.int 0)) (wCons (wC (.int 0)) (wCons (wC (.int 0)) (wCons (wC (.int 0)) (wCons (wC (.int 0)) (wCons (wC (.int 0)) (wCons (wC (.int 0)) (wCons (wC (.int 0)) wNil)))))))))) 11)
  (wSeq (wCutS (wSet (wOp oAdd (wCB oInt (wCons (wOp oLe (wOp oIxU (wVar 10) (wC (.int 0))) (wOp oIxU (wVar 10) (wC (.int 2)))) wNil)) (wCB oInt (wCons (wOp oLt (wOp oIxU (wVar 10) (wC (.int 0))) (wOp oIxU (wVar 10) (wC (.int 2)))) wNil))) 12))
  (wSeq (wAugS (fun i j => i + j) (wVar 11) (wVar 12) (wC (.int 1)))
  (wSeq (wAugS (fun i j => i + j) (wVar 11) (wC (.int 3)) (wOp oIxU (wVar 0) (wVar 12)))
  (wFor (wiRng1 (wCons (wC (.int 4)) wNil)) (wgName 13) (wAugS (fun i j => i + j) (wVar 11) (wOp oAdd (wC (.int 4)) (wVar 13)) (wOp oIxU (wVar 10) (wVar 13)))))))
theorem plc_v {r s : Int} : PyProof.Rows.b2i (decide (r ≤ s)) + PyProof.Rows.b2i (decide (r < s)) = (plc r s : Nat) := by
  unfold plc
  by_cases h : s < r
  · rw [if_pos h, decide_eq_false (by omega), decide_eq_false (by omega)]; rfl
  · by_cases h2 : r = s
    · rw [if_neg h, if_pos h2, decide_eq_true (by omega), decide_eq_false (by omega)]; rfl
    · rw [if_neg h, if_neg h2, decide_eq_true (by omega), decide_eq_true (by omega)]; rfl
/-- the row's own part of a turn: behind the place -/
theorem g_rtail {p : Pts} {a d : Addr} {G x9 : Option S} {y3 y4 y5 y6 y7 y8 x13 : Option S} {c : Rec} {r n s m : Int} {O : OEnds} {Ω : Om} (ha : Ω a = some (.lst (rowS c)))
    (k : ∀ Ω' x, Ω' a = some (.lst (rowS (upR p c r n s m))) → Agr (fun y => y = a) Ω Ω' → O.nx [some (ptS p), G, some (.adr d), y3, y4, y5, y6, y7, y8, x9, some (.tup [.int r, .int n, .int s, .int m]), some (.adr a), some (.int (plc r s : Nat)), x] Ω') :
    wSeq (wAugS (fun i j => i + j) (wVar 11) (wVar 12) (wC (.int 1))) (wSeq (wAugS (fun i j => i + j) (wVar 11) (wC (.int 3)) (wOp oIxU (wVar 0) (wVar 12)))
      (wFor (wiRng1 (wCons (wC (.int 4)) wNil)) (wgName 13) (wAugS (fun i j => i + j) (wVar 11) (wOp oAdd (wC (.int 4)) (wVar 13)) (wOp oIxU (wVar 10) (wVar 13))))) O
      [some (ptS p), G, some (.adr d), y3, y4, y5, y6, y7, y8, x9, some (.tup [.int r, .int n, .int s, .int m]), some (.adr a), some (.int (plc r s : Nat)), x13] Ω := by
  have hp : plc r s = 0 ∨ plc r s = 1 ∨ plc r s = 2 := by
    unfold plc
    split
    · exact .inl rfl
    · split
      · exact .inr (.inl rfl)
      · exact .inr (.inr rfl)
  have fin : ∀ (q : Nat) (w t l v : Int) (Ω1 : Om), plc r s = q → (upR p c r n s m).w = w → (upR p c r n s m).t = t → (upR p c r n s m).l = l → (upR p c r n s m).p = v → Ω1 a = some (.lst [.int w, .int t, .int l, .int v, .int c.r, .int c.n, .int c.s, .int c.m]) → Agr (fun y => y = a) Ω Ω1 →
      forAt (wgName 13) (wAugS (fun i j => i + j) (wVar 11) (wOp oAdd (wC (.int 4)) (wVar 13)) (wOp oIxU (wVar 10) (wVar 13))) O
      [some (ptS p), G, some (.adr d), y3, y4, y5, y6, y7, y8, x9, some (.tup [.int r, .int n, .int s, .int m]), some (.adr a), some (.int (q : Nat)), x13] (ups 0 (Int.toNat 4)) (fun _ => True) Ω1 := by
    intro q w t l v Ω1 hq hw ht hl hv h1 ag
    refine g_forP (fun i Γ' Ω' => ∃ x, Γ' = [some (ptS p), G, some (.adr d), y3, y4, y5, y6, y7, y8, x9, some (.tup [.int r, .int n, .int s, .int m]), some (.adr a), some (.int (q : Nat)), x] ∧
      Ω' a = some (.lst [.int w, .int t, .int l, .int v, .int (if 0 < i then c.r + r else c.r), .int (if 1 < i then c.n + n else c.n), .int (if 2 < i then c.s + s else c.s), .int (if 3 < i then c.m + m else c.m)]) ∧ Agr (fun y => y = a) Ω Ω') (fun _ _ _ _ _ => trivial) ⟨_, rfl, h1, ag⟩ ?_ ?_
    · rintro i sv Γ2 Ω2 hi ⟨x, rfl, e1, ag⟩
      obtain ⟨hl', rfl⟩ := ups_out hi
      have hi2 : i = 0 ∨ i = 1 ∨ i = 2 ∨ i = 3 := by
        have : i < 4 := hl'
        omega
      rcases hi2 with rfl | rfl | rfl | rfl <;> (walk_at "os"; exact ⟨put_same, Agr.mut ag rfl⟩)
    · rintro Γ2 Ω2 ⟨x, rfl, e1, ag⟩
      rw [← hq]
      refine k _ _ ?_ ag
      rw [e1, ← hw, ← ht, ← hl, ← hv]
      rfl
  rcases hp with h | h | h <;> rw [h] <;> walk_at "os"
  · refine fin 0 (c.w + 1) c.t c.l (c.p + p.1) _ h ?_ ?_ ?_ ?_ put_same (Agr.mut (Agr.mut .refl rfl) rfl) <;> (unfold upR; rw [h]; rfl)
  · refine fin 1 c.w (c.t + 1) c.l (c.p + p.2.1) _ h ?_ ?_ ?_ ?_ put_same (Agr.mut (Agr.mut .refl rfl) rfl) <;> (unfold upR; rw [h]; rfl)
  · refine fin 2 c.w c.t (c.l + 1) (c.p + p.2.2) _ h ?_ ?_ ?_ ?_ put_same (Agr.mut (Agr.mut .refl rfl) rfl) <;> (unfold upR; rw [h]; rfl)
theorem g_rstep {p : Pts} {d : Addr} {G : Option S} {y3 y4 y5 y6 y7 y8 x11 x12 x13 : Option S} {T : List (Str × Rec)} {o : Own} {x : Str} {r n s m : Int} {O : OEnds} {Ω : Om} (h : TbR Ω o d T) (hl : T.length < 100000)
    (k : ∀ Ω' o' x11 x12 x13, TbR Ω' o' d (addT p T x r n s m) → Agr (fun y => y = d ∨ o y ≠ none) Ω Ω' → (∀ y, o' y ≠ none → o y ≠ none ∨ Ω y = none) → O.nx [some (ptS p), G, some (.adr d), y3, y4, y5, y6, y7, y8, some (.str x), some (.tup [.int r, .int n, .int s, .int m]), x11, x12, x13] Ω') :
    rBody O [some (ptS p), G, some (.adr d), y3, y4, y5, y6, y7, y8, some (.str x), some (.tup [.int r, .int n, .int s, .int m]), x11, x12, x13] Ω := by
  obtain ⟨⟨kvs, hd, kv⟩, od, live, nd⟩ := h
  unfold rBody
  have kl := kv.length
  walk_at "os"
  refine g_cell fun a ha => ?_
  have nda : d ≠ a := ne_put hd ha
  have hd1 : (put Ω a (.lst (rowS zR))) d = some (.dK kvs) := by rw [put_ne nda]; exact hd
  refine g_setdS hd1 (Nat.lt_trans (by omega) small_lt) (fun v hv => ?_) (fun hn => ?_)
  · cases hT : vOf T x with
    | none => rw [kv.lookN hT] at hv; cases hv
    | some c =>
      obtain ⟨b, q1, q2, q3⟩ := kv.look hT
      rw [q1] at hv
      cases hv
      have nba : b ≠ a := ne_put q2 ha
      walk_at "os"
      refine g_cutS (fun Γ' Ω'' => Ω'' = put Ω a (.lst (rowS zR)) ∧ Γ' = [some (ptS p), G, some (.adr d), y3, y4, y5, y6, y7, y8, some (.str x), some (.tup [.int r, .int n, .int s, .int m]), some (.adr b), some (.int (plc r s : Nat)), x13]) ?_ ?_
      · walk_at "os"
        exact ⟨rfl, by rw [plc_v]⟩
      rintro _ _ ⟨rfl, rfl⟩
      refine g_rtail (c := c) (n := n) (m := m) (by walk_at "c") fun Ω2 xx e2 ag2 => ?_
      have ag1 : Agr (fun y => y = b) Ω Ω2 := fun y hy hne => by
        have e : (put Ω a (.lst (rowS zR))) y = Ω y := put_ne fun q => hne (by rw [q]; exact ha)
        rw [ag2 y hy (by rw [e]; exact hne), e]
      refine k Ω2 o _ _ _ ⟨⟨kvs, ?_, ?_⟩, od, fun y z hz => ?_, ?_⟩ (fun y hy hne => ?_) (fun y hy => .inl hy)
      · exact ag1.at_ (fun e => by rw [e, q3] at od; cases od) hd
      · unfold addT
        rw [hT, pOf_old hT]
        exact kv.upd nd q1 q3 e2 ag1
      · by_cases hy : y = b
        · rw [hy, e2]; simp
        · rw [ag1 y hy (live y z hz)]
          exact live y z hz
      · unfold addT
        exact pOf_nd nd
      · exact ag1 y (fun e => hy (.inr (by rw [e, q3]; simp))) hne
  · have hT : vOf T x = none := by
      cases hT : vOf T x with
      | none => rfl
      | some c =>
        obtain ⟨b, q1, _⟩ := kv.look hT
        rw [q1] at hn
        cases hn
    walk_at "os"
    refine g_cutS (fun Γ' Ω'' => Ω'' = put (put Ω a (.lst (rowS zR))) d (.dK (pOf kvs (.inr x) (.adr a))) ∧ Γ' = [some (ptS p), G, some (.adr d), y3, y4, y5, y6, y7, y8, some (.str x), some (.tup [.int r, .int n, .int s, .int m]), some (.adr a), some (.int (plc r s : Nat)), x13]) ?_ ?_
    · walk_at "os"
      exact ⟨rfl, by rw [plc_v]⟩
    rintro _ _ ⟨rfl, rfl⟩
    refine g_rtail (c := zR) (n := n) (m := m) (by rw [put_ne nda.symm]; exact put_same) fun Ω2 xx e2 ag2 => ?_
    have old : ∀ y, Ω y ≠ none → y ≠ d → Ω2 y = Ω y := fun y hy hyd => by
      have hya : y ≠ a := fun q => hy (by rw [q]; exact ha)
      have e : (put (put Ω a (.lst (rowS zR))) d (.dK (pOf kvs (.inr x) (.adr a)))) y = Ω y := by rw [put_ne hyd, put_ne hya]
      have e3 := ag2 y hya (by
        show (put (put Ω a (.lst (rowS zR))) d (.dK (pOf kvs (.inr x) (.adr a)))) y ≠ none
        rw [e]; exact hy)
      exact e3.trans e
    refine k Ω2 (fun y => if y = a then some x else o y) _ _ _ ⟨⟨_, ag2.at_ nda put_same, ?_⟩, ?_, fun y z hz => ?_, ?_⟩ (fun y hy hne => old y hne fun e => hy (.inl e)) (fun y hy => ?_)
    · unfold addT
      rw [hT, pOf_new hT, pOf_new hn]
      have kv2 : Kr Ω2 (fun y => if y = a then some x else o y) kvs T := kv.keep (N := fun y => y = d) (fun y h1 h2 => old y h2 h1) fun y z hz _ hne => ⟨fun e => (by rw [e, od] at hz; cases hz), (by
        show (if y = a then some x else o y) = some z
        rw [if_neg (fun q => hne (by rw [q]; exact ha))]; exact hz)⟩
      exact kv2.snoc e2 (if_pos rfl)
    · show (if d = a then some x else o d) = none
      rw [if_neg nda, od]
    · by_cases q : y = a
      · rw [q, e2]; simp
      · rw [if_neg q] at hz
        have hl1 := live y z hz
        rw [old y hl1 fun e => by rw [e, od] at hz; cases hz]
        exact hl1
    · unfold addT
      exact pOf_nd nd
    · by_cases q : y = a
      · exact .inr (by rw [q]; exact ha)
      · rw [if_neg q] at hy
        exact .inl hy
def v_sums : WS :=
  (wSeq (wSet wDNew 2)
  (wSeq (wFor (wiSeq (wVar 1)) (wgTup 6 (wgCons (wgName 3) (wgCons (wgName 4) (wgCons (wgName 5) (wgCons (wgName 6) (wgCons (wgName 7) (wgCons (wgName 8) wgNil))))))) (wFor (wiSeq (wTup (wCons (wTup (wCons (wVar 3) (wCons (wTup (wCons (wVar 4) (wCons (wVar 5) (wCons (wVar 7) (wCons (wVar 8) wNil))))) wNil))) (wCons (wTup (wCons (wVar 6) (wCons (wTup (wCons (wVar 7) (wCons (wVar 8) (wCons (wVar 4) (wCons (wVar 5) wNil))))) wNil))) wNil)))) (wgTup 2 (wgCons (wgName 9) (wgCons (wgName 10) wgNil))) (wSeq (wSet (wSetd (wVar 2) (wVar 9) (wLst (wCons (wC (.int 0)) (wCons (wC (.int 0)) (wCons (wC (.int 0)) (wCons (wC (.int 0)) (wCons (wC (.int 0)) (wCons (wC (.int 0)) (wCons (wC (.int 0)) (wCons (wC (.int 0)) wNil)))))))))) 11)
  (wSeq (wCutS (wSet (wOp oAdd (wCB oInt (wCons (wOp oLe (wOp oIxU (wVar 10) (wC (.int 0))) (wOp oIxU (wVar 10) (wC (.int 2)))) wNil)) (wCB oInt (wCons (wOp oLt (wOp oIxU (wVar 10) (wC (.int 0))) (wOp oIxU (wVar 10) (wC (.int 2)))) wNil))) 12))
  (wSeq (wAugS (fun i j => i + j) (wVar 11) (wVar 12) (wC (.int 1)))
  (wSeq (wAugS (fun i j => i + j) (wVar 11) (wC (.int 3)) (wOp oIxU (wVar 0) (wVar 12)))
  (wFor (wiRng1 (wCons (wC (.int 4)) wNil)) (wgName 13) (wAugS (fun i j => i + j) (wVar 11) (wOp oAdd (wC (.int 4)) (wVar 13)) (wOp oIxU (wVar 10) (wVar 13))))))))))
  (wRet (wVar 2))))
abbrev N_sums : List Str := ["points", "games", "rows", "one", "r", "n", "other", "s", "m", "name", "some", "row", "place", "k"]
def v_alike0 : WS :=
  (wSeq (wIfS (wTest (wCB oIsi (wCons (wVar 1) (wCons (wTup (wCons (wC (.ty "list")) (wCons (wC (.ty "tuple")) wNil))) wNil)))) (wSeq (wIfS (wOr (wNot (wTest (wCB oIsi (wCons (wVar 0) (wCons (wTup (wCons (wC (.ty "list")) (wCons (wC (.ty "tuple")) wNil))) wNil))))) (wTest (wOp oNe (wCB oIsi (wCons (wVar 0) (wCons (wC (.ty "list")) wNil))) (wCB oIsi (wCons (wVar 1) (wCons (wC (.ty "list")) wNil)))))) (wRet (wC (.bl false))) wNext)
  wNo) wNext)
  (wSeq (wIfS (wOr (wTest (wOp oIs (wVar 1) (wC .non))) (wTest (wCB oIsi (wCons (wVar 1) (wCons (wC (.ty "str")) wNil))))) (wRet (wAndV (wOp oEq (wVar 0) (wVar 1)) (wOp oEq (wCB oIsi (wCons (wVar 0) (wCons (wC (.ty "str")) wNil))) (wCB oIsi (wCons (wVar 1) (wCons (wC (.ty "str")) wNil)))))) wNext)
  (wRet (wAndV (wCB oIsi (wCons (wVar 0) (wCons (wC (.ty "int")) wNil))) (wAndV (wOp oEq (wCB oIsi (wCons (wVar 0) (wCons (wC (.ty "bool")) wNil))) (wCB oIsi (wCons (wVar 1) (wCons (wC (.ty "bool")) wNil)))) (wOp oEq (wVar 0) (wVar 1)))))))
abbrev N_alike0 : List Str := ["found", "due", "one", "other"]
def v_alike1 : WS :=
  (wSeq (wIfS (wTest (wCB oIsi (wCons (wVar 1) (wCons (wTup (wCons (wC (.ty "list")) (wCons (wC (.ty "tuple")) wNil))) wNil)))) (wSeq (wIfS (wOr (wNot (wTest (wCB oIsi (wCons (wVar 0) (wCons (wTup (wCons (wC (.ty "list")) (wCons (wC (.ty "tuple")) wNil))) wNil))))) (wTest (wOp oNe (wCB oIsi (wCons (wVar 0) (wCons (wC (.ty "list")) wNil))) (wCB oIsi (wCons (wVar 1) (wCons (wC (.ty "list")) wNil)))))) (wRet (wC (.bl false))) wNext)
  (wRet (wAndV (wOp oEq (wCB oLenU (wCons (wVar 0) wNil)) (wCB oLenU (wCons (wVar 1) wNil))) (wCB oAll (wCons (wLc (wiZipU (wCons (wVar 0) (wCons (wVar 1) wNil))) (wgTup 2 (wgCons (wgName 2) (wgCons (wgName 3) wgNil))) wYes (wCall W_alike0 (wCons (wVar 2) (wCons (wVar 3) wNil))) [2, 3]) wNil))))) wNext)
  (wSeq (wIfS (wOr (wTest (wOp oIs (wVar 1) (wC .non))) (wTest (wCB oIsi (wCons (wVar 1) (wCons (wC (.ty "str")) wNil))))) (wRet (wAndV (wOp oEq (wVar 0) (wVar 1)) (wOp oEq (wCB oIsi (wCons (wVar 0) (wCons (wC (.ty "str")) wNil))) (wCB oIsi (wCons (wVar 1) (wCons (wC (.ty "str")) wNil)))))) wNext)
  (wRet (wAndV (wCB oIsi (wCons (wVar 0) (wCons (wC (.ty "int")) wNil))) (wAndV (wOp oEq (wCB oIsi (wCons (wVar 0) (wCons (wC (.ty "bool")) wNil))) (wCB oIsi (wCons (wVar 1) (wCons (wC (.ty "bool")) wNil)))) (wOp oEq (wVar 0) (wVar 1)))))))
abbrev N_alike1 : List Str := ["found", "due", "one", "other"]
def v_rate_right : WS :=
  (wSeq (wIfS (wOr (wNot (wTest (wCB oIsi (wCons (wVar 0) (wCons (wC (.ty "tuple")) wNil))))) (wTest (wOp oNe (wCB oLenU (wCons (wVar 0) wNil)) (wC (.int 2))))) (wRet (wC (.bl false))) wNext)
  (wSeq (wAsg (wVar 0) (wgTup 2 (wgCons (wgName 2) (wgCons (wgName 3) wgNil))))
  (wSeq (wIfS (wOr (wNot (wTest (wCB oIsi (wCons (wVar 2) (wCons (wC (.ty "int")) wNil))))) (wOr (wNot (wTest (wCB oIsi (wCons (wVar 3) (wCons (wC (.ty "int")) wNil))))) (wOr (wTest (wCB oIsi (wCons (wVar 2) (wCons (wC (.ty "bool")) wNil)))) (wTest (wCB oIsi (wCons (wVar 3) (wCons (wC (.ty "bool")) wNil))))))) (wRet (wC (.bl false))) wNext)
  (wSeq (wSet (wOp oSubI (wOp oMul (wOp oIxU (wVar 1) (wC (.int 4))) (wOp oIxU (wVar 1) (wC (.int 7)))) (wOp oMul (wOp oIxU (wVar 1) (wC (.int 6))) (wOp oIxU (wVar 1) (wC (.int 5))))) 4)
  (wSeq (wIfS (wOr (wTest (wOp oLt (wVar 3) (wC (.int 1)))) (wTest (wOp oNe (wOp oMul (wOp oMul (wVar 2) (wOp oIxU (wVar 1) (wC (.int 5)))) (wOp oIxU (wVar 1) (wC (.int 7)))) (wOp oMul (wVar 3) (wVar 4))))) (wRet (wC (.bl false))) wNext)
  (wSeq (wPar 5 6 (wCons (wCB oAbs (wCons (wVar 2) wNil)) (wCons (wVar 3) wNil)))
  (wSeq (wWhile (wTest (wOp oGt (wVar 6) (wC (.int 0)))) (wPar 5 6 (wCons (wVar 6) (wCons (wOp oModI (wVar 5) (wVar 6)) wNil))))
  (wRet (wOp oEq (wVar 5) (wC (.int 1)))))))))))
abbrev N_rate_right : List Str := ["found", "row", "one", "other", "due", "least", "rest"]
def v_ahead : WS :=
  (wSeq (wPar 5 6 (wCons (wOp oIxU (wVar 2) (wOp oIxU (wVar 0) (wC (.int 0)))) (wCons (wOp oIxU (wVar 2) (wOp oIxU (wVar 1) (wC (.int 0)))) wNil)))
  (wSeq (wIfS (wTest (wOp oNe (wOp oIxU (wVar 5) (wC (.int 3))) (wOp oIxU (wVar 6) (wC (.int 3))))) (wRet (wOp oGt (wOp oIxU (wVar 5) (wC (.int 3))) (wOp oIxU (wVar 6) (wC (.int 3))))) wNext)
  (wSeq (wFor (wiSeq (wVar 3)) (wgName 7) (wSeq (wPar 8 9 (wCons (wOp oIxU (wVar 5) (wC (.int 0))) (wCons (wOp oIxU (wVar 6) (wC (.int 0))) wNil)))
  (wSeq (wCutS (wIfS (wTest (wOp oEq (wVar 7) (wC (.str ("rate" : Str))))) (wPar 8 9 (wCons (wOp oMul (wOp oIxU (wOp oIxU (wVar 0) (wC (.int 5))) (wC (.int 0))) (wOp oIxU (wOp oIxU (wVar 1) (wC (.int 5))) (wC (.int 1)))) (wCons (wOp oMul (wOp oIxU (wOp oIxU (wVar 1) (wC (.int 5))) (wC (.int 0))) (wOp oIxU (wOp oIxU (wVar 0) (wC (.int 5))) (wC (.int 1)))) wNil))) wNext))
  (wSeq (wCutS (wIfS (wTest (wOp oEq (wVar 7) (wC (.str ("runs" : Str))))) (wPar 8 9 (wCons (wOp oIxU (wVar 5) (wC (.int 4))) (wCons (wOp oIxU (wVar 6) (wC (.int 4))) wNil))) wNext))
  (wSeq (wIfS (wTest (wOp oEq (wVar 7) (wC (.str ("name" : Str))))) (wRet (wOp oLt (wOp oIxU (wVar 0) (wC (.int 0))) (wOp oIxU (wVar 1) (wC (.int 0))))) wNext)
  (wIfS (wTest (wOp oNe (wVar 8) (wVar 9))) (wRet (wOp oGt (wVar 8) (wVar 9))) wNext))))))
  (wRet (wOp oLt (wOp oIxU (wVar 4) (wOp oIxU (wVar 0) (wC (.int 0)))) (wOp oIxU (wVar 4) (wOp oIxU (wVar 1) (wC (.int 0)))))))))
abbrev N_ahead : List Str := ["one", "other", "rows", "breakers", "places", "mine", "yours", "word", "left", "right"]
theorem run_sums (ss : List S) (Ω : Om) (P : WP) (h : W_sums ss Ω P) : v_sums { nx := fun _ Ω' => seen P .non Ω', rt := seen P } (startG N_sums ss) Ω := by
  obtain ⟨p, gs, rfl, hl, k⟩ := h
  show v_sums _ [some (ptS p), some (.lst (gs.map gS)), none, none, none, none, none, none, none, none, none, none, none, none] Ω
  unfold v_sums
  walk_at "os"
  intro d hd
  walk_at "os"
  refine g_forP (fun i Γ' Ω' => ∃ x3 x4 x5 x6 x7 x8 x9 x10 x11 x12 x13 o, Γ' = [some (ptS p), some (.lst (gs.map gS)), some (.adr d), x3, x4, x5, x6, x7, x8, x9, x10, x11, x12, x13] ∧ TbR Ω' o d ((gs.take i).foldl (addG p) []) ∧ Agr0 Ω Ω' ∧ ∀ y, o y ≠ none → Ω y = none) (fun _ _ _ _ _ => seqG_lst) ?_ ?_ ?_
  · exact ⟨_, _, _, _, _, _, _, _, _, _, _, fun _ => none, rfl, ⟨⟨[], put_same, .nil⟩, rfl, fun _ _ h => (by cases h), (by simp)⟩, Agr.new .refl hd, fun y hy => (hy rfl).elim⟩
  · rintro i sv Γ' Ω' hi ⟨x3, x4, x5, x6, x7, x8, x9, x10, x11, x12, x13, o, rfl, tb, ag, fr⟩
    obtain ⟨g, hg, rfl⟩ := map_out hi
    have hil := (List.getElem?_eq_some_iff.mp hg).1
    have tl : ((gs.take i).foldl (addG p) []).length ≤ 4000 := by
      have := sums_len (p := p) (gs.take i) []
      rw [List.length_take] at this
      simp only [List.length_nil] at this
      omega
    rw [take_fold hg]
    generalize (gs.take i).foldl (addG p) [] = T at tb tl ⊢
    walk_at "os"
    refine g_forP (fun j Γ2 Ω2 => ∃ x9 x10 x11 x12 x13 o2, Γ2 = [some (ptS p), some (.lst (gs.map gS)), some (.adr d), some (.str g.one), some (.int g.r), some (.int g.n), some (.str g.other), some (.int g.s), some (.int g.m), x9, x10, x11, x12, x13] ∧
      TbR Ω2 o2 d (if j = 0 then T else if j = 1 then addT p T g.one g.r g.n g.s g.m else addG p T g) ∧ Agr0 Ω Ω2 ∧ ∀ y, o2 y ≠ none → Ω y = none) (fun _ _ _ _ _ => trivial) ⟨_, _, _, _, _, o, rfl, tb, ag, fr⟩ ?_ ?_
    · rintro j sv Γ2 Ω2 hj ⟨x9, x10, x11, x12, x13, o2, rfl, tb2, ag2, fr2⟩
      have hj2 : j = 0 ∨ j = 1 := by
        have := (List.getElem?_eq_some_iff.mp hj).1
        have : j < 2 := this
        omega
      have lift : ∀ (Ω3 : Om) (o3 : Own), Agr (fun y => y = d ∨ o2 y ≠ none) Ω2 Ω3 → (∀ y, o3 y ≠ none → o2 y ≠ none ∨ Ω2 y = none) → Agr0 Ω Ω3 ∧ ∀ y, o3 y ≠ none → Ω y = none := fun Ω3 o3 a3 f3 => ⟨fun y _ hy => by
        have e := ag2 y (fun z => z) hy
        rw [a3 y ?_ (by rw [e]; exact hy), e]
        rintro (q | q)
        · rw [q] at hy; exact hy hd
        · exact hy (fr2 y q), fun y hy => by
        rcases f3 y hy with q | q
        · exact fr2 y q
        · refine no_some fun hn => ?_
          have := ag2 y (fun z => z) hn
          rw [q] at this
          exact hn this.symm⟩
      rcases hj2 with rfl | rfl
      · cases hj
        rw [if_pos rfl] at tb2
        walk_at "o"; walk_at "o"; walk_at "o"; walk_at "o"; walk_at "o"
        refine g_gnil ?_
        refine g_rstep (x := g.one) (r := g.r) (n := g.n) (s := g.s) (m := g.m) tb2 (Nat.lt_of_le_of_lt tl (by decide)) fun Ω3 o3 y11 y12 y13 tb3 a3 f3 => ?_
        obtain ⟨l1, l2⟩ := lift Ω3 o3 a3 f3
        exact ⟨_, _, _, _, _, o3, rfl, tb3, l1, l2⟩
      · cases hj
        rw [if_neg (by decide), if_pos rfl] at tb2
        walk_at "o"; walk_at "o"; walk_at "o"; walk_at "o"; walk_at "o"
        refine g_gnil ?_
        refine g_rstep (x := g.other) (r := g.s) (n := g.m) (s := g.r) (m := g.n) tb2 (Nat.lt_of_le_of_lt (Nat.le_trans addT_len (Nat.succ_le_succ tl)) (by decide)) fun Ω3 o3 y11 y12 y13 tb3 a3 f3 => ?_
        obtain ⟨l1, l2⟩ := lift Ω3 o3 a3 f3
        exact ⟨_, _, _, _, _, o3, rfl, tb3, l1, l2⟩
    · rintro Γ2 Ω2 ⟨x9, x10, x11, x12, x13, o2, rfl, tb2, ag2, fr2⟩
      exact ⟨_, _, _, _, _, _, _, _, _, _, _, o2, rfl, tb2, ag2, fr2⟩
  · rintro Γ' Ω' ⟨x3, x4, x5, x6, x7, x8, x9, x10, x11, x12, x13, o, rfl, tb, ag, fr⟩
    rw [List.length_map, List.take_length] at tb
    walk_at "os"
    exact ⟨_, _, .refl, k _ o d tb ag hd⟩
end Om
namespace Om
open PySem L2
open PyProof.Rows (b2i)
theorem Rec.Sm.big {c : Rec} (h : c.Sm) : c.Big := by
  obtain ⟨c1, c2, c3, c4, c5, c6, c7, c8⟩ := h
  have b1 : 0 < c.n * c.m := Int.mul_pos c1 c3
  have b2 : c.n * c.m ≤ 999999999 * 999999999 := Int.mul_le_mul (by omega) (by omega) (by omega) (by omega)
  have b3 : 0 ≤ c.r * c.m := Int.mul_nonneg c5 (by omega)
  have b4 : c.r * c.m ≤ 999999999 * 999999999 := Int.mul_le_mul (by omega) (by omega) (by omega) (by omega)
  have b5 : 0 ≤ c.s * c.n := Int.mul_nonneg c7 (by omega)
  have b6 : c.s * c.n ≤ 999999999 * 999999999 := Int.mul_le_mul (by omega) (by omega) (by omega) (by omega)
  unfold Rec.Big num den
  omega
theorem num_eq {c : Rec} (h : c.Big) : num c = gcd2 (num c) (den c) * rnA c := (Int.mul_ediv_cancel' gcd2_dvd1).symm
theorem den_eq {c : Rec} (h : c.Big) : den c = gcd2 (num c) (den c) * rdA c := (Int.mul_ediv_cancel' gcd2_dvd2).symm
theorem rate_gcd {c : Rec} (h : c.Big) : gcd2 (rnA c) (rdA c) = 1 := by
  have g := gcd2_pos (i := num c) (j := den c) h.2.1
  have e1 := num_eq h
  have e2 := den_eq h
  have q : gcd2 (num c) (den c) = gcd2 (num c) (den c) * gcd2 (rnA c) (rdA c) := by
    have q2 : gcd2 (gcd2 (num c) (den c) * rnA c) (gcd2 (num c) (den c) * rdA c) = gcd2 (num c) (den c) * gcd2 (rnA c) (rdA c) := by
      unfold gcd2
      rw [Int.natAbs_mul, Int.natAbs_mul, Nat.gcd_mul_left, Int.natAbs_natCast, Int.natCast_mul]
    rw [← e1, ← e2] at q2
    exact q2
  generalize gcd2 (num c) (den c) = a at g q
  have q3 : a * 1 = a * gcd2 (rnA c) (rdA c) := by rw [Int.mul_one]; exact q
  exact (Int.eq_of_mul_eq_mul_left (by omega) q3).symm
theorem rate_eq {c : Rec} (h : c.Big) : rnA c * c.n * c.m = rdA c * (c.r * c.m - c.s * c.n) := by
  have e1 := num_eq h
  have e2 := den_eq h
  have e3 : c.r * c.m - c.s * c.n = num c := rfl
  have e4 : c.n * c.m = den c := rfl
  rw [Int.mul_assoc, e4, e3]
  have h1 : rnA c * den c = rnA c * (gcd2 (num c) (den c) * rdA c) := congrArg _ e2
  have h2 : rdA c * num c = rdA c * (gcd2 (num c) (den c) * rnA c) := congrArg _ e1
  rw [h1, h2, Int.mul_left_comm, Int.mul_comm (rnA c) (rdA c), Int.mul_left_comm (rdA c)]
theorem run_alike0 (ss : List S) (Ω : Om) (P : WP) (h : W_alike0 ss Ω P) : v_alike0 { nx := fun _ Ω' => seen P .non Ω', rt := seen P } (startG N_alike0 ss) Ω := by
  obtain ⟨s, rfl, h, k⟩ := h
  show v_alike0 _ [some s, some s, none, none] Ω
  unfold v_alike0
  rcases h with ⟨x, rfl⟩ | ⟨i, rfl⟩
  · walk_at "os"
    refine g_is rfl ?_
    walk_at "os"
    rw [decide_eq_true rfl]
    walk_at "os"
    exact ⟨_, _, .refl, k⟩
  · walk_at "os"
    refine g_is rfl ?_
    walk_at "os"
    rw [decide_eq_true rfl]
    exact ⟨_, _, .refl, k⟩
theorem run_alike1 (ss : List S) (Ω : Om) (P : WP) (h : W_alike1 ss Ω P) : v_alike1 { nx := fun _ Ω' => seen P .non Ω', rt := seen P } (startG N_alike1 ss) Ω := by
  obtain ⟨xs, rfl, hl, h, k⟩ := h
  show v_alike1 _ [some (.tup xs), some (.tup xs), none, none] Ω
  unfold v_alike1
  walk_at "os"
  rw [decide_eq_true rfl]
  walk_at "os"
  refine g_mapB true trivial (Nat.lt_of_le_of_lt (by rw [zipL_len]; omega) small_lt) (fun i s hi Q hQ => ?_) ?_
  · obtain ⟨u, v, h1, h2, rfl⟩ := zipL_out hi
    rw [h1] at h2
    cases h2
    walk_at "os"
    exact ⟨u, rfl, h u (List.mem_of_getElem? h1), hQ⟩
  refine g_data ?_
  walk_at "os"
  refine g_all rfl ?_
  rw [all_rep]
  exact ⟨_, _, .refl, k⟩
theorem run_rate_right (ss : List S) (Ω : Om) (P : WP) (h : W_rate_right ss Ω P) : v_rate_right { nx := fun _ Ω' => seen P .non Ω', rt := seen P } (startG N_rate_right ss) Ω := by
  obtain ⟨c, a, rfl, ha, sm, k⟩ := h
  have big := sm.big
  have r1 := rdA_pos big
  have r2 := rate_eq big
  have r3 := rate_gcd big
  obtain ⟨c1, c2, c3, c4, c5, c6, c7, c8⟩ := sm
  show v_rate_right _ [some (.tup [.int (rnA c), .int (rdA c)]), some (.adr a), none, none, none, none, none] Ω
  unfold v_rate_right
  generalize rnA c = x at r2 r3 ⊢
  generalize rdA c = y at r1 r2 r3 ⊢
  walk_at "os"
  refine g_ite (fun h => by omega) (fun _ => ?_)
  walk_at "os"
  rw [r2, decide_eq_true rfl]
  walk_at "os"
  refine g_whileP (fun n Γ' Ω' => Ω' = Ω ∧ ∃ u : Nat, Γ' = [some (.tup [.int x, .int y]), some (.adr a), some (.int x), some (.int y), some (.int (c.r * c.m - c.s * c.n)), some (.int (u : Nat)), some (.int (n : Nat))] ∧ Nat.gcd u n = 1) y.natAbs ⟨rfl, x.natAbs, ?_, ?_⟩ ?_
  · rw [Int.natAbs_of_nonneg (Int.le_of_lt r1.1)]
    have : ((x.natAbs : Nat) : Int) = if x < 0 then -x else x := by split <;> omega
    rw [this]
  · unfold gcd2 at r3
    omega
  rintro n Γ' Ω' ⟨rfl, u, rfl, e⟩
  walk_at "os"
  refine g_ite (fun h0 => ?_) (fun h0 => ?_)
  · walk_at "os"
    refine ⟨u % n, Nat.mod_lt _ (by omega), rfl, n, by rw [Int.natCast_emod], ?_⟩
    rw [← e, Nat.gcd_comm u n, Nat.gcd_rec n u, Nat.gcd_comm]
  · walk_at "os"
    have e0 : n = 0 := by omega
    subst e0
    rw [Nat.gcd_zero_right] at e
    rw [e]
    exact ⟨_, _, .refl, k⟩
theorem run_ahead (ss : List S) (Ω : Om) (P : WP) (h : W_ahead ss Ω P) : v_ahead { nx := fun _ Ω' => seen P .non Ω', rt := seen P } (startG N_ahead ss) Ω := by
  obtain ⟨x, y, a, b, kvs, bs, pl, pk, q, rfl, ex, ey, ha, hb, xb, yb, hp, qx, qy, k⟩ := h
  have rx := rdA_pos xb
  have ry := rdA_pos yb
  show v_ahead _ [some (toldS x), some (toldS y), some (.dic kvs), some (.lst (bs.map S.str)), some pl, none, none, none, none, none] Ω
  unfold v_ahead
  walk_at "os"
  refine g_ixDS rfl ex ?_
  walk_at "os"
  refine g_ixDS rfl ey ?_
  walk_at "os"
  refine g_iteN (fun hp => ?_) (fun hp' => ?_)
  · walk_at "os"
    refine ⟨_, _, .refl, ?_⟩
    have e : lawAhead bs q x y = decide (y.2.p < x.2.p) := by
      unfold lawAhead dec
      rw [if_neg hp]
      rfl
    rw [← e]
    exact k
  have ek : lawAhead bs q x y = (decs bs x y).getD (decide (q x.1 < q y.1)) := by
    unfold lawAhead dec
    rw [if_pos hp']
  walk_at "os"
  refine g_forP (fun i Γ' Ω' => ∃ w l r, Γ' = [some (toldS x), some (toldS y), some (.dic kvs), some (.lst (bs.map S.str)), some pl, some (.adr a), some (.adr b), w, l, r] ∧ Ω' = Ω ∧ decs (bs.take i) x y = none) (fun _ _ _ _ _ => seqG_lst) ⟨_, _, _, rfl, rfl, rfl⟩ ?_ ?_
  · rintro i sv Γ' Ω' hi ⟨w, l, r, rfl, rfl, hd⟩
    obtain ⟨v, hv, rfl⟩ := map_out hi
    walk_at "os"
    refine g_cutS (fun Γ' Ω'' => Ω'' = Ω' ∧ Γ' = [some (toldS x), some (toldS y), some (.dic kvs), some (.lst (bs.map S.str)), some pl, some (.adr a), some (.adr b), some (.str v), some (.int (if v = "rate" then rnA x.2 * rdA y.2 else x.2.w)), some (.int (if v = "rate" then rnA y.2 * rdA x.2 else y.2.w))]) ?_ ?_
    · walk_at "os"
      refine g_ite (fun hr => ?_) (fun hr => ?_)
      · walk_at "os"
        refine g_mulI (.inr ?_) ?_
        · have := ry
          unfold rdA at this
          omega
        walk_at "os"
        refine g_mulI (.inr ?_) ?_
        · have := rx
          unfold rdA at this
          omega
        walk_at "os"
        refine ⟨rfl, ?_⟩
        rw [if_pos hr, if_pos hr]
        rfl
      · walk_at "os"
        refine ⟨rfl, ?_⟩
        rw [if_neg hr, if_neg hr]
    rintro _ Ω3 ⟨rfl, rfl⟩
    refine g_cutS (fun Γ' Ω'' => Ω'' = Ω3 ∧ Γ' = [some (toldS x), some (toldS y), some (.dic kvs), some (.lst (bs.map S.str)), some pl, some (.adr a), some (.adr b), some (.str v), some (.int (lfA v x.2 y.2)), some (.int (lfA v y.2 x.2))]) ?_ ?_
    · walk_at "os"
      refine g_ite (fun hr => ?_) (fun hr => ?_)
      · walk_at "os"
        refine ⟨rfl, ?_⟩
        unfold lfA
        rw [if_pos hr, if_pos hr]
      · walk_at "os"
        refine ⟨rfl, ?_⟩
        unfold lfA
        rw [if_neg hr, if_neg hr]
    rintro _ _ ⟨rfl, rfl⟩
    walk_at "os"
    refine g_ite (fun hn => ?_) (fun hn => ?_)
    · walk_at "os"
      refine ⟨_, _, .refl, ?_⟩
      have e := decs_some (b := decide (x.1.cps.toList < y.1.cps.toList)) hd hv (by unfold dec1; rw [if_pos hn])
      rw [ek, e] at k
      exact k
    walk_at "os"
    refine g_iteN (fun hl => ?_) (fun hl => ?_)
    · walk_at "os"
      refine ⟨_, _, .refl, ?_⟩
      have e := decs_some (b := decide (lfA v y.2 x.2 < lfA v x.2 y.2)) hd hv (by unfold dec1; rw [if_neg hn, if_neg hl])
      rw [ek, e] at k
      exact k
    · walk_at "os"
      exact ⟨rfl, decs_next hd hv (by unfold dec1; rw [if_neg hn, if_pos hl])⟩
  · rintro Γ' Ω' ⟨w, l, r, rfl, rfl, hd⟩
    rw [List.length_map, List.take_length] at hd
    walk_at "os"
    refine g_ixDS hp qx ?_
    walk_at "os"
    refine g_ixDS hp qy ?_
    walk_at "os"
    refine ⟨_, _, .refl, ?_⟩
    rw [ek, hd] at k
    exact k
end Om
namespace Om
open PySem L2
open PyProof.Rows (b2i)
theorem vOf_map {κ α β : Type} [DecidableEq κ] (f : α → β) {T : List (κ × α)} {x : κ} : vOf (T.map fun e => (e.1, f e.2)) x = (vOf T x).map f := by
  induction T with
  | nil => rfl
  | cons p r ih =>
    rw [List.map_cons]
    by_cases e : p.1 = x
    · rw [vOf_pos (p := (p.1, f p.2)) e, vOf_pos e]; rfl
    · rw [vOf_neg (p := (p.1, f p.2)) e, vOf_neg e, ih]
theorem pOf_map {κ α β : Type} [DecidableEq κ] (f : α → β) {T : List (κ × α)} {x : κ} {v : α} : (pOf T x v).map (fun e => (e.1, f e.2)) = pOf (T.map fun e => (e.1, f e.2)) x (f v) := by
  cases h : vOf T x with
  | none =>
    rw [pOf_new h, pOf_new (by rw [vOf_map, h]; rfl), List.map_append]
    rfl
  | some u =>
    rw [pOf_old h, pOf_old (u := f u) (by rw [vOf_map, h]; rfl), List.map_map, List.map_map]
    refine List.map_congr_left fun e _ => ?_
    show ((if e.1 = x then (e.1, v) else e).1, f (if e.1 = x then (e.1, v) else e).2) = if e.1 = x then (e.1, f v) else (e.1, f e.2)
    split <;> rfl
theorem pOf_mem {κ α : Type} [DecidableEq κ] {T : List (κ × α)} {x : κ} {v : α} {e : κ × α} (h : e ∈ pOf T x v) : e ∈ T ∨ e = (x, v) := by
  unfold pOf at h
  split at h
  · rw [List.mem_map] at h
    obtain ⟨p, hp, rfl⟩ := h
    split
    · rename_i ep
      rw [ep]
      exact .inr rfl
    · exact .inl hp
  · rw [List.mem_append, List.mem_singleton] at h
    exact h
theorem vOf_in {κ α : Type} [DecidableEq κ] {T : List (κ × α)} {x : κ} {c : α} (h : vOf T x = some c) : (x, c) ∈ T := by
  induction T with
  | nil => cases h
  | cons p r ih =>
    by_cases e : p.1 = x
    · rw [vOf_pos e] at h
      cases h
      rw [← e]
      exact List.mem_cons_self
    · rw [vOf_neg e] at h
      exact List.mem_cons_of_mem _ (ih h)
theorem vOf_at {κ α : Type} [DecidableEq κ] {T : List (κ × α)} (nd : (T.map (·.1)).Nodup) {e : κ × α} (h : e ∈ T) : vOf T e.1 = some e.2 := by
  induction T with
  | nil => cases h
  | cons p r ih =>
    rw [List.map_cons, List.nodup_cons] at nd
    rcases List.mem_cons.mp h with rfl | h
    · exact vOf_pos rfl
    · rw [vOf_neg (fun q => nd.1 (by rw [q]; exact List.mem_map_of_mem h))]
      exact ih nd.2 h
/-! ### how large -/
structure Rec.Bd (c : Rec) (k : Int) : Prop where
  r : 0 ≤ c.r ∧ c.r ≤ 9999 * k
  n : 0 ≤ c.n ∧ c.n ≤ 9999 * k
  s : 0 ≤ c.s ∧ c.s ≤ 9999 * k
  m : 0 ≤ c.m ∧ c.m ≤ 9999 * k
def Rec.Ps (c : Rec) : Prop := 0 < c.n ∧ 0 < c.m
theorem addT_bd {p : Pts} {T : List E2} {x : Str} {r n s m k : Int} (h : ∀ e ∈ T, e.2.Bd k ∧ e.2.Ps) (k0 : 0 ≤ k) (hr : 0 ≤ r ∧ r ≤ 9999) (hn : 1 ≤ n ∧ n ≤ 9999) (hs : 0 ≤ s ∧ s ≤ 9999) (hm : 1 ≤ m ∧ m ≤ 9999) : ∀ e ∈ addT p T x r n s m, e.2.Bd (k + 1) ∧ e.2.Ps := fun e he => by
  have old : ∀ e ∈ T, e.2.Bd (k + 1) := fun e he => by
    obtain ⟨⟨a, b, c, d⟩, _⟩ := h e he
    exact ⟨⟨a.1, by omega⟩, ⟨b.1, by omega⟩, ⟨c.1, by omega⟩, ⟨d.1, by omega⟩⟩
  rcases pOf_mem he with he | rfl
  · exact ⟨old e he, (h e he).2⟩
  · have base : ((vOf T x).getD zR).Bd k := by
      cases q : vOf T x with
      | none => exact ⟨⟨Int.le_refl _, by show (0:Int) ≤ 9999 * k; omega⟩, ⟨Int.le_refl _, by show (0:Int) ≤ 9999 * k; omega⟩, ⟨Int.le_refl _, by show (0:Int) ≤ 9999 * k; omega⟩, ⟨Int.le_refl _, by show (0:Int) ≤ 9999 * k; omega⟩⟩
      | some c => exact (h _ (vOf_in q)).1
    generalize (vOf T x).getD zR = c at base
    obtain ⟨a, b, d, f⟩ := base
    unfold upR
    refine ⟨⟨⟨?_, ?_⟩, ⟨?_, ?_⟩, ⟨?_, ?_⟩, ⟨?_, ?_⟩⟩, ?_, ?_⟩ <;> simp only <;> omega
theorem sums_bd {p : Pts} (gs : List Gm) : ∀ (T : List E2) (k : Int), 0 ≤ k → (∀ g ∈ gs, GmOk g) → (∀ e ∈ T, e.2.Bd k ∧ e.2.Ps) → ∀ e ∈ gs.foldl (addG p) T, e.2.Bd (k + 2 * gs.length) ∧ e.2.Ps := by
  induction gs with
  | nil => intro T k _ _ h e he; simpa using h e he
  | cons g gs ih =>
    intro T k k0 hg h
    have q := hg g List.mem_cons_self
    have h1 := addT_bd (p := p) (x := g.one) h k0 q.r q.n q.s q.m
    have h2 := addT_bd (p := p) (x := g.other) h1 (by omega) q.s q.m q.r q.n
    have h3 := ih (addG p T g) (k + 1 + 1) (by omega) (fun g hg' => hg g (List.mem_cons_of_mem _ hg')) h2
    intro e he
    obtain ⟨⟨a, b, c, d⟩, ps⟩ := h3 e he
    rw [List.length_cons]
    exact ⟨⟨⟨a.1, by omega⟩, ⟨b.1, by omega⟩, ⟨c.1, by omega⟩, ⟨d.1, by omega⟩⟩, ps⟩
theorem sums_sm {p : Pts} {gs : List Gm} (hl : gs.length ≤ 2000) (hg : ∀ g ∈ gs, GmOk g) : ∀ e ∈ sums p gs, e.2.Sm := fun e he => by
  obtain ⟨⟨a, b, c, d⟩, ps⟩ := sums_bd (p := p) gs [] 0 (Int.le_refl _) hg (fun _ h => by cases h) e he
  exact ⟨ps.1, by omega, ps.2, by omega, a.1, by omega, c.1, by omega⟩
/-! ### names -/
theorem addT_nm {p : Pts} {T : List E2} {x : Str} {r n s m : Int} (h : ∀ e ∈ T, NmOk e.1) (hx : NmOk x) : ∀ e ∈ addT p T x r n s m, NmOk e.1 := fun e he => by
  rcases pOf_mem he with he | rfl
  · exact h e he
  · exact hx
theorem sums_nm {p : Pts} (gs : List Gm) : ∀ (T : List E2), (∀ g ∈ gs, GmOk g) → (∀ e ∈ T, NmOk e.1) → ∀ e ∈ gs.foldl (addG p) T, NmOk e.1 := by
  induction gs with
  | nil => intro T _ h; exact h
  | cons g gs ih =>
    intro T hg h
    have q := hg g List.mem_cons_self
    exact ih (addG p T g) (fun g hg' => hg g (List.mem_cons_of_mem _ hg')) (addT_nm (addT_nm h q.one) q.other)
/-! ### what does not hang on the points -/
abbrev Core : Type := Int × Int × Int × Int
def coreR (c : Rec) : Core := (c.r, c.n, c.s, c.m)
def core (T : List E2) : List (Str × Core) := T.map fun e => (e.1, coreR e.2)
def addC (T : List (Str × Core)) (x : Str) (r n s m : Int) : List (Str × Core) := let c := (vOf T x).getD (0, 0, 0, 0); pOf T x (c.1 + r, c.2.1 + n, c.2.2.1 + s, c.2.2.2 + m)
theorem core_addT {p : Pts} {T : List E2} {x : Str} {r n s m : Int} : core (addT p T x r n s m) = addC (core T) x r n s m := by
  unfold core addT addC
  rw [pOf_map]
  simp only [vOf_map]
  cases vOf T x with
  | none => rfl
  | some c => rfl
theorem core_fold {p p' : Pts} (gs : List Gm) : ∀ {T T' : List E2}, core T = core T' → core (gs.foldl (addG p) T) = core (gs.foldl (addG p') T') := by
  induction gs with
  | nil => intro T T' h; exact h
  | cons g gs ih =>
    intro T T' h
    refine ih ?_
    unfold addG
    rw [core_addT, core_addT, core_addT, core_addT, h]
theorem rate_core {c d : Rec} (h : coreR c = coreR d) : rateS c = rateS d := by
  unfold coreR at h
  simp only [Prod.mk.injEq] at h
  obtain ⟨h1, h2, h3, h4⟩ := h
  unfold rateS num den
  rw [h1, h2, h3, h4]
theorem sums_rate {p p' : Pts} {gs : List Gm} {e : E2} (nd : ((sums p gs).map (·.1)).Nodup) (h : e ∈ sums p gs) : ∃ c, vOf (sums p' gs) e.1 = some c ∧ rateS c = rateS e.2 := by
  have hc : core (sums p gs) = core (sums p' gs) := core_fold gs rfl
  have h1 : vOf (core (sums p' gs)) e.1 = some (coreR e.2) := by
    rw [← hc]
    unfold core
    rw [vOf_map, vOf_at nd h]
    rfl
  unfold core at h1
  rw [vOf_map] at h1
  cases q : vOf (sums p' gs) e.1 with
  | none => rw [q] at h1; cases h1
  | some c =>
    rw [q] at h1
    exact ⟨c, rfl, rate_core (Option.some.inj h1)⟩
/-! ### the order -/
theorem str_ne {x y : Str} (h : x ≠ y) : x.cps.toList ≠ y.cps.toList := fun e => h (by
  obtain ⟨a⟩ := x
  obtain ⟨b⟩ := y
  congr 1
  exact Array.toList_inj.mp e)
theorem lt_swap {l m : List Nat} (h : l ≠ m) : decide (m < l) = !decide (l < m) := by
  by_cases h1 : l < m
  · rw [decide_eq_true h1, decide_eq_false (List.lt_asymm h1)]; rfl
  · have : m < l := by
      refine Classical.byContradiction fun h2 => h (List.le_antisymm (List.not_lt.mp h2) (List.not_lt.mp h1))
    rw [decide_eq_true this, decide_eq_false h1]; rfl
theorem dec1_swap {w : Str} {x y : E2} (h : x.1 ≠ y.1) : dec1 w y x = (dec1 w x y).map (!·) := by
  unfold dec1
  by_cases hw : w = "name"
  · rw [if_pos hw, if_pos hw]
    show some _ = some _
    rw [lt_swap (str_ne h)]
  · rw [if_neg hw, if_neg hw]
    by_cases he : lfA w x.2 y.2 = lfA w y.2 x.2
    · rw [if_pos he, if_pos he.symm]; rfl
    · rw [if_neg he, if_neg (fun q => he q.symm)]
      show some _ = some _
      congr 1
      by_cases hl : lfA w y.2 x.2 < lfA w x.2 y.2
      · rw [decide_eq_true hl, decide_eq_false (by omega)]; rfl
      · rw [decide_eq_false hl, decide_eq_true (by omega)]; rfl
theorem decs_swap {x y : E2} (h : x.1 ≠ y.1) : ∀ bs : List Str, decs bs y x = (decs bs x y).map (!·)
  | [] => rfl
  | w :: bs => by
    unfold decs
    rw [dec1_swap h]
    cases dec1 w x y with
    | some b => rfl
    | none => exact decs_swap h bs
theorem dec_swap {bs : List Str} {x y : E2} (h : x.1 ≠ y.1) : dec bs y x = (dec bs x y).map (!·) := by
  unfold dec
  by_cases hp : x.2.p = y.2.p
  · rw [if_pos hp, if_pos hp.symm, decs_swap h]
  · rw [if_neg hp, if_neg (fun q => hp q.symm)]
    show some _ = some _
    congr 1
    by_cases hl : y.2.p < x.2.p
    · rw [decide_eq_true hl, decide_eq_false (by omega)]; rfl
    · rw [decide_eq_false hl, decide_eq_true (by omega)]; rfl
theorem law_of {bs : List Str} {q : Str → Int} {x y : E2} (h : ahead bs x y = true) : lawAhead bs q x y = true := by
  unfold ahead at h
  unfold lawAhead
  cases e : dec bs x y with
  | none => rw [e] at h; cases h
  | some b => rw [e] at h; exact h
theorem law_of2 {bs : List Str} {q : Str → Int} {x y : E2} (h : ahead bs x y = false) (hq : q y.1 < q x.1) (hn : x.1 ≠ y.1) : lawAhead bs q y x = true := by
  unfold ahead at h
  unfold lawAhead
  rw [dec_swap hn]
  cases e : dec bs x y with
  | none => exact decide_eq_true hq
  | some b =>
    rw [e] at h
    have hb : b = false := h
    rw [hb]
    rfl
def Chn (bs : List Str) (q : Str → Int) (L : List E2) : Prop := ∀ i x y, L[i]? = some x → L[i + 1]? = some y → lawAhead bs q x y = true
theorem posF_after {α : Type} {f : α → Bool} {l : List α} : ∀ {m j : Nat} {y : α}, m ≤ l.length → posF f l m ≤ j → j < m → l[j]? = some y → f y = true
  | 0, j, y, _, _, h, _ => by omega
  | m + 1, j, y, hm, h1, h2, hy => by
    obtain ⟨z, hz⟩ := at_some (xs := l) (j := m) (by omega)
    rw [posF_step hz] at h1
    by_cases hf : f z = true
    · rw [if_pos hf] at h1
      by_cases e : j = m
      · subst e
        rw [hz] at hy
        cases hy
        exact hf
      · exact posF_after (by omega) h1 (by omega) hy
    · rw [if_neg hf] at h1
      omega
theorem posF_before {α : Type} {f : α → Bool} {l : List α} : ∀ {m n : Nat}, m ≤ l.length → posF f l m = n + 1 → ∃ y, l[n]? = some y ∧ f y = false
  | 0, n, _, h => by cases h
  | m + 1, n, hm, h => by
    obtain ⟨z, hz⟩ := at_some (xs := l) (j := m) (by omega)
    rw [posF_step hz] at h
    by_cases hf : f z = true
    · rw [if_pos hf] at h
      exact posF_before (by omega) h
    · rw [if_neg hf] at h
      have e : m = n := by omega
      subst e
      exact ⟨z, hz, by simpa using hf⟩
theorem chn_ins {bs : List Str} {q : Str → Int} {L : List E2} {e : E2} (h : Chn bs q L) (hq : ∀ y ∈ L, q y.1 < q e.1 ∧ e.1 ≠ y.1) : Chn bs q (insF (ahead bs) L e) := by
  intro i x y hx hy
  unfold insF at hx hy
  have hle := posF_le (ahead bs e) L L.length
  have hb := fun n => posF_before (f := ahead bs e) (l := L) (m := L.length) (n := n) (Nat.le_refl _)
  have ha := fun j y => posF_after (f := ahead bs e) (l := L) (m := L.length) (j := j) (y := y) (Nat.le_refl _)
  generalize posF (ahead bs e) L L.length = n at *
  have at_ : ∀ k, (L.take n ++ [e] ++ L.drop n)[k]? = if k < n then L[k]? else if k = n then some e else L[k - 1]? := fun k => by
    have ln : (L.take n).length = n := by rw [List.length_take]; omega
    by_cases h1 : k < n
    · rw [if_pos h1, List.append_assoc, List.getElem?_append_left (by omega), List.getElem?_take_of_lt h1]
    · rw [if_neg h1]
      by_cases h2 : k = n
      · rw [if_pos h2, h2, List.append_assoc, List.getElem?_append_right (by omega), ln, Nat.sub_self]
        rfl
      · rw [if_neg h2, List.getElem?_append_right (by rw [List.length_append, ln, List.length_singleton]; omega), List.length_append, ln, List.length_singleton, List.getElem?_drop]
        congr 1
        omega
  rw [at_] at hx hy
  by_cases h1 : i + 1 < n
  · rw [if_pos (by omega)] at hx
    rw [if_pos h1] at hy
    exact h i x y hx hy
  · by_cases h2 : i + 1 = n
    · rw [if_pos (by omega)] at hx
      rw [if_neg h1, if_pos h2] at hy
      cases hy
      obtain ⟨z, hz, hf⟩ := hb i h2.symm
      rw [hz] at hx
      cases hx
      have := hq _ (List.mem_of_getElem? hz)
      exact law_of2 hf this.1 this.2
    · by_cases h3 : i = n
      · rw [if_neg (by omega), if_pos h3] at hx
        rw [if_neg h1, if_neg h2] at hy
        cases hx
        have hy2 : L[i]? = some y := by simpa using hy
        exact law_of (ha i y (by omega) (by have := (List.getElem?_eq_some_iff.mp hy2).1; omega) hy2)
      · rw [if_neg (by omega), if_neg h3] at hx
        rw [if_neg h1, if_neg h2] at hy
        obtain ⟨k, rfl⟩ : ∃ k, i = k + 1 := ⟨i - 1, by omega⟩
        exact h k x y (by simpa using hx) (by simpa using hy)
theorem chn_fold {bs : List Str} {q : Str → Int} : ∀ (l L : List E2), Chn bs q L → (∀ y ∈ L, ∀ e ∈ l, q y.1 < q e.1 ∧ e.1 ≠ y.1) → l.Pairwise (fun y e => q y.1 < q e.1 ∧ e.1 ≠ y.1) → Chn bs q (l.foldl (insF (ahead bs)) L)
  | [], L, h, _, _ => h
  | e :: l, L, h, h1, h2 => by
    rw [List.foldl_cons]
    rw [List.pairwise_cons] at h2
    refine chn_fold l _ (chn_ins h fun y hy => h1 y hy e List.mem_cons_self) (fun y hy z hz => ?_) h2.2
    rcases insF_mem.mp hy with rfl | hy
    · exact h2.1 z hz
    · exact h1 y hy z (List.mem_cons_of_mem _ hz)
theorem insF_perm {α : Type} {lt : α → α → Bool} {L : List α} {x : α} : (insF lt L x).Perm (x :: L) := by
  unfold insF
  have h := List.take_append_drop (posF (lt x) L L.length) L
  rw [List.append_assoc, List.singleton_append]
  refine List.Perm.trans List.perm_middle ?_
  rw [h]
theorem fold_perm {α : Type} {lt : α → α → Bool} : ∀ (l L : List α), (l.foldl (insF lt) L).Perm (l ++ L)
  | [], L => List.Perm.refl _
  | x :: l, L => by
    rw [List.foldl_cons]
    refine (fold_perm l (insF lt L x)).trans ?_
    refine (List.Perm.append_left l insF_perm).trans ?_
    exact List.perm_middle
theorem insAll_perm {α : Type} {lt : α → α → Bool} {l : List α} : (insAll lt l).Perm l := by
  have := fold_perm (lt := lt) l []
  rw [List.append_nil] at this
  exact this
end Om
namespace Om
open PySem L2
open PyProof.Rows (b2i)
theorem cut1 {α : Type} (l : List α) : cutL l (some 1) none = l.drop 1 := by
  unfold cutL
  have h1 : HT.sIx l.length l.length none = l.length := rfl
  rw [h1]
  cases l with
  | nil => rfl
  | cons x r =>
    have h2 : HT.sIx (x :: r).length 0 (some 1) = 1 := by
      unfold HT.sIx
      simp
    rw [h2, List.take_of_length_le]
    simp
theorem eqv_nil {x : S} {r : List S} : PyData.eqv (toD (.lst (x :: r))) (toD (.lst [])) = false := by
  unfold toD toDs
  simp [PyData.eqv]
  try rfl
theorem drp_putc {Ω : Om} {a d : Addr} {c : Cell} (h : a ≠ d) : drp (put Ω a c) d = put (drp Ω d) a c := by
  funext b
  show (if b = d then none else if b = a then some c else Ω b) = if b = a then some c else if b = d then none else Ω b
  by_cases h1 : b = d
  · subst h1
    rw [if_pos rfl, if_neg (fun e => h e.symm), if_pos rfl]
  · rw [if_neg h1]
    by_cases h2 : b = a
    · rw [if_pos h2, if_pos h2]
    · rw [if_neg h2, if_neg h2, if_neg h1]
theorem vOf_snoc {κ α : Type} [DecidableEq κ] {T : List (κ × α)} {x y : κ} {v : α} (h : vOf T x = none) : vOf (T ++ [(x, v)]) y = if y = x then some v else vOf T y := by
  induction T with
  | nil =>
    by_cases e : y = x
    · rw [if_pos e]; exact vOf_pos e.symm
    · rw [if_neg e]; exact vOf_neg (fun q => e q.symm)
  | cons p r ih =>
    have h1 : ¬ p.1 = x := fun e => by rw [vOf_pos e] at h; cases h
    rw [vOf_neg h1] at h
    rw [List.cons_append]
    by_cases e : p.1 = y
    · rw [vOf_pos e, vOf_pos e, if_neg (fun q => h1 (e.trans q))]
    · rw [vOf_neg e, vOf_neg e, ih h]
theorem keys_eq {T : List E2} {A : Str → Addr} : keysL (T.map fun e => ((.inr e.1 : Key), S.adr (A e.1))) = T.map fun e => S.str e.1 := by
  unfold keysL
  rw [List.map_map]
  rfl
theorem adr_at {T : List E2} {A : Str → Addr} {e : E2} (h : e ∈ T) : vOf (T.map fun e => ((.inr e.1 : Key), S.adr (A e.1))) (.inr e.1) = some (.adr (A e.1)) := by
  induction T with
  | nil => cases h
  | cons p r ih =>
    rw [List.map_cons]
    by_cases q : p.1 = e.1
    · rw [vOf_pos (by rw [q]), q]
    · rw [vOf_neg (inr_ne q)]
      rcases List.mem_cons.mp h with rfl | h
      · exact absurd rfl q
      · exact ih h
theorem told_eq {e : E2} (h : NmOk e.1) : EqD 3 (toldS e) := .tup fun s hs => by
  simp only [List.mem_cons, List.not_mem_nil, or_false] at hs
  rcases hs with rfl | rfl | rfl | rfl | rfl | rfl
  · exact .str h.ok
  · exact .int _
  · exact .int _
  · exact .int _
  · exact .int _
  · exact .tup fun s hs => by
      simp only [List.mem_cons, List.not_mem_nil, or_false] at hs
      rcases hs with rfl | rfl <;> exact .int _
theorem gm_eq {g : Gm} (h : GmOk g) : EqD 3 (gS g) := .tup fun s hs => by
  simp only [List.mem_cons, List.not_mem_nil, or_false] at hs
  rcases hs with rfl | rfl | rfl | rfl | rfl | rfl
  · exact .str h.one.ok
  · exact .int _
  · exact .int _
  · exact .str h.other.ok
  · exact .int _
  · exact .int _
def v_law : WS :=
  (wSeq (wSet (wCall W_box (wCons (wVar 0) wNil)) 1)
  (wSeq (wSet (wOp oMul (wOp oIxU (wLst (wCons (wC (.int 40)) (wCons (wC (.int 400)) (wCons (wC (.int 1990)) wNil)))) (wCall W_take (wCons (wVar 1) (wCons (wC (.int 3)) wNil)))) (wCB oInt (wCons (wOp oGt (wCB oLenU (wCons (wVar 0) wNil)) (wC (.int 0))) wNil))) 2)
  (wSeq (wSet (wOp oIxU (wLst (wCons (wVar 2) (wCons (wCall W_take (wCons (wVar 1) (wCons (wOp oAdd (wVar 2) (wC (.int 1))) wNil))) wNil))) (wCall W_take (wCons (wVar 1) (wCons (wC (.int 2)) wNil)))) 3)
  (wSeq (wAsg (wCall W_league (wCons (wVar 1) (wCons (wVar 3) wNil))) (wgLst 3 (wgCons (wgName 4) (wgCons (wgName 5) (wgCons (wgName 6) wgNil)))))
  (wSeq (wAsg (wTup (wCons (wCall W_sums (wCons (wVar 4) (wCons (wVar 6) wNil))) (wCons wDNew wNil))) (wgTup 2 (wgCons (wgName 7) (wgCons (wgName 8) wgNil))))
  (wSeq (wFrzS (wFor (wiKeys (wVar 7)) (wgName 9) (wAsg (wCB oLenU (wCons (wVar 8) wNil)) (wgSubU (wVar 8) (wVar 9)))))
  (wSeq (wSet (wLst (wCons (wCB oList (wCons (wVar 5) wNil)) (wCons (wCB oList (wCons (wVar 6) wNil)) wNil))) 10)
  (wSeq (wSet (wCall W_standing (wCons (wVar 4) (wCons (wOp oIxU (wVar 10) (wC (.int 0))) (wCons (wOp oIxU (wVar 10) (wC (.int 1))) wNil)))) 11)
  (wSeq (wIfS (wOr (wTest (wOp oNe (wVar 10) (wLst (wCons (wVar 5) (wCons (wVar 6) wNil))))) (wOr (wNot (wTest (wCB oIsi (wCons (wVar 11) (wCons (wC (.ty "list")) wNil))))) (wTest (wOp oNe (wCB oLenU (wCons (wVar 11) wNil)) (wCB oLenU (wCons (wVar 7) wNil)))))) (wRet (wC (.bl false))) wNext)
  (wSeq (wFor (wiSeq (wVar 11)) (wgName 12) (wSeq (wIfS (wOr (wNot (wTest (wCB oIsi (wCons (wVar 12) (wCons (wC (.ty "tuple")) wNil))))) (wOr (wTest (wOp oNe (wCB oLenU (wCons (wVar 12) wNil)) (wC (.int 6)))) (wTest (wOp (oInU true) (wOp oIxU (wVar 12) (wC (.int 0))) (wVar 7))))) (wRet (wC (.bl false))) wNext)
  (wSeq (wSet (wOp oIxU (wVar 7) (wOp oIxU (wVar 12) (wC (.int 0)))) 13)
  (wIfS (wOr (wNot (wTest (wCall W_alike1 (wCons (wSl (wVar 12) wNoP (wPart (wC (.int 5)))) (wCons (wTup (wCons (wOp oIxU (wVar 12) (wC (.int 0))) (wCons (wOp oIxU (wVar 13) (wC (.int 3))) (wCons (wOp oIxU (wVar 13) (wC (.int 0))) (wCons (wOp oIxU (wVar 13) (wC (.int 1))) (wCons (wOp oIxU (wVar 13) (wC (.int 2))) wNil)))))) wNil))))) (wNot (wTest (wCall W_rate_right (wCons (wOp oIxU (wVar 12) (wC (.int 5))) (wCons (wVar 13) wNil)))))) (wRet (wC (.bl false))) wNext))))
  (wSeq (wIfS (wTest (wOp oNe (wLenSet (wLc (wiSeq (wVar 11)) (wgName 12) wYes (wOp oIxU (wVar 12) (wC (.int 0))) [12])) (wCB oLenU (wCons (wVar 11) wNil)))) (wRet (wC (.bl false))) wNext)
  (wSeq (wIfS (wNot (wTest (wCB oAll (wCons (wLc (wiZipU (wCons (wVar 11) (wCons (wSl (wVar 11) (wPart (wC (.int 1))) wNoP) wNil))) (wgTup 2 (wgCons (wgName 14) (wgCons (wgName 15) wgNil))) wYes (wCall W_ahead (wCons (wVar 14) (wCons (wVar 15) (wCons (wVar 7) (wCons (wVar 5) (wCons (wVar 8) wNil)))))) [14, 15]) wNil)))) (wRet (wC (.bl false))) wNext)
  (wSeq (wIfS (wTest (wOp oEq (wVar 11) (wLst wNil))) (wRet (wC (.bl true))) wNext)
  (wSeq (wSet (wOp oIxU (wVar 11) (wCall W_take (wCons (wVar 1) (wCons (wCB oLenU (wCons (wVar 11) wNil)) wNil)))) 12)
  (wRet (wAndV (wCall W_alike1 (wCons (wCall W_rate_of (wCons (wOp oIxU (wVar 10) (wC (.int 1))) (wCons (wOp oIxU (wVar 12) (wC (.int 0))) wNil))) (wCons (wOp oIxU (wVar 12) (wC (.int 5))) wNil))) (wOp oEq (wOp oIxU (wVar 10) (wC (.int 1))) (wVar 6))))))))))))))))))
abbrev N_law : List Str := ["script", "box", "most", "many", "points", "breakers", "games", "rows", "places", "name", "handed", "found", "told", "row", "one", "other"]
theorem run_law (ss : List S) (Ω : Om) (P : WP) (h : W_law ss Ω P) : v_law { nx := fun _ Ω' => seen P .non Ω', rt := seen P } (startG N_law ss) Ω := by
  obtain ⟨ns, rfl, hl, k⟩ := h
  show v_law _ [some (.wls (ns.map S.int)), none, none, none, none, none, none, none, none, none, none, none, none, none, none, none] Ω
  unfold v_law
  walk_at "os"
  refine ⟨ns, rfl, by omega, fun b Ω1 hb B1 C1 => ?_⟩
  walk_at "os"
  refine g_data ?_
  walk_at "os"
  refine g_take B1 (by decide) (by decide) (by decide) fun r0 Ω2 a1 a2 B2 C2 => ?_
  refine g_pickUI [40, 400, 1990] (fun x => 0 ≤ x ∧ x ≤ 1990) rfl a1 (by simpa using a2) (by decide) fun m0 ⟨p1, p2⟩ => ?_
  walk_at "os"
  generalize hm : m0 * b2i _ = most
  have hm1 : 0 ≤ most ∧ most ≤ 1990 := by
    rw [← hm]
    unfold b2i
    split <;> omega
  clear hm
  walk_at "os"
  refine g_take B2 (by decide) (by omega) (by omega) fun r1 Ω3 a3 a4 B3 C3 => ?_
  walk_at "os"
  refine g_data ?_
  walk_at "os"
  refine g_take B3 (by decide) (by decide) (by decide) fun r2 Ω4 a5 a6 B4 C4 => ?_
  refine g_pickUI [most, r1] (fun x => 0 ≤ x ∧ x ≤ 1990) rfl a5 (by simpa using a6) (fun x hx => ?_) fun many ⟨p3, p4⟩ => ?_
  · simp only [List.mem_cons, List.not_mem_nil, or_false] at hx
    rcases hx with rfl | rfl <;> omega
  obtain ⟨mn, rfl⟩ : ∃ n : Nat, many = (n : Int) := ⟨many.toNat, by omega⟩
  walk_at "os"
  refine ⟨b, mn, _, rfl, B4, by decide, by decide, by omega, fun p bs gs Ω5 hlen bok gok B5 ag5 => ?_⟩
  walk_at "os"
  refine ⟨p, gs, rfl, by omega, fun Ω6 o d tb ag6 hd => ?_⟩
  obtain ⟨⟨kvs, d1, kr⟩, od, live, nd⟩ := tb
  have sm := sums_sm (p := p) (gs := gs) (by omega) gok
  have nm := sums_nm (p := p) gs [] gok (fun _ h => by cases h)
  have rate0 := fun e (he : e ∈ sums p gs) => sums_rate (p' := (0, 0, 0)) nd he
  have hT0 : gs.foldl (addG p) [] = sums p gs := rfl
  rw [hT0] at nm
  have Tl0 : (sums p gs).length ≤ 4000 := by
    have := sums_len (p := p) gs []
    simp only [List.length_nil] at this
    unfold sums
    omega
  have big : ∀ e ∈ sums p gs, e.2.Big := fun e he => (sm e he).big
  obtain ⟨A, rfl, hA⟩ := kr.fn nd
  generalize hT : sums p gs = T at *
  walk_at "os"
  intro pl hpl
  have npd : pl ≠ d := fun e => by rw [e, d1] at hpl; cases hpl
  walk_at "os"
  refine g_frzS 7 rfl (by walk_at "c") ?_
  rw [drp_putc npd]
  walk_at "os"
  rw [keys_eq]
  refine g_forP (fun i Γ' Ω' => ∃ x9 pk, Γ' = [some (.wls (ns.map S.int)), some (.adr b), some (.int most), some (.int (mn : Nat)), some (ptS p), some (.lst (bs.map S.str)), some (.lst (gs.map gS)), some (.dic (T.map fun e => ((.inr e.1 : Key), S.adr (A e.1)))), some (.adr pl), x9, none, none, none, none, none, none] ∧
    Ω' = put (drp Ω6 d) pl (.dK pk) ∧ pk.length = i ∧ (∀ j e, j < i → T[j]? = some e → vOf pk (.inr e.1) = some (.int (j : Nat))) ∧ ∀ x, x ∉ (T.take i).map (·.1) → vOf pk (.inr x) = none) (fun _ _ _ _ _ => trivial) ?_ ?_ ?_
  · exact ⟨_, [], rfl, rfl, rfl, fun j e h => (by omega), fun _ _ => rfl⟩
  · rintro i sv Γ' Ω' hi ⟨x9, pk, rfl, rfl, hpk, h1, h2⟩
    obtain ⟨e, he, rfl⟩ := map_out hi
    have hil := (List.getElem?_eq_some_iff.mp he).1
    have fresh : vOf pk (.inr e.1) = none := h2 _ fun hm => by
      rw [List.mem_map] at hm
      obtain ⟨e', hm, eq⟩ := hm
      obtain ⟨j, hj⟩ := List.getElem?_of_mem hm
      have hjl : j < i := by
        have := (List.getElem?_eq_some_iff.mp hj).1
        rw [List.length_take] at this
        omega
      rw [List.getElem?_take_of_lt hjl] at hj
      have q1 : (T.map (·.1))[j]? = some e.1 := by rw [List.getElem?_map, hj, ← eq]; rfl
      have q2 : (T.map (·.1))[i]? = some e.1 := by rw [List.getElem?_map, he]; rfl
      obtain ⟨l1, z1⟩ := List.getElem?_eq_some_iff.mp q1
      obtain ⟨l2, z2⟩ := List.getElem?_eq_some_iff.mp q2
      have := (List.getElem_inj nd).mp (z1.trans z2.symm)
      omega
    walk_at "os"
    refine g_putS put_same (Nat.lt_trans (by omega) small_lt) ?_
    rw [put_put, pOf_new fresh]
    refine ⟨_, _, rfl, rfl, by rw [List.length_append, hpk]; rfl, fun j e' hj he' => ?_, fun x hx => ?_⟩
    · rw [vOf_snoc fresh]
      by_cases hji : j = i
      · subst hji
        rw [he] at he'
        cases he'
        rw [if_pos rfl, hpk]
      · rw [if_neg (fun q => ?_)]
        · exact h1 j e' (by omega) he'
        · have q := Sum.inr.inj q
          have q1 : (T.map (·.1))[j]? = some e.1 := by rw [List.getElem?_map, he', ← q]; rfl
          have q2 : (T.map (·.1))[i]? = some e.1 := by rw [List.getElem?_map, he]; rfl
          obtain ⟨l1, z1⟩ := List.getElem?_eq_some_iff.mp q1
          obtain ⟨l2, z2⟩ := List.getElem?_eq_some_iff.mp q2
          exact hji ((List.getElem_inj nd).mp (z1.trans z2.symm))
    · rw [List.take_succ, he, List.map_append, List.mem_append] at hx
      rw [vOf_snoc fresh, if_neg (fun q => hx (.inr (by rw [Sum.inr.inj q]; simp)))]
      exact h2 x fun q => hx (.inl q)
  rintro Γ' Ω' ⟨x9, pk, rfl, rfl, hpk, h1, h2⟩
  rw [List.length_map] at hpk h1
  clear h2
  walk_at "os"
  refine g_data ?_
  walk_at "os"
  refine g_data ?_
  walk_at "os"
  refine g_data ?_
  walk_at "os"
  refine ⟨p, bs, gs, rfl, by omega, by rw [hT]; exact big, fun Ω9 ag9 => ?_⟩
  rw [hT]
  have perm := insAll_perm (lt := ahead bs) (l := T)
  have chn : Chn bs (fun x => match vOf pk (.inr x) with | some (.int j) => j | _ => 0) (insAll (ahead bs) T) := by
    refine chn_fold T [] (fun i x y h => by simp at h) (fun y hy => by cases hy) ?_
    rw [List.pairwise_iff_getElem]
    intro i j hi hj hij
    have e1 := h1 i T[i] hi (List.getElem?_eq_getElem hi)
    have e2 := h1 j T[j] hj (List.getElem?_eq_getElem hj)
    refine ⟨?_, fun e => ?_⟩
    · simp only [e1, e2]
      omega
    · rw [e, e1] at e2
      cases e2
      omega
  generalize hq : (fun x : Str => match vOf pk (.inr x) with | some (.int j) => j | _ => (0 : Int)) = q at chn
  have hqv : ∀ e ∈ T, vOf pk (.inr e.1) = some (.int (q e.1)) := fun e he => by
    obtain ⟨j, hj⟩ := List.getElem?_of_mem he
    have e1 := h1 j e (List.getElem?_eq_some_iff.mp hj).1 hj
    rw [← hq]
    simp [e1]
  generalize insAll (ahead bs) T = L at perm chn
  have Ll : L.length = T.length := perm.length_eq
  have Lm : ∀ e ∈ L, e ∈ T := fun e he => perm.mem_iff.mp he
  have hAk : ∀ e ∈ T, Ω9 (A e.1) = some (.lst (rowS e.2)) := fun e he => by
    have s1 := hA e he
    have z1 : A e.1 ≠ d := fun z => by rw [z, d1] at s1; cases s1
    have z2 : A e.1 ≠ pl := fun z => by rw [z, hpl] at s1; cases s1
    exact ag9.at_ (fun z => z) (by walk_at "c")
  have hP9 : Ω9 pl = some (.dK pk) := ag9.at_ (fun z => z) put_same
  have B9 : Box b 100003 Ω9 := by
    obtain ⟨x, y, z, hb1, rest⟩ := B5
    refine ⟨x, y, z, ag9.at_ (fun z => z) ?_, by simpa using rest⟩
    have s6 := ag6.at_ (fun z => z) hb1
    have z1 : b ≠ d := fun z => by rw [z, d1] at s6; cases s6
    have z2 : b ≠ pl := fun z => by rw [z, hpl] at s6; cases s6
    walk_at "c"
  walk_at "os"
  refine g_data ?_
  have hE : EqD 5 (.lst [.lst (bs.map S.str), .lst (gs.map gS)]) := EqD.lst fun s hs => by
    simp only [List.mem_cons, List.not_mem_nil, or_false] at hs
    rcases hs with rfl | rfl
    · exact .lst (EqD.map fun x hx => .str (bok x hx).ok)
    · exact .lst (EqD.map fun g hg => gm_eq (gok g hg))
  refine g_neD (hE.ok (by decide)) (hE.ok (by decide)) ?_
  rw [hE.eqv]
  walk_at "os"
  rw [List.length_map, List.length_map, Ll, decide_eq_true rfl]
  walk_at "os"
  refine g_forP (fun i Γ' Ω' => ∃ x9 x12 x13, Γ' = [some (.wls (ns.map S.int)), some (.adr b), some (.int most), some (.int (mn : Nat)), some (ptS p), some (.lst (bs.map S.str)), some (.lst (gs.map gS)), some (.dic (T.map fun e => ((.inr e.1 : Key), S.adr (A e.1)))), some (.adr pl), x9, some (.lst [.lst (bs.map S.str), .lst (gs.map gS)]), some (.lst (L.map toldS)), x12, x13, none, none] ∧ Ω' = Ω9) (fun _ _ _ _ _ => seqG_lst) ⟨_, _, _, rfl, rfl⟩ ?_ ?_
  · rintro i sv Γ' Ω' hi ⟨x9, x12, x13, rfl, rfl⟩
    obtain ⟨e, he, rfl⟩ := map_out hi
    have hem := Lm e (List.mem_of_getElem? he)
    have hr := hAk e hem
    have hk := adr_at (A := A) hem
    walk_at "os"
    rw [show hasK (T.map fun e => ((.inr e.1 : Key), S.adr (A e.1))) (.inr e.1) = true from by unfold hasK; rw [hk]; rfl]
    walk_at "os"
    refine g_ixDS rfl hk ?_
    walk_at "os"
    refine ⟨[.str e.1, .int e.2.p, .int e.2.w, .int e.2.t, .int e.2.l], rfl, by simp, fun s hs => ?_, ?_⟩
    · simp only [List.mem_cons, List.not_mem_nil, or_false] at hs
      rcases hs with rfl | rfl | rfl | rfl | rfl
      · exact .inl ⟨_, rfl⟩
      · exact .inr ⟨_, rfl⟩
      · exact .inr ⟨_, rfl⟩
      · exact .inr ⟨_, rfl⟩
      · exact .inr ⟨_, rfl⟩
    walk_at "os"
    refine ⟨e.2, A e.1, rfl, hr, sm e hem, ?_⟩
    walk_at "os"
  rintro Γ' Ω' ⟨x9, x12, x13, rfl, rfl⟩
  walk_at "os"
  refine g_mapL toldS (fun e => .str e.1) seqG_lst (Nat.lt_trans (by omega) small_lt) (fun i e he Q hQ => by walk_at "os"; exact hQ) ?_
  refine g_data ?_
  have nmE : L.map (fun e => S.str e.1) = (L.map (·.1)).map S.str := by rw [List.map_map]; rfl
  refine ⟨L.map (·.1), congrArg some nmE, (perm.map (·.1)).nodup_iff.mpr nd, by rw [List.length_map]; omega, ?_⟩
  walk_at "os"
  rw [List.length_map, List.length_map, decide_eq_true rfl]
  walk_at "os"
  refine g_data ?_
  rw [cut_map, cut1]
  walk_at "os"
  refine g_mapB true ⟨seqG_lst, seqG_lst⟩ (Nat.lt_of_le_of_lt (by rw [zipL_len, List.length_map]; omega) small_lt) (fun i s hi Q hQ => ?_) ?_
  · obtain ⟨u, v, e1, e2, rfl⟩ := zipL_out hi
    obtain ⟨x, hx, rfl⟩ := map_out e1
    obtain ⟨y, hy, rfl⟩ := map_out e2
    rw [List.getElem?_drop, Nat.add_comm] at hy
    have hxm := Lm x (List.mem_of_getElem? hx)
    have hym := Lm y (List.mem_of_getElem? hy)
    walk_at "os"
    refine ⟨x, y, A x.1, A y.1, _, bs, .adr pl, pk, q, rfl, adr_at hxm, adr_at hym, hAk x hxm, hAk y hym, big x hxm, big y hym, asD_adr hP9, hqv x hxm, hqv y hym, ?_⟩
    rw [chn i x y hx hy]
    exact hQ
  refine g_data ?_
  walk_at "os"
  refine g_all rfl ?_
  rw [all_rep]
  walk_at "os"
  refine g_data ?_
  have hF : EqD 4 (.lst (L.map toldS)) := .lst (EqD.map fun e he => told_eq (nm e (Lm e he)))
  have hN : EqD 4 (.lst []) := .lst fun s hs => by cases hs
  refine g_eqD (hF.ok (by decide)) (hN.ok (by decide)) ?_
  cases L with
  | nil =>
    have e0 : PyData.eqv (toD (.lst (([] : List E2).map toldS))) (toD (.lst [])) = true := hN.eqv
    rw [e0]
    walk_at "os"
    exact ⟨_, _, .refl, k _⟩
  | cons e0 L0 =>
    rw [List.map_cons, eqv_nil]
    walk_at "os"
    rw [← List.map_cons, List.length_map]
    refine g_take B9 (by decide) (by rw [List.length_cons]; omega) (by omega) fun j Ω10 j1 j2 B10 C10 => ?_
    obtain ⟨e, he⟩ := at_some (xs := e0 :: L0) (j := j.toNat) (by omega)
    have hem := Lm e (List.mem_of_getElem? he)
    refine g_ixU rfl (atI_map toldS (atI_i j1 he)) ?_
    walk_at "os"
    obtain ⟨c, hc, hce⟩ := rate0 e hem
    have hcm := vOf_in hc
    refine ⟨gs, e.1, c, rfl, by omega, hc, (sums_sm (by omega) gok _ hcm).big, fun Ω11 ag11 => ?_⟩
    rw [hce]
    walk_at "os"
    refine ⟨[.int (rnA e.2), .int (rdA e.2)], rfl, by simp, fun s hs => ?_, ?_⟩
    · simp only [List.mem_cons, List.not_mem_nil, or_false] at hs
      rcases hs with rfl | rfl <;> exact .inr ⟨_, rfl⟩
    walk_at "os"
    have hG : EqD 4 (.lst (gs.map gS)) := .lst (EqD.map fun g hg => gm_eq (gok g hg))
    refine g_eqD (hG.ok (by decide)) (hG.ok (by decide)) ?_
    rw [hG.eqv]
    exact ⟨_, _, .refl, k _⟩
end Om
namespace Om
open PySem L2
def top (i : Nat) : Stmt := PySem.Challenge.pw_inningsbook_k88_whole_long_leagues.main.body.getD i (.Pass ⟨0, 0, 0, 0⟩)
def topM (i j : Nat) : Stmt := (C8.clsBody (top i)).getD j (.Pass ⟨0, 0, 0, 0⟩)
abbrev s_common_part : Stmt := top 1
def d_common_part : He.DefD := ⟨("common_part", none), "common_part", "common_part", defArgs s_common_part, defBody s_common_part, defScope s_common_part, [], []⟩
theorem sc_common_part : FnScope N_common_part ["one", "other"] (defScope s_common_part) := ⟨rfl, rfl, rfl, by decide +kernel, rfl, by decide +kernel, by decide +kernel⟩
abbrev s_lowest_terms : Stmt := top 2
def d_lowest_terms : He.DefD := ⟨("lowest_terms", none), "lowest_terms", "lowest_terms", defArgs s_lowest_terms, defBody s_lowest_terms, defScope s_lowest_terms, [], []⟩
theorem sc_lowest_terms : FnScope N_lowest_terms ["number", "parts"] (defScope s_lowest_terms) := ⟨rfl, rfl, rfl, by decide +kernel, rfl, by decide +kernel, by decide +kernel⟩
abbrev s_standings : Stmt := top 4
def d_standings : He.DefD := ⟨("standings", none), "standings", "standings", defArgs s_standings, defBody s_standings, defScope s_standings, [], []⟩
theorem sc_standings : FnScope N_standings ["points", "games"] (defScope s_standings) := ⟨rfl, rfl, rfl, by decide +kernel, rfl, by decide +kernel, by decide +kernel⟩
abbrev s_rate_of : Stmt := top 5
def d_rate_of : He.DefD := ⟨("rate_of", none), "rate_of", "rate_of", defArgs s_rate_of, defBody s_rate_of, defScope s_rate_of, [], []⟩
theorem sc_rate_of : FnScope N_rate_of ["games", "team"] (defScope s_rate_of) := ⟨rfl, rfl, rfl, by decide +kernel, rfl, by decide +kernel, by decide +kernel⟩
abbrev s_goes_ahead : Stmt := top 6
def d_goes_ahead : He.DefD := ⟨("goes_ahead", none), "goes_ahead", "goes_ahead", defArgs s_goes_ahead, defBody s_goes_ahead, defScope s_goes_ahead, [], []⟩
theorem sc_goes_ahead : FnScope N_goes_ahead ["one", "other", "breakers"] (defScope s_goes_ahead) := ⟨rfl, rfl, rfl, by decide +kernel, rfl, by decide +kernel, by decide +kernel⟩
abbrev s_standing : Stmt := top 7
def d_standing : He.DefD := ⟨("standing", none), "standing", "standing", defArgs s_standing, defBody s_standing, defScope s_standing, [], []⟩
theorem sc_standing : FnScope N_standing ["points", "breakers", "games"] (defScope s_standing) := ⟨rfl, rfl, rfl, by decide +kernel, rfl, by decide +kernel, by decide +kernel⟩
abbrev s_box : Stmt := top 9
def d_box : He.DefD := ⟨("_law_box", none), "_law_box", "_law_box", defArgs s_box, defBody s_box, defScope s_box, [], []⟩
theorem sc_box : FnScope N_box ["script"] (defScope s_box) := ⟨rfl, rfl, rfl, by decide +kernel, rfl, by decide +kernel, by decide +kernel⟩
abbrev s_take : Stmt := top 10
def d_take : He.DefD := ⟨("_law_take", none), "_law_take", "_law_take", defArgs s_take, defBody s_take, defScope s_take, [], []⟩
theorem sc_take : FnScope N_take ["box", "many"] (defScope s_take) := ⟨rfl, rfl, rfl, by decide +kernel, rfl, by decide +kernel, by decide +kernel⟩
abbrev s_alike0 : Stmt := top 11
def d_alike0 : He.DefD := ⟨("_law_alike", none), "_law_alike", "_law_alike", defArgs s_alike0, defBody s_alike0, defScope s_alike0, [], []⟩
theorem sc_alike0 : FnScope N_alike0 ["found", "due"] (defScope s_alike0) := ⟨rfl, rfl, rfl, by decide +kernel, rfl, by decide +kernel, by decide +kernel⟩
abbrev s_alike1 : Stmt := top 11
def d_alike1 : He.DefD := ⟨("_law_alike", none), "_law_alike", "_law_alike", defArgs s_alike1, defBody s_alike1, defScope s_alike1, [], []⟩
theorem sc_alike1 : FnScope N_alike1 ["found", "due"] (defScope s_alike1) := ⟨rfl, rfl, rfl, by decide +kernel, rfl, by decide +kernel, by decide +kernel⟩
abbrev s_league : Stmt := top 12
def d_league : He.DefD := ⟨("_law_league", none), "_law_league", "_law_league", defArgs s_league, defBody s_league, defScope s_league, [], []⟩
theorem sc_league : FnScope N_league ["box", "many"] (defScope s_league) := ⟨rfl, rfl, rfl, by decide +kernel, rfl, by decide +kernel, by decide +kernel⟩
abbrev s_sums : Stmt := top 13
def d_sums : He.DefD := ⟨("_law_sums", none), "_law_sums", "_law_sums", defArgs s_sums, defBody s_sums, defScope s_sums, [], []⟩
theorem sc_sums : FnScope N_sums ["points", "games"] (defScope s_sums) := ⟨rfl, rfl, rfl, by decide +kernel, rfl, by decide +kernel, by decide +kernel⟩
abbrev s_rate_right : Stmt := top 14
def d_rate_right : He.DefD := ⟨("_law_rate_right", none), "_law_rate_right", "_law_rate_right", defArgs s_rate_right, defBody s_rate_right, defScope s_rate_right, [], []⟩
theorem sc_rate_right : FnScope N_rate_right ["found", "row"] (defScope s_rate_right) := ⟨rfl, rfl, rfl, by decide +kernel, rfl, by decide +kernel, by decide +kernel⟩
abbrev s_ahead : Stmt := top 15
def d_ahead : He.DefD := ⟨("_law_ahead", none), "_law_ahead", "_law_ahead", defArgs s_ahead, defBody s_ahead, defScope s_ahead, [], []⟩
theorem sc_ahead : FnScope N_ahead ["one", "other", "rows", "breakers", "places"] (defScope s_ahead) := ⟨rfl, rfl, rfl, by decide +kernel, rfl, by decide +kernel, by decide +kernel⟩
abbrev s_law : Stmt := top 16
def d_law : He.DefD := ⟨("law", none), "law", "law", defArgs s_law, defBody s_law, defScope s_law, [], []⟩
theorem sc_law : FnScope N_law ["script"] (defScope s_law) := ⟨rfl, rfl, rfl, by decide +kernel, rfl, by decide +kernel, by decide +kernel⟩
abbrev s_Standing___init__ : Stmt := topM 3 0
def d_Standing___init__ : He.DefD := ⟨("Standing", some "__init__"), "__init__", "Standing.__init__", defArgs s_Standing___init__, defBody s_Standing___init__, defScope s_Standing___init__, [], []⟩
theorem sc_Standing___init__ : FnScope N_Standing___init__ ["self"] (defScope s_Standing___init__) := ⟨rfl, rfl, rfl, by decide +kernel, rfl, by decide +kernel, by decide +kernel⟩
abbrev s_Standing_take_game : Stmt := topM 3 1
def d_Standing_take_game : He.DefD := ⟨("Standing", some "take_game"), "take_game", "Standing.take_game", defArgs s_Standing_take_game, defBody s_Standing_take_game, defScope s_Standing_take_game, [], []⟩
theorem sc_Standing_take_game : FnScope N_Standing_take_game ["self", "points", "runs", "balls"] (defScope s_Standing_take_game) := ⟨rfl, rfl, rfl, by decide +kernel, rfl, by decide +kernel, by decide +kernel⟩
abbrev s_Standing_rate : Stmt := topM 3 2
def d_Standing_rate : He.DefD := ⟨("Standing", some "rate"), "rate", "Standing.rate", defArgs s_Standing_rate, defBody s_Standing_rate, defScope s_Standing_rate, [], []⟩
theorem sc_Standing_rate : FnScope N_Standing_rate ["self"] (defScope s_Standing_rate) := ⟨rfl, rfl, rfl, by decide +kernel, rfl, by decide +kernel, by decide +kernel⟩
def fnL : List He.DefD := [d_common_part, d_lowest_terms, d_standings, d_rate_of, d_goes_ahead, d_standing, d_box, d_take, d_alike0, d_alike1, d_league, d_sums, d_rate_right, d_ahead, d_law, d_Standing___init__, d_Standing_take_game, d_Standing_rate]
def faL : List He.Fa := [.glo "common_part", .glo "lowest_terms", .glo "standings", .glo "rate_of", .glo "goes_ahead", .glo "standing", .glo "_law_box", .glo "_law_take", .glo "_law_alike", .glo "_law_league", .glo "_law_sums", .glo "_law_rate_right", .glo "_law_ahead", .glo "law", .free "abs", .free "len", .free "tuple", .free "enumerate", .free "int", .free "divmod", .free "list", .free "isinstance", .free "zip", .free "str", .free "bool", .free "all", .free "range", .free "set", .glo "Standing", .cls "Standing", .mkr "Standing", .meth "Standing" "take_game", .meth "Standing" "rate", .noat "Standing" "points", .noat "Standing" "tallies", .noat "Standing" "runs", .noat "Standing" "faced"]
section
variable {P : Program} {w : World} {K : PySem.W.Frag} {mg : Str → Option Value} {base : Heap}
theorem F_points (T : Top faL fnL K mg) : Flds K [("Standing" : Str)] "points" := (flds_cons (T.cls 29) (T.noat 33) flds_nil)
theorem F_tallies (T : Top faL fnL K mg) : Flds K [("Standing" : Str)] "tallies" := (flds_cons (T.cls 29) (T.noat 34) flds_nil)
theorem F_runs (T : Top faL fnL K mg) : Flds K [("Standing" : Str)] "runs" := (flds_cons (T.cls 29) (T.noat 35) flds_nil)
theorem F_faced (T : Top faL fnL K mg) : Flds K [("Standing" : Str)] "faced" := (flds_cons (T.cls 29) (T.noat 36) flds_nil)
theorem len_common_part (ss : List S) (Ω : Om) (P : WP) (h : W_common_part ss Ω P) : ss.length = 2 := by
  first | (obtain ⟨_, rfl, _⟩ := h; rfl) | (obtain ⟨_, _, rfl, _⟩ := h; rfl) | (obtain ⟨_, _, _, rfl, _⟩ := h; rfl) | (obtain ⟨_, _, _, _, rfl, _⟩ := h; rfl) | (obtain ⟨_, _, _, _, _, rfl, _⟩ := h; rfl) | (obtain ⟨_, _, _, _, _, _, rfl, _⟩ := h; rfl) | (obtain ⟨_, _, _, _, _, _, _, rfl, _⟩ := h; rfl) | (obtain ⟨_, _, _, _, _, _, _, _, rfl, _⟩ := h; rfl) | (obtain ⟨_, _, _, _, _, _, _, _, _, rfl, _⟩ := h; rfl) | (obtain ⟨_, _, _, _, _, _, _, _, _, _, rfl, _⟩ := h; rfl) | (obtain ⟨_, _, _, _, _, _, _, _, _, _, _, rfl, _⟩ := h; rfl) | (obtain ⟨_, _, _, _, _, _, _, _, _, _, _, _, rfl, _⟩ := h; rfl) | (obtain ⟨_, _, _, _, _, _, _, _, _, _, _, _, _, rfl, _⟩ := h; rfl) | (obtain ⟨_, _, _, _, _, _, _, _, _, _, _, _, _, _, rfl, _⟩ := h; rfl) | (obtain ⟨_, _, _, _, _, _, _, _, _, _, _, _, _, _, _, rfl, _⟩ := h; rfl)
theorem ok_common_part (T : Top faL fnL K mg) : Kn P w K mg base CX0 1 "common_part" ["one", "other"] W_common_part :=
  kn_of0 T 0 0 rfl rfl (fun _ _ _ _ _ _ us hl => match us, hl with | [_, _], _ => rfl) sc_common_part len_common_part (fun f cdv A outer s H E hr => ⟨_, (oss_cons (os_while PassesOwn.never (ot_cmp oo_gt (ov 1) oe_int (nomark _)) (oss_one (os_par (i := 0) (j := 1) rfl sc_common_part.nd rfl rfl (by decide) rfl rfl (oa_cons (ov 1) (oa_cons (oe_op oo_mod (ov 0) (ov 1)) oa_nil)) (by rfl))))
  (oss_one (os_ret (ov 0))))⟩) run_common_part
theorem len_lowest_terms (ss : List S) (Ω : Om) (P : WP) (h : W_lowest_terms ss Ω P) : ss.length = 2 := by
  first | (obtain ⟨_, rfl, _⟩ := h; rfl) | (obtain ⟨_, _, rfl, _⟩ := h; rfl) | (obtain ⟨_, _, _, rfl, _⟩ := h; rfl) | (obtain ⟨_, _, _, _, rfl, _⟩ := h; rfl) | (obtain ⟨_, _, _, _, _, rfl, _⟩ := h; rfl) | (obtain ⟨_, _, _, _, _, _, rfl, _⟩ := h; rfl) | (obtain ⟨_, _, _, _, _, _, _, rfl, _⟩ := h; rfl) | (obtain ⟨_, _, _, _, _, _, _, _, rfl, _⟩ := h; rfl) | (obtain ⟨_, _, _, _, _, _, _, _, _, rfl, _⟩ := h; rfl) | (obtain ⟨_, _, _, _, _, _, _, _, _, _, rfl, _⟩ := h; rfl) | (obtain ⟨_, _, _, _, _, _, _, _, _, _, _, rfl, _⟩ := h; rfl) | (obtain ⟨_, _, _, _, _, _, _, _, _, _, _, _, rfl, _⟩ := h; rfl) | (obtain ⟨_, _, _, _, _, _, _, _, _, _, _, _, _, rfl, _⟩ := h; rfl) | (obtain ⟨_, _, _, _, _, _, _, _, _, _, _, _, _, _, rfl, _⟩ := h; rfl) | (obtain ⟨_, _, _, _, _, _, _, _, _, _, _, _, _, _, _, rfl, _⟩ := h; rfl)
theorem ok_lowest_terms (T : Top faL fnL K mg) (B_common_part : Kn P w K mg base CX0 1 "common_part" ["one", "other"] W_common_part) : Kn P w K mg base CX0 2 "lowest_terms" ["number", "parts"] W_lowest_terms :=
  kn_of0 T 1 1 rfl rfl (fun _ _ _ _ _ _ us hl => match us, hl with | [_, _], _ => rfl) sc_lowest_terms len_lowest_terms (fun f cdv A outer s H E hr => ⟨_, (oss_cons (os_set (i := 2) sc_lowest_terms.nd rfl (Or.inl rfl) (oe_callK B_common_part (hr.mono (by decide)) rfl pass0 (oa_cons (oe_callB oc_abs rfl (T.free 14) bt_abs (oa_cons (ov 0) oa_nil)) (oa_cons (ov 1) oa_nil))))
  (oss_one (os_ret (oe_tup (oa_cons (oe_op oo_fdivW (ov 0) (ov 2)) (oa_cons (oe_op oo_fdivW (ov 1) (ov 2)) oa_nil))))))⟩) run_lowest_terms
theorem len_box (ss : List S) (Ω : Om) (P : WP) (h : W_box ss Ω P) : ss.length = 1 := by
  first | (obtain ⟨_, rfl, _⟩ := h; rfl) | (obtain ⟨_, _, rfl, _⟩ := h; rfl) | (obtain ⟨_, _, _, rfl, _⟩ := h; rfl) | (obtain ⟨_, _, _, _, rfl, _⟩ := h; rfl) | (obtain ⟨_, _, _, _, _, rfl, _⟩ := h; rfl) | (obtain ⟨_, _, _, _, _, _, rfl, _⟩ := h; rfl) | (obtain ⟨_, _, _, _, _, _, _, rfl, _⟩ := h; rfl) | (obtain ⟨_, _, _, _, _, _, _, _, rfl, _⟩ := h; rfl) | (obtain ⟨_, _, _, _, _, _, _, _, _, rfl, _⟩ := h; rfl) | (obtain ⟨_, _, _, _, _, _, _, _, _, _, rfl, _⟩ := h; rfl) | (obtain ⟨_, _, _, _, _, _, _, _, _, _, _, rfl, _⟩ := h; rfl) | (obtain ⟨_, _, _, _, _, _, _, _, _, _, _, _, rfl, _⟩ := h; rfl) | (obtain ⟨_, _, _, _, _, _, _, _, _, _, _, _, _, rfl, _⟩ := h; rfl) | (obtain ⟨_, _, _, _, _, _, _, _, _, _, _, _, _, _, rfl, _⟩ := h; rfl) | (obtain ⟨_, _, _, _, _, _, _, _, _, _, _, _, _, _, _, rfl, _⟩ := h; rfl)
theorem ok_box (T : Top faL fnL K mg) : Kn P w K mg base CX0 1 "_law_box" ["script"] W_box :=
  kn_of0 T 6 6 rfl rfl (fun _ _ _ _ _ _ us hl => match us, hl with | [_], _ => rfl) sc_box len_box (fun f cdv A outer s H E hr => ⟨_, (oss_cons (os_set (i := 1) sc_box.nd rfl (Or.inl rfl) oe_int)
  (oss_cons (os_for PassesOwn.never rfl (oi_enum rfl (T.free 17) (oa_cons (oe_sl (ov 0) op_none (op_some oe_int)) oa_nil)) (og_tup rfl (ogs_c (og_name (i := 2) sc_box.nd rfl (Or.inl rfl)) (ogs_c (og_name (i := 3) sc_box.nd rfl (Or.inl rfl)) ogs_nil))) (oss_one (os_set (i := 1) sc_box.nd rfl (Or.inl rfl) (oe_op oo_add (ov 1) (oe_op oo_mul (ov 3) (oe_op oo_add (oe_op oo_mul (ov 2) (ov 2)) oe_int))))))
  (oss_one (os_ret (oe_lst (oa_cons (oe_op oo_mul (oe_callB oc_abs rfl (T.free 14) bt_abs (oa_cons (ov 1) oa_nil)) (oe_callTy oc_int rfl (T.free 18) bt_int (oa_cons (oe_cmp oo_ge (oe_callB oc_abs rfl (T.free 14) bt_abs (oa_cons (ov 1) oa_nil)) (oe_op oo_pow oe_int oe_int) (nomark _)) oa_nil))) (oa_cons (oe_op oo_mod (oe_op oo_mul (oe_op oo_add (oe_op oo_mod (ov 1) oe_int) oe_int) oe_int) oe_int) (oa_cons oe_int oa_nil))))))))⟩) run_box
theorem len_take (ss : List S) (Ω : Om) (P : WP) (h : W_take ss Ω P) : ss.length = 2 := by
  first | (obtain ⟨_, rfl, _⟩ := h; rfl) | (obtain ⟨_, _, rfl, _⟩ := h; rfl) | (obtain ⟨_, _, _, rfl, _⟩ := h; rfl) | (obtain ⟨_, _, _, _, rfl, _⟩ := h; rfl) | (obtain ⟨_, _, _, _, _, rfl, _⟩ := h; rfl) | (obtain ⟨_, _, _, _, _, _, rfl, _⟩ := h; rfl) | (obtain ⟨_, _, _, _, _, _, _, rfl, _⟩ := h; rfl) | (obtain ⟨_, _, _, _, _, _, _, _, rfl, _⟩ := h; rfl) | (obtain ⟨_, _, _, _, _, _, _, _, _, rfl, _⟩ := h; rfl) | (obtain ⟨_, _, _, _, _, _, _, _, _, _, rfl, _⟩ := h; rfl) | (obtain ⟨_, _, _, _, _, _, _, _, _, _, _, rfl, _⟩ := h; rfl) | (obtain ⟨_, _, _, _, _, _, _, _, _, _, _, _, rfl, _⟩ := h; rfl) | (obtain ⟨_, _, _, _, _, _, _, _, _, _, _, _, _, rfl, _⟩ := h; rfl) | (obtain ⟨_, _, _, _, _, _, _, _, _, _, _, _, _, _, rfl, _⟩ := h; rfl) | (obtain ⟨_, _, _, _, _, _, _, _, _, _, _, _, _, _, _, rfl, _⟩ := h; rfl)
theorem ok_take (T : Top faL fnL K mg) : Kn P w K mg base CX0 1 "_law_take" ["box", "many"] W_take :=
  kn_of0 T 7 7 rfl rfl (fun _ _ _ _ _ _ us hl => match us, hl with | [_, _], _ => rfl) sc_take len_take (fun f cdv A outer s H E hr => ⟨_, (oss_cons (os_if (ot_cmp oo_gt (oe_ixU hr.units (ov 0) oe_int (fun _ _ => rfl)) oe_int (nomark _)) (oss_cons (os_asg (oe_callB oc_divmod rfl (T.free 19) bt_divmod (oa_cons (oe_ixU hr.units (ov 0) oe_int (fun _ _ => rfl)) (oa_cons (ov 1) oa_nil))) (og_tup rfl (ogs_c (og_subU hr.units (ov 0) oe_int) (ogs_c (og_name (i := 2) sc_take.nd rfl (Or.inl rfl)) ogs_nil))))
  (oss_one (os_ret (ov 2)))) oss_nil)
  (oss_cons (os_asg (oe_op oo_add (oe_ixU hr.units (ov 0) oe_int (fun _ _ => rfl)) oe_int) (og_subU hr.units (ov 0) oe_int))
  (oss_cons (os_set (i := 3) sc_take.nd rfl (Or.inl rfl) (oe_op oo_mod (oe_op oo_mul (oe_op oo_add (oe_ixU hr.units (ov 0) oe_int (fun _ _ => rfl)) (oe_op oo_mul oe_int (oe_ixU hr.units (ov 0) oe_int (fun _ _ => rfl)))) (oe_op oo_add oe_int (oe_ixU hr.units (ov 0) oe_int (fun _ _ => rfl)))) oe_int))
  (oss_cons (os_asg (oe_op oo_mod (oe_op oo_add (oe_op oo_mul (ov 3) (oe_op oo_add (oe_op oo_mod (ov 3) oe_int) oe_int)) (oe_ixU hr.units (ov 0) oe_int (fun _ _ => rfl))) oe_int) (og_subU hr.units (ov 0) oe_int))
  (oss_one (os_ret (oe_op oo_mod (oe_op oo_fdivW (oe_op oo_mod (oe_op oo_mul (oe_ixU hr.units (ov 0) oe_int (fun _ _ => rfl)) (oe_op oo_add (oe_op oo_mod (oe_ixU hr.units (ov 0) oe_int (fun _ _ => rfl)) oe_int) oe_int)) oe_int) oe_int) (ov 1))))))))⟩) run_take
theorem len_alike0 (ss : List S) (Ω : Om) (P : WP) (h : W_alike0 ss Ω P) : ss.length = 2 := by
  first | (obtain ⟨_, rfl, _⟩ := h; rfl) | (obtain ⟨_, _, rfl, _⟩ := h; rfl) | (obtain ⟨_, _, _, rfl, _⟩ := h; rfl) | (obtain ⟨_, _, _, _, rfl, _⟩ := h; rfl) | (obtain ⟨_, _, _, _, _, rfl, _⟩ := h; rfl) | (obtain ⟨_, _, _, _, _, _, rfl, _⟩ := h; rfl) | (obtain ⟨_, _, _, _, _, _, _, rfl, _⟩ := h; rfl) | (obtain ⟨_, _, _, _, _, _, _, _, rfl, _⟩ := h; rfl) | (obtain ⟨_, _, _, _, _, _, _, _, _, rfl, _⟩ := h; rfl) | (obtain ⟨_, _, _, _, _, _, _, _, _, _, rfl, _⟩ := h; rfl) | (obtain ⟨_, _, _, _, _, _, _, _, _, _, _, rfl, _⟩ := h; rfl) | (obtain ⟨_, _, _, _, _, _, _, _, _, _, _, _, rfl, _⟩ := h; rfl) | (obtain ⟨_, _, _, _, _, _, _, _, _, _, _, _, _, rfl, _⟩ := h; rfl) | (obtain ⟨_, _, _, _, _, _, _, _, _, _, _, _, _, _, rfl, _⟩ := h; rfl) | (obtain ⟨_, _, _, _, _, _, _, _, _, _, _, _, _, _, _, rfl, _⟩ := h; rfl)
theorem ok_alike0 (T : Top faL fnL K mg) : Kn P w K mg base CX0 1 "_law_alike" ["found", "due"] W_alike0 :=
  kn_of0 T 8 8 rfl rfl (fun _ _ _ _ _ _ us hl => match us, hl with | [_, _], _ => rfl) sc_alike0 len_alike0 (fun f cdv A outer s H E hr => ⟨_, (oss_cons (os_if (ot_val (oe_callB oc_isi rfl (T.free 21) bt_isinstance (oa_cons (ov 1) (oa_cons (oe_tup (oa_cons (oe_ty rfl (T.free 20) bt_list) (oa_cons (oe_ty rfl (T.free 16) bt_tuple) oa_nil))) oa_nil)))) (oss_cons (os_if (OW.ot (ow_or (ot_not (ot_val (oe_callB oc_isi rfl (T.free 21) bt_isinstance (oa_cons (ov 0) (oa_cons (oe_tup (oa_cons (oe_ty rfl (T.free 20) bt_list) (oa_cons (oe_ty rfl (T.free 16) bt_tuple) oa_nil))) oa_nil))))) (ow_or1 (ot_cmp (oo_ne hr.units) (oe_callB oc_isi rfl (T.free 21) bt_isinstance (oa_cons (ov 0) (oa_cons (oe_ty rfl (T.free 20) bt_list) oa_nil))) (oe_callB oc_isi rfl (T.free 21) bt_isinstance (oa_cons (ov 1) (oa_cons (oe_ty rfl (T.free 20) bt_list) oa_nil))) (nomark _))))) (oss_one (os_ret oe_bl)) oss_nil)
  (oss_one os_no)) oss_nil)
  (oss_cons (os_if (OW.ot (ow_or (ot_cmp oo_is (ov 1) oe_non (nomark _)) (ow_or1 (ot_val (oe_callB oc_isi rfl (T.free 21) bt_isinstance (oa_cons (ov 1) (oa_cons (oe_ty rfl (T.free 23) bt_str) oa_nil))))))) (oss_one (os_ret (oe_and (oe_cmp (oo_eq hr.units) (ov 0) (ov 1) (nomark _)) (oe_one (oe_cmp (oo_eq hr.units) (oe_callB oc_isi rfl (T.free 21) bt_isinstance (oa_cons (ov 0) (oa_cons (oe_ty rfl (T.free 23) bt_str) oa_nil))) (oe_callB oc_isi rfl (T.free 21) bt_isinstance (oa_cons (ov 1) (oa_cons (oe_ty rfl (T.free 23) bt_str) oa_nil))) (nomark _)))))) oss_nil)
  (oss_one (os_ret (oe_and (oe_callB oc_isi rfl (T.free 21) bt_isinstance (oa_cons (ov 0) (oa_cons (oe_ty rfl (T.free 18) bt_int) oa_nil))) (oe_and (oe_cmp (oo_eq hr.units) (oe_callB oc_isi rfl (T.free 21) bt_isinstance (oa_cons (ov 0) (oa_cons (oe_ty rfl (T.free 24) bt_bool) oa_nil))) (oe_callB oc_isi rfl (T.free 21) bt_isinstance (oa_cons (ov 1) (oa_cons (oe_ty rfl (T.free 24) bt_bool) oa_nil))) (nomark _)) (oe_one (oe_cmp (oo_eq hr.units) (ov 0) (ov 1) (nomark _)))))))))⟩) run_alike0
theorem len_alike1 (ss : List S) (Ω : Om) (P : WP) (h : W_alike1 ss Ω P) : ss.length = 2 := by
  first | (obtain ⟨_, rfl, _⟩ := h; rfl) | (obtain ⟨_, _, rfl, _⟩ := h; rfl) | (obtain ⟨_, _, _, rfl, _⟩ := h; rfl) | (obtain ⟨_, _, _, _, rfl, _⟩ := h; rfl) | (obtain ⟨_, _, _, _, _, rfl, _⟩ := h; rfl) | (obtain ⟨_, _, _, _, _, _, rfl, _⟩ := h; rfl) | (obtain ⟨_, _, _, _, _, _, _, rfl, _⟩ := h; rfl) | (obtain ⟨_, _, _, _, _, _, _, _, rfl, _⟩ := h; rfl) | (obtain ⟨_, _, _, _, _, _, _, _, _, rfl, _⟩ := h; rfl) | (obtain ⟨_, _, _, _, _, _, _, _, _, _, rfl, _⟩ := h; rfl) | (obtain ⟨_, _, _, _, _, _, _, _, _, _, _, rfl, _⟩ := h; rfl) | (obtain ⟨_, _, _, _, _, _, _, _, _, _, _, _, rfl, _⟩ := h; rfl) | (obtain ⟨_, _, _, _, _, _, _, _, _, _, _, _, _, rfl, _⟩ := h; rfl) | (obtain ⟨_, _, _, _, _, _, _, _, _, _, _, _, _, _, rfl, _⟩ := h; rfl) | (obtain ⟨_, _, _, _, _, _, _, _, _, _, _, _, _, _, _, rfl, _⟩ := h; rfl)
theorem ok_alike1 (T : Top faL fnL K mg) (B_alike0 : Kn P w K mg base CX0 1 "_law_alike" ["found", "due"] W_alike0) : Kn P w K mg base CX0 2 "_law_alike" ["found", "due"] W_alike1 :=
  kn_of0 T 9 8 rfl rfl (fun _ _ _ _ _ _ us hl => match us, hl with | [_, _], _ => rfl) sc_alike1 len_alike1 (fun f cdv A outer s H E hr => ⟨_, (oss_cons (os_if (ot_val (oe_callB oc_isi rfl (T.free 21) bt_isinstance (oa_cons (ov 1) (oa_cons (oe_tup (oa_cons (oe_ty rfl (T.free 20) bt_list) (oa_cons (oe_ty rfl (T.free 16) bt_tuple) oa_nil))) oa_nil)))) (oss_cons (os_if (OW.ot (ow_or (ot_not (ot_val (oe_callB oc_isi rfl (T.free 21) bt_isinstance (oa_cons (ov 0) (oa_cons (oe_tup (oa_cons (oe_ty rfl (T.free 20) bt_list) (oa_cons (oe_ty rfl (T.free 16) bt_tuple) oa_nil))) oa_nil))))) (ow_or1 (ot_cmp (oo_ne hr.units) (oe_callB oc_isi rfl (T.free 21) bt_isinstance (oa_cons (ov 0) (oa_cons (oe_ty rfl (T.free 20) bt_list) oa_nil))) (oe_callB oc_isi rfl (T.free 21) bt_isinstance (oa_cons (ov 1) (oa_cons (oe_ty rfl (T.free 20) bt_list) oa_nil))) (nomark _))))) (oss_one (os_ret oe_bl)) oss_nil)
  (oss_one (os_ret (oe_and (oe_cmp (oo_eq hr.units) (oe_callB (oc_lenU rfl) rfl (T.free 15) bt_len (oa_cons (ov 0) oa_nil)) (oe_callB (oc_lenU rfl) rfl (T.free 15) bt_len (oa_cons (ov 1) oa_nil)) (nomark _)) (oe_one (oe_callB (oc_all rfl) rfl (T.free 25) bt_all (oa_cons (oe_lc (own := [("one", 2), ("other", 3)]) rfl sc_alike1.nd (oi_zipU rfl (T.free 22) (oa_cons (ov 0) (oa_cons (ov 1) oa_nil))) (blkOk_by (own := [("one", 2), ("other", 3)]) (N := N_alike1) (sc := defScope s_alike1) (by decide +kernel)) (fun _ _ _ _ _ => (og_tup rfl (ogs_c (og_name (i := 2) sc_alike1.nd rfl (Or.inl rfl)) (ogs_c (og_name (i := 3) sc_alike1.nd rfl (Or.inl rfl)) ogs_nil)))) (fun _ _ _ _ _ => ots_nil) (fun _ _ _ _ _ => (oe_callK B_alike0 (hr.mono (by decide)) rfl pass0 (oa_cons (ov 2) (oa_cons (ov 3) oa_nil)))) (by decide)) oa_nil))))))) oss_nil)
  (oss_cons (os_if (OW.ot (ow_or (ot_cmp oo_is (ov 1) oe_non (nomark _)) (ow_or1 (ot_val (oe_callB oc_isi rfl (T.free 21) bt_isinstance (oa_cons (ov 1) (oa_cons (oe_ty rfl (T.free 23) bt_str) oa_nil))))))) (oss_one (os_ret (oe_and (oe_cmp (oo_eq hr.units) (ov 0) (ov 1) (nomark _)) (oe_one (oe_cmp (oo_eq hr.units) (oe_callB oc_isi rfl (T.free 21) bt_isinstance (oa_cons (ov 0) (oa_cons (oe_ty rfl (T.free 23) bt_str) oa_nil))) (oe_callB oc_isi rfl (T.free 21) bt_isinstance (oa_cons (ov 1) (oa_cons (oe_ty rfl (T.free 23) bt_str) oa_nil))) (nomark _)))))) oss_nil)
  (oss_one (os_ret (oe_and (oe_callB oc_isi rfl (T.free 21) bt_isinstance (oa_cons (ov 0) (oa_cons (oe_ty rfl (T.free 18) bt_int) oa_nil))) (oe_and (oe_cmp (oo_eq hr.units) (oe_callB oc_isi rfl (T.free 21) bt_isinstance (oa_cons (ov 0) (oa_cons (oe_ty rfl (T.free 24) bt_bool) oa_nil))) (oe_callB oc_isi rfl (T.free 21) bt_isinstance (oa_cons (ov 1) (oa_cons (oe_ty rfl (T.free 24) bt_bool) oa_nil))) (nomark _)) (oe_one (oe_cmp (oo_eq hr.units) (ov 0) (ov 1) (nomark _)))))))))⟩) run_alike1
theorem len_league (ss : List S) (Ω : Om) (P : WP) (h : W_league ss Ω P) : ss.length = 2 := by
  first | (obtain ⟨_, rfl, _⟩ := h; rfl) | (obtain ⟨_, _, rfl, _⟩ := h; rfl) | (obtain ⟨_, _, _, rfl, _⟩ := h; rfl) | (obtain ⟨_, _, _, _, rfl, _⟩ := h; rfl) | (obtain ⟨_, _, _, _, _, rfl, _⟩ := h; rfl) | (obtain ⟨_, _, _, _, _, _, rfl, _⟩ := h; rfl) | (obtain ⟨_, _, _, _, _, _, _, rfl, _⟩ := h; rfl) | (obtain ⟨_, _, _, _, _, _, _, _, rfl, _⟩ := h; rfl) | (obtain ⟨_, _, _, _, _, _, _, _, _, rfl, _⟩ := h; rfl) | (obtain ⟨_, _, _, _, _, _, _, _, _, _, rfl, _⟩ := h; rfl) | (obtain ⟨_, _, _, _, _, _, _, _, _, _, _, rfl, _⟩ := h; rfl) | (obtain ⟨_, _, _, _, _, _, _, _, _, _, _, _, rfl, _⟩ := h; rfl) | (obtain ⟨_, _, _, _, _, _, _, _, _, _, _, _, _, rfl, _⟩ := h; rfl) | (obtain ⟨_, _, _, _, _, _, _, _, _, _, _, _, _, _, rfl, _⟩ := h; rfl) | (obtain ⟨_, _, _, _, _, _, _, _, _, _, _, _, _, _, _, rfl, _⟩ := h; rfl)
theorem ok_league (T : Top faL fnL K mg) (B_take : Kn P w K mg base CX0 1 "_law_take" ["box", "many"] W_take) : Kn P w K mg base CX0 2 "_law_league" ["box", "many"] W_league :=
  kn_of0 T 10 9 rfl rfl (fun _ _ _ _ _ _ us hl => match us, hl with | [_, _], _ => rfl) sc_league len_league (fun f cdv A outer s H E hr => ⟨_, (oss_cons (os_par3 (i := 2) (j := 3) (l := 4) rfl sc_league.nd rfl rfl rfl (by decide) (by decide) (by decide) rfl rfl rfl (oa_cons (oe_ixU hr.units (oe_lst (oa_cons oe_str (oa_cons oe_str (oa_cons oe_str oa_nil)))) (oe_callK B_take (hr.mono (by decide)) rfl pass0 (oa_cons (ov 0) (oa_cons oe_int oa_nil))) (fun _ _ => rfl)) (oa_cons (oe_op oo_add oe_int (oe_callK B_take (hr.mono (by decide)) rfl pass0 (oa_cons (ov 0) (oa_cons oe_int oa_nil)))) (oa_cons (oe_callK B_take (hr.mono (by decide)) rfl pass0 (oa_cons (ov 0) (oa_cons oe_int oa_nil))) oa_nil))) (by rfl))
  (oss_cons (os_par3 (i := 5) (j := 6) (l := 7) rfl sc_league.nd rfl rfl rfl (by decide) (by decide) (by decide) rfl rfl rfl (oa_cons (oe_callK B_take (hr.mono (by decide)) rfl pass0 (oa_cons (ov 0) (oa_cons oe_int oa_nil))) (oa_cons (oe_callK B_take (hr.mono (by decide)) rfl pass0 (oa_cons (ov 0) (oa_cons oe_int oa_nil))) (oa_cons (oe_callK B_take (hr.mono (by decide)) rfl pass0 (oa_cons (ov 0) (oa_cons oe_int oa_nil))) oa_nil))) (by rfl))
  (oss_cons (os_set (i := 8) sc_league.nd rfl (Or.inl rfl) (oe_sl (oe_op oo_mul (oe_lst (oa_cons oe_str (oa_cons oe_str (oa_cons oe_str (oa_cons oe_str oa_nil))))) oe_int) (op_some (ov 7)) (op_some (oe_op oo_add (oe_op oo_add (ov 7) oe_int) (oe_callK B_take (hr.mono (by decide)) rfl pass0 (oa_cons (ov 0) (oa_cons oe_int oa_nil)))))))
  (oss_cons (os_set (i := 8) sc_league.nd rfl (Or.inl rfl) (oe_ixU hr.units (oe_lst (oa_cons (ov 8) (oa_cons (oe_rev (ov 8)) oa_nil))) (oe_callK B_take (hr.mono (by decide)) rfl pass0 (oa_cons (ov 0) (oa_cons oe_int oa_nil))) (fun _ _ => rfl)))
  (oss_cons (os_set (i := 9) sc_league.nd rfl (Or.inl rfl) (oe_ixU hr.units (oe_lst (oa_cons (oe_callTy oc_tuple rfl (T.free 16) bt_tuple (oa_cons (oe_lc (own := [("k", 12)]) rfl sc_league.nd (oi_rng1 rfl (T.free 26) (oa_cons oe_int oa_nil)) (blkOk_by (own := [("k", 12)]) (N := N_league) (sc := defScope s_league) (by decide +kernel)) (fun _ _ _ _ _ => (og_name (i := 12) sc_league.nd rfl (Or.inl rfl))) (fun _ _ _ _ _ => ots_nil) (fun _ _ _ _ _ => (oe_callK B_take (hr.mono (by decide)) rfl pass0 (oa_cons (ov 0) (oa_cons oe_int oa_nil)))) (by decide)) oa_nil)) (oa_cons (oe_tup (oa_cons oe_int (oa_cons oe_int (oa_cons oe_int oa_nil)))) oa_nil))) (ov 6) (fun _ _ => rfl)))
  (oss_cons (os_par (i := 10) (j := 11) rfl sc_league.nd rfl rfl (by decide) rfl rfl (oa_cons (oe_lst oa_nil) (oa_cons (oe_lst oa_nil) oa_nil)) (by rfl))
  (oss_cons (os_for PassesOwn.never rfl (oi_rng1 rfl (T.free 26) (oa_cons (ov 3) oa_nil)) (og_name (i := 12) sc_league.nd rfl (Or.inl rfl)) (oss_cons (os_set (i := 13) sc_league.nd rfl (Or.inl rfl) (oe_op oo_mod (oe_op oo_add (ov 4) (oe_op oo_mul oe_int (ov 12))) oe_int))
  (oss_one (os_append (ov 10) (oe_op oo_add (oe_op oo_add (oe_op oo_add (ov 2) (oe_ixU hr.units oe_str (oe_op oo_mod (ov 13) oe_int) (fun _ _ => rfl))) (oe_ixU hr.units oe_str (oe_op oo_fdivW (ov 13) oe_int) (fun _ _ => rfl))) (oe_op oo_mul oe_str (oe_op oo_mod (ov 13) oe_int)))))))
  (oss_cons (os_for PassesOwn.never rfl (oi_rng1 rfl (T.free 26) (oa_cons (ov 1) oa_nil)) (og_name (i := 14) sc_league.nd rfl (Or.inl rfl)) (oss_cons (os_par (i := 15) (j := 16) rfl sc_league.nd rfl rfl (by decide) rfl rfl (oa_cons (oe_callK B_take (hr.mono (by decide)) rfl pass0 (oa_cons (ov 0) (oa_cons (ov 3) oa_nil))) (oa_cons (oe_op oo_add oe_int (oe_callK B_take (hr.mono (by decide)) rfl pass0 (oa_cons (ov 0) (oa_cons (oe_op oo_sub (ov 3) oe_int) oa_nil)))) oa_nil)) (by rfl))
  (oss_cons (os_set (i := 17) sc_league.nd rfl (Or.inl rfl) (oe_ixU hr.units (oe_lst (oa_cons oe_int (oa_cons oe_int oa_nil))) (ov 5) (fun _ _ => rfl)))
  (oss_cons (os_set (i := 18) sc_league.nd rfl (Or.inl rfl) (oe_tup (oa_cons (oe_ixU hr.units (ov 10) (ov 15) (fun _ _ => rfl)) (oa_cons (oe_callK B_take (hr.mono (by decide)) rfl pass0 (oa_cons (ov 0) (oa_cons (ov 17) oa_nil))) (oa_cons (oe_op oo_add oe_int (oe_callK B_take (hr.mono (by decide)) rfl pass0 (oa_cons (ov 0) (oa_cons (oe_op oo_sub (ov 17) oe_int) oa_nil)))) oa_nil)))))
  (oss_one (os_append (ov 11) (oe_op oo_add (ov 18) (oe_tup (oa_cons (oe_ixU hr.units (ov 10) (oe_op oo_mod (oe_op oo_add (ov 15) (ov 16)) (ov 3)) (fun _ _ => rfl)) (oa_cons (oe_callK B_take (hr.mono (by decide)) rfl pass0 (oa_cons (ov 0) (oa_cons (ov 17) oa_nil))) (oa_cons (oe_op oo_add oe_int (oe_callK B_take (hr.mono (by decide)) rfl pass0 (oa_cons (ov 0) (oa_cons (oe_op oo_sub (ov 17) oe_int) oa_nil)))) oa_nil)))))))))))
  (oss_view (oss_one (os_ret (oe_lst (oa_cons (ov 9) (oa_cons (ov 8) (oa_cons (ov 11) oa_nil)))))))))))))))⟩) run_league
theorem len_sums (ss : List S) (Ω : Om) (P : WP) (h : W_sums ss Ω P) : ss.length = 2 := by
  first | (obtain ⟨_, rfl, _⟩ := h; rfl) | (obtain ⟨_, _, rfl, _⟩ := h; rfl) | (obtain ⟨_, _, _, rfl, _⟩ := h; rfl) | (obtain ⟨_, _, _, _, rfl, _⟩ := h; rfl) | (obtain ⟨_, _, _, _, _, rfl, _⟩ := h; rfl) | (obtain ⟨_, _, _, _, _, _, rfl, _⟩ := h; rfl) | (obtain ⟨_, _, _, _, _, _, _, rfl, _⟩ := h; rfl) | (obtain ⟨_, _, _, _, _, _, _, _, rfl, _⟩ := h; rfl) | (obtain ⟨_, _, _, _, _, _, _, _, _, rfl, _⟩ := h; rfl) | (obtain ⟨_, _, _, _, _, _, _, _, _, _, rfl, _⟩ := h; rfl) | (obtain ⟨_, _, _, _, _, _, _, _, _, _, _, rfl, _⟩ := h; rfl) | (obtain ⟨_, _, _, _, _, _, _, _, _, _, _, _, rfl, _⟩ := h; rfl) | (obtain ⟨_, _, _, _, _, _, _, _, _, _, _, _, _, rfl, _⟩ := h; rfl) | (obtain ⟨_, _, _, _, _, _, _, _, _, _, _, _, _, _, rfl, _⟩ := h; rfl) | (obtain ⟨_, _, _, _, _, _, _, _, _, _, _, _, _, _, _, rfl, _⟩ := h; rfl)
theorem ok_sums (T : Top faL fnL K mg) : Kn P w K mg base CX0 1 "_law_sums" ["points", "games"] W_sums :=
  kn_of0 T 11 10 rfl rfl (fun _ _ _ _ _ _ us hl => match us, hl with | [_, _], _ => rfl) sc_sums len_sums (fun f cdv A outer s H E hr => ⟨_, (oss_cons (os_set (i := 2) sc_sums.nd rfl (Or.inl rfl) oe_dnew)
  (oss_cons (os_for PassesOwn.never rfl (oi_seq (ov 1)) (og_tup rfl (ogs_c (og_name (i := 3) sc_sums.nd rfl (Or.inl rfl)) (ogs_c (og_name (i := 4) sc_sums.nd rfl (Or.inl rfl)) (ogs_c (og_name (i := 5) sc_sums.nd rfl (Or.inl rfl)) (ogs_c (og_name (i := 6) sc_sums.nd rfl (Or.inl rfl)) (ogs_c (og_name (i := 7) sc_sums.nd rfl (Or.inl rfl)) (ogs_c (og_name (i := 8) sc_sums.nd rfl (Or.inl rfl)) ogs_nil))))))) (oss_one (os_for PassesOwn.never rfl (oi_seq (oe_tup (oa_cons (oe_tup (oa_cons (ov 3) (oa_cons (oe_tup (oa_cons (ov 4) (oa_cons (ov 5) (oa_cons (ov 7) (oa_cons (ov 8) oa_nil))))) oa_nil))) (oa_cons (oe_tup (oa_cons (ov 6) (oa_cons (oe_tup (oa_cons (ov 7) (oa_cons (ov 8) (oa_cons (ov 4) (oa_cons (ov 5) oa_nil))))) oa_nil))) oa_nil)))) (og_tup rfl (ogs_c (og_name (i := 9) sc_sums.nd rfl (Or.inl rfl)) (ogs_c (og_name (i := 10) sc_sums.nd rfl (Or.inl rfl)) ogs_nil))) (oss_cons (os_set (i := 11) sc_sums.nd rfl (Or.inl rfl) (oe_setd (ov 2) (ov 9) (oe_lst (oa_cons oe_int (oa_cons oe_int (oa_cons oe_int (oa_cons oe_int (oa_cons oe_int (oa_cons oe_int (oa_cons oe_int (oa_cons oe_int oa_nil)))))))))))
  (oss_cons (os_cut (os_set (i := 12) sc_sums.nd rfl (Or.inl rfl) (oe_op oo_add (oe_callTy oc_int rfl (T.free 18) bt_int (oa_cons (oe_cmp oo_le (oe_ixU hr.units (ov 10) oe_int (fun _ _ => rfl)) (oe_ixU hr.units (ov 10) oe_int (fun _ _ => rfl)) (nomark _)) oa_nil)) (oe_callTy oc_int rfl (T.free 18) bt_int (oa_cons (oe_cmp oo_ltU (oe_ixU hr.units (ov 10) oe_int (fun _ _ => rfl)) (oe_ixU hr.units (ov 10) oe_int (fun _ _ => rfl)) (nomark _)) oa_nil)))))
  (oss_cons (os_augS hr.units (ov 11) (ov 12) oe_int ip_add)
  (oss_cons (os_augS hr.units (ov 11) oe_int (oe_ixU hr.units (ov 0) (ov 12) (fun _ _ => rfl)) ip_add)
  (oss_one (os_for PassesOwn.never rfl (oi_rng1 rfl (T.free 26) (oa_cons oe_int oa_nil)) (og_name (i := 13) sc_sums.nd rfl (Or.inl rfl)) (oss_one (os_augS hr.units (ov 11) (oe_op oo_add oe_int (ov 13)) (oe_ixU hr.units (ov 10) (ov 13) (fun _ _ => rfl)) ip_add)))))))))))
  (oss_one (os_ret (ov 2)))))⟩) run_sums
theorem len_rate_right (ss : List S) (Ω : Om) (P : WP) (h : W_rate_right ss Ω P) : ss.length = 2 := by
  first | (obtain ⟨_, rfl, _⟩ := h; rfl) | (obtain ⟨_, _, rfl, _⟩ := h; rfl) | (obtain ⟨_, _, _, rfl, _⟩ := h; rfl) | (obtain ⟨_, _, _, _, rfl, _⟩ := h; rfl) | (obtain ⟨_, _, _, _, _, rfl, _⟩ := h; rfl) | (obtain ⟨_, _, _, _, _, _, rfl, _⟩ := h; rfl) | (obtain ⟨_, _, _, _, _, _, _, rfl, _⟩ := h; rfl) | (obtain ⟨_, _, _, _, _, _, _, _, rfl, _⟩ := h; rfl) | (obtain ⟨_, _, _, _, _, _, _, _, _, rfl, _⟩ := h; rfl) | (obtain ⟨_, _, _, _, _, _, _, _, _, _, rfl, _⟩ := h; rfl) | (obtain ⟨_, _, _, _, _, _, _, _, _, _, _, rfl, _⟩ := h; rfl) | (obtain ⟨_, _, _, _, _, _, _, _, _, _, _, _, rfl, _⟩ := h; rfl) | (obtain ⟨_, _, _, _, _, _, _, _, _, _, _, _, _, rfl, _⟩ := h; rfl) | (obtain ⟨_, _, _, _, _, _, _, _, _, _, _, _, _, _, rfl, _⟩ := h; rfl) | (obtain ⟨_, _, _, _, _, _, _, _, _, _, _, _, _, _, _, rfl, _⟩ := h; rfl)
theorem ok_rate_right (T : Top faL fnL K mg) : Kn P w K mg base CX0 1 "_law_rate_right" ["found", "row"] W_rate_right :=
  kn_of0 T 12 11 rfl rfl (fun _ _ _ _ _ _ us hl => match us, hl with | [_, _], _ => rfl) sc_rate_right len_rate_right (fun f cdv A outer s H E hr => ⟨_, (oss_cons (os_if (OW.ot (ow_or (ot_not (ot_val (oe_callB oc_isi rfl (T.free 21) bt_isinstance (oa_cons (ov 0) (oa_cons (oe_ty rfl (T.free 16) bt_tuple) oa_nil))))) (ow_or1 (ot_cmp (oo_ne hr.units) (oe_callB (oc_lenU rfl) rfl (T.free 15) bt_len (oa_cons (ov 0) oa_nil)) oe_int (nomark _))))) (oss_one (os_ret oe_bl)) oss_nil)
  (oss_cons (os_asg (ov 0) (og_tup rfl (ogs_c (og_name (i := 2) sc_rate_right.nd rfl (Or.inl rfl)) (ogs_c (og_name (i := 3) sc_rate_right.nd rfl (Or.inl rfl)) ogs_nil))))
  (oss_cons (os_if (OW.ot (ow_or (ot_not (ot_val (oe_callB oc_isi rfl (T.free 21) bt_isinstance (oa_cons (ov 2) (oa_cons (oe_ty rfl (T.free 18) bt_int) oa_nil))))) (ow_or (ot_not (ot_val (oe_callB oc_isi rfl (T.free 21) bt_isinstance (oa_cons (ov 3) (oa_cons (oe_ty rfl (T.free 18) bt_int) oa_nil))))) (ow_or (ot_val (oe_callB oc_isi rfl (T.free 21) bt_isinstance (oa_cons (ov 2) (oa_cons (oe_ty rfl (T.free 24) bt_bool) oa_nil)))) (ow_or1 (ot_val (oe_callB oc_isi rfl (T.free 21) bt_isinstance (oa_cons (ov 3) (oa_cons (oe_ty rfl (T.free 24) bt_bool) oa_nil))))))))) (oss_one (os_ret oe_bl)) oss_nil)
  (oss_cons (os_set (i := 4) sc_rate_right.nd rfl (Or.inl rfl) (oe_op oo_sub (oe_op oo_mul (oe_ixU hr.units (ov 1) oe_int (fun _ _ => rfl)) (oe_ixU hr.units (ov 1) oe_int (fun _ _ => rfl))) (oe_op oo_mul (oe_ixU hr.units (ov 1) oe_int (fun _ _ => rfl)) (oe_ixU hr.units (ov 1) oe_int (fun _ _ => rfl)))))
  (oss_cons (os_if (OW.ot (ow_or (ot_cmp oo_ltU (ov 3) oe_int (nomark _)) (ow_or1 (ot_cmp (oo_ne hr.units) (oe_op oo_mul (oe_op oo_mul (ov 2) (oe_ixU hr.units (ov 1) oe_int (fun _ _ => rfl))) (oe_ixU hr.units (ov 1) oe_int (fun _ _ => rfl))) (oe_op oo_mul (ov 3) (ov 4)) (nomark _))))) (oss_one (os_ret oe_bl)) oss_nil)
  (oss_cons (os_par (i := 5) (j := 6) rfl sc_rate_right.nd rfl rfl (by decide) rfl rfl (oa_cons (oe_callB oc_abs rfl (T.free 14) bt_abs (oa_cons (ov 2) oa_nil)) (oa_cons (ov 3) oa_nil)) (by rfl))
  (oss_cons (os_while PassesOwn.never (ot_cmp oo_gt (ov 6) oe_int (nomark _)) (oss_one (os_par (i := 5) (j := 6) rfl sc_rate_right.nd rfl rfl (by decide) rfl rfl (oa_cons (ov 6) (oa_cons (oe_op oo_mod (ov 5) (ov 6)) oa_nil)) (by rfl))))
  (oss_one (os_ret (oe_cmp (oo_eq hr.units) (ov 5) oe_int (nomark _)))))))))))⟩) run_rate_right
theorem len_ahead (ss : List S) (Ω : Om) (P : WP) (h : W_ahead ss Ω P) : ss.length = 5 := by
  first | (obtain ⟨_, rfl, _⟩ := h; rfl) | (obtain ⟨_, _, rfl, _⟩ := h; rfl) | (obtain ⟨_, _, _, rfl, _⟩ := h; rfl) | (obtain ⟨_, _, _, _, rfl, _⟩ := h; rfl) | (obtain ⟨_, _, _, _, _, rfl, _⟩ := h; rfl) | (obtain ⟨_, _, _, _, _, _, rfl, _⟩ := h; rfl) | (obtain ⟨_, _, _, _, _, _, _, rfl, _⟩ := h; rfl) | (obtain ⟨_, _, _, _, _, _, _, _, rfl, _⟩ := h; rfl) | (obtain ⟨_, _, _, _, _, _, _, _, _, rfl, _⟩ := h; rfl) | (obtain ⟨_, _, _, _, _, _, _, _, _, _, rfl, _⟩ := h; rfl) | (obtain ⟨_, _, _, _, _, _, _, _, _, _, _, rfl, _⟩ := h; rfl) | (obtain ⟨_, _, _, _, _, _, _, _, _, _, _, _, rfl, _⟩ := h; rfl) | (obtain ⟨_, _, _, _, _, _, _, _, _, _, _, _, _, rfl, _⟩ := h; rfl) | (obtain ⟨_, _, _, _, _, _, _, _, _, _, _, _, _, _, rfl, _⟩ := h; rfl) | (obtain ⟨_, _, _, _, _, _, _, _, _, _, _, _, _, _, _, rfl, _⟩ := h; rfl)
theorem ok_ahead (T : Top faL fnL K mg) : Kn P w K mg base CX0 1 "_law_ahead" ["one", "other", "rows", "breakers", "places"] W_ahead :=
  kn_of0 T 13 12 rfl rfl (fun _ _ _ _ _ _ us hl => match us, hl with | [_, _, _, _, _], _ => rfl) sc_ahead len_ahead (fun f cdv A outer s H E hr => ⟨_, (oss_cons (os_par (i := 5) (j := 6) rfl sc_ahead.nd rfl rfl (by decide) rfl rfl (oa_cons (oe_ixU hr.units (ov 2) (oe_ixU hr.units (ov 0) oe_int (fun _ _ => rfl)) (fun _ _ => rfl)) (oa_cons (oe_ixU hr.units (ov 2) (oe_ixU hr.units (ov 1) oe_int (fun _ _ => rfl)) (fun _ _ => rfl)) oa_nil)) (by rfl))
  (oss_cons (os_if (ot_cmp (oo_ne hr.units) (oe_ixU hr.units (ov 5) oe_int (fun _ _ => rfl)) (oe_ixU hr.units (ov 6) oe_int (fun _ _ => rfl)) (nomark _)) (oss_one (os_ret (oe_cmp oo_gt (oe_ixU hr.units (ov 5) oe_int (fun _ _ => rfl)) (oe_ixU hr.units (ov 6) oe_int (fun _ _ => rfl)) (nomark _)))) oss_nil)
  (oss_cons (os_for PassesOwn.never rfl (oi_seq (ov 3)) (og_name (i := 7) sc_ahead.nd rfl (Or.inl rfl)) (oss_cons (os_par (i := 8) (j := 9) rfl sc_ahead.nd rfl rfl (by decide) rfl rfl (oa_cons (oe_ixU hr.units (ov 5) oe_int (fun _ _ => rfl)) (oa_cons (oe_ixU hr.units (ov 6) oe_int (fun _ _ => rfl)) oa_nil)) (by rfl))
  (oss_cons (os_cut (os_if (ot_cmp (oo_eq hr.units) (ov 7) oe_str (nomark _)) (oss_one (os_par (i := 8) (j := 9) rfl sc_ahead.nd rfl rfl (by decide) rfl rfl (oa_cons (oe_op oo_mul (oe_ixU hr.units (oe_ixU hr.units (ov 0) oe_int (fun _ _ => rfl)) oe_int (fun _ _ => rfl)) (oe_ixU hr.units (oe_ixU hr.units (ov 1) oe_int (fun _ _ => rfl)) oe_int (fun _ _ => rfl))) (oa_cons (oe_op oo_mul (oe_ixU hr.units (oe_ixU hr.units (ov 1) oe_int (fun _ _ => rfl)) oe_int (fun _ _ => rfl)) (oe_ixU hr.units (oe_ixU hr.units (ov 0) oe_int (fun _ _ => rfl)) oe_int (fun _ _ => rfl))) oa_nil)) (by rfl))) oss_nil))
  (oss_cons (os_cut (os_if (ot_cmp (oo_eq hr.units) (ov 7) oe_str (nomark _)) (oss_one (os_par (i := 8) (j := 9) rfl sc_ahead.nd rfl rfl (by decide) rfl rfl (oa_cons (oe_ixU hr.units (ov 5) oe_int (fun _ _ => rfl)) (oa_cons (oe_ixU hr.units (ov 6) oe_int (fun _ _ => rfl)) oa_nil)) (by rfl))) oss_nil))
  (oss_cons (os_if (ot_cmp (oo_eq hr.units) (ov 7) oe_str (nomark _)) (oss_one (os_ret (oe_cmp oo_ltU (oe_ixU hr.units (ov 0) oe_int (fun _ _ => rfl)) (oe_ixU hr.units (ov 1) oe_int (fun _ _ => rfl)) (nomark _)))) oss_nil)
  (oss_one (os_if (ot_cmp (oo_ne hr.units) (ov 8) (ov 9) (nomark _)) (oss_one (os_ret (oe_cmp oo_gt (ov 8) (ov 9) (nomark _)))) oss_nil)))))))
  (oss_one (os_ret (oe_cmp oo_ltU (oe_ixU hr.units (ov 4) (oe_ixU hr.units (ov 0) oe_int (fun _ _ => rfl)) (fun _ _ => rfl)) (oe_ixU hr.units (ov 4) (oe_ixU hr.units (ov 1) oe_int (fun _ _ => rfl)) (fun _ _ => rfl)) (nomark _)))))))⟩) run_ahead
theorem len_Standing___init__ (ss : List S) (Ω : Om) (P : WP) (h : W_Standing___init__ ss Ω P) : ss.length = 1 := by
  first | (obtain ⟨_, rfl, _⟩ := h; rfl) | (obtain ⟨_, _, rfl, _⟩ := h; rfl) | (obtain ⟨_, _, _, rfl, _⟩ := h; rfl) | (obtain ⟨_, _, _, _, rfl, _⟩ := h; rfl) | (obtain ⟨_, _, _, _, _, rfl, _⟩ := h; rfl) | (obtain ⟨_, _, _, _, _, _, rfl, _⟩ := h; rfl) | (obtain ⟨_, _, _, _, _, _, _, rfl, _⟩ := h; rfl) | (obtain ⟨_, _, _, _, _, _, _, _, rfl, _⟩ := h; rfl) | (obtain ⟨_, _, _, _, _, _, _, _, _, rfl, _⟩ := h; rfl) | (obtain ⟨_, _, _, _, _, _, _, _, _, _, rfl, _⟩ := h; rfl) | (obtain ⟨_, _, _, _, _, _, _, _, _, _, _, rfl, _⟩ := h; rfl) | (obtain ⟨_, _, _, _, _, _, _, _, _, _, _, _, rfl, _⟩ := h; rfl) | (obtain ⟨_, _, _, _, _, _, _, _, _, _, _, _, _, rfl, _⟩ := h; rfl) | (obtain ⟨_, _, _, _, _, _, _, _, _, _, _, _, _, _, rfl, _⟩ := h; rfl) | (obtain ⟨_, _, _, _, _, _, _, _, _, _, _, _, _, _, _, rfl, _⟩ := h; rfl)
theorem ok_Standing___init__ (T : Top faL fnL K mg) : KnC P w K mg base CX0 1 "Standing" ["self"] W_Standing___init__ :=
  knc_of0 T 15 30 28 rfl rfl rfl (fun _ _ _ _ _ _ us hl => match us, hl with | [_], _ => rfl) sc_Standing___init__ len_Standing___init__ (fun f cdv A outer s H E hr => ⟨_, (oss_cons (os_setF (F_points T) (ov 0) oe_int)
  (oss_cons (os_setF (F_tallies T) (ov 0) (oe_lst (oa_cons oe_int (oa_cons oe_int (oa_cons oe_int oa_nil)))))
  (oss_cons (os_setF (F_runs T) (ov 0) (oe_lst (oa_cons oe_int (oa_cons oe_int oa_nil))))
  (oss_one (os_setF (F_faced T) (ov 0) (oe_lst (oa_cons oe_int (oa_cons oe_int oa_nil))))))))⟩) run_Standing___init__
theorem len_Standing_take_game (ss : List S) (Ω : Om) (P : WP) (h : W_Standing_take_game ss Ω P) : ss.length = 4 := by
  first | (obtain ⟨_, rfl, _⟩ := h; rfl) | (obtain ⟨_, _, rfl, _⟩ := h; rfl) | (obtain ⟨_, _, _, rfl, _⟩ := h; rfl) | (obtain ⟨_, _, _, _, rfl, _⟩ := h; rfl) | (obtain ⟨_, _, _, _, _, rfl, _⟩ := h; rfl) | (obtain ⟨_, _, _, _, _, _, rfl, _⟩ := h; rfl) | (obtain ⟨_, _, _, _, _, _, _, rfl, _⟩ := h; rfl) | (obtain ⟨_, _, _, _, _, _, _, _, rfl, _⟩ := h; rfl) | (obtain ⟨_, _, _, _, _, _, _, _, _, rfl, _⟩ := h; rfl) | (obtain ⟨_, _, _, _, _, _, _, _, _, _, rfl, _⟩ := h; rfl) | (obtain ⟨_, _, _, _, _, _, _, _, _, _, _, rfl, _⟩ := h; rfl) | (obtain ⟨_, _, _, _, _, _, _, _, _, _, _, _, rfl, _⟩ := h; rfl) | (obtain ⟨_, _, _, _, _, _, _, _, _, _, _, _, _, rfl, _⟩ := h; rfl) | (obtain ⟨_, _, _, _, _, _, _, _, _, _, _, _, _, _, rfl, _⟩ := h; rfl) | (obtain ⟨_, _, _, _, _, _, _, _, _, _, _, _, _, _, _, rfl, _⟩ := h; rfl)
theorem ok_Standing_take_game (T : Top faL fnL K mg) : KnM P w K mg base CX0 1 "Standing" "take_game" ["self", "points", "runs", "balls"] W_Standing_take_game :=
  knm_of0 T 16 29 31 rfl rfl rfl (fun _ _ _ _ _ _ us hl => match us, hl with | [_, _, _, _], _ => rfl) sc_Standing_take_game len_Standing_take_game (fun f cdv A outer s H E hr => ⟨_, (oss_cons (os_set (i := 4) sc_Standing_take_game.nd rfl (Or.inl rfl) oe_int)
  (oss_cons (os_cut (os_if (ot_cmp (oo_ne hr.units) (oe_ixU hr.units (ov 2) oe_int (fun _ _ => rfl)) (oe_ixU hr.units (ov 2) oe_int (fun _ _ => rfl)) (nomark _)) (oss_one (os_set (i := 4) sc_Standing_take_game.nd rfl (Or.inl rfl) (oe_op oo_mul oe_int (oe_callTy oc_int rfl (T.free 18) bt_int (oa_cons (oe_cmp oo_ltU (oe_ixU hr.units (ov 2) oe_int (fun _ _ => rfl)) (oe_ixU hr.units (ov 2) oe_int (fun _ _ => rfl)) (nomark _)) oa_nil))))) oss_nil))
  (oss_cons (os_augS hr.units (oe_fld (F_tallies T) (ov 0)) (ov 4) oe_int ip_add)
  (oss_cons (os_augF (F_points T) (ov 0) (oe_ixU hr.units (ov 1) (ov 4) (fun _ _ => rfl)) inI_add)
  (oss_one (os_for PassesOwn.never rfl (oi_rng1 rfl (T.free 26) (oa_cons oe_int oa_nil)) (og_name (i := 5) sc_Standing_take_game.nd rfl (Or.inl rfl)) (oss_cons (os_augS hr.units (oe_fld (F_runs T) (ov 0)) (ov 5) (oe_ixU hr.units (ov 2) (ov 5) (fun _ _ => rfl)) ip_add)
  (oss_one (os_augS hr.units (oe_fld (F_faced T) (ov 0)) (ov 5) (oe_ixU hr.units (ov 3) (ov 5) (fun _ _ => rfl)) ip_add)))))))))⟩) run_Standing_take_game
theorem len_standings (ss : List S) (Ω : Om) (P : WP) (h : W_standings ss Ω P) : ss.length = 2 := by
  first | (obtain ⟨_, rfl, _⟩ := h; rfl) | (obtain ⟨_, _, rfl, _⟩ := h; rfl) | (obtain ⟨_, _, _, rfl, _⟩ := h; rfl) | (obtain ⟨_, _, _, _, rfl, _⟩ := h; rfl) | (obtain ⟨_, _, _, _, _, rfl, _⟩ := h; rfl) | (obtain ⟨_, _, _, _, _, _, rfl, _⟩ := h; rfl) | (obtain ⟨_, _, _, _, _, _, _, rfl, _⟩ := h; rfl) | (obtain ⟨_, _, _, _, _, _, _, _, rfl, _⟩ := h; rfl) | (obtain ⟨_, _, _, _, _, _, _, _, _, rfl, _⟩ := h; rfl) | (obtain ⟨_, _, _, _, _, _, _, _, _, _, rfl, _⟩ := h; rfl) | (obtain ⟨_, _, _, _, _, _, _, _, _, _, _, rfl, _⟩ := h; rfl) | (obtain ⟨_, _, _, _, _, _, _, _, _, _, _, _, rfl, _⟩ := h; rfl) | (obtain ⟨_, _, _, _, _, _, _, _, _, _, _, _, _, rfl, _⟩ := h; rfl) | (obtain ⟨_, _, _, _, _, _, _, _, _, _, _, _, _, _, rfl, _⟩ := h; rfl) | (obtain ⟨_, _, _, _, _, _, _, _, _, _, _, _, _, _, _, rfl, _⟩ := h; rfl)
theorem ok_standings (T : Top faL fnL K mg) (B_Standing___init__ : KnC P w K mg base CX0 1 "Standing" ["self"] W_Standing___init__) (B_Standing_take_game : KnM P w K mg base CX0 1 "Standing" "take_game" ["self", "points", "runs", "balls"] W_Standing_take_game) : Kn P w K mg base CX0 3 "standings" ["points", "games"] W_standings :=
  kn_of0 T 2 2 rfl rfl (fun _ _ _ _ _ _ us hl => match us, hl with | [_, _], _ => rfl) sc_standings len_standings (fun f cdv A outer s H E hr => ⟨_, (oss_cons (os_set (i := 2) sc_standings.nd rfl (Or.inl rfl) oe_dnew)
  (oss_cons (os_for PassesOwn.never rfl (oi_seq (ov 1)) (og_tup rfl (ogs_c (og_name (i := 3) sc_standings.nd rfl (Or.inl rfl)) (ogs_c (og_name (i := 4) sc_standings.nd rfl (Or.inl rfl)) (ogs_c (og_name (i := 5) sc_standings.nd rfl (Or.inl rfl)) (ogs_c (og_name (i := 6) sc_standings.nd rfl (Or.inl rfl)) (ogs_c (og_name (i := 7) sc_standings.nd rfl (Or.inl rfl)) (ogs_c (og_name (i := 8) sc_standings.nd rfl (Or.inl rfl)) ogs_nil))))))) (oss_cons (os_expr (oe_methK B_Standing_take_game (hr.mono (by decide)) pass0 (oe_setd (ov 2) (ov 3) (oe_makeK0 B_Standing___init__ (hr.mono (by decide)) rfl pass0)) (oa_cons (ov 0) (oa_cons (oe_lst (oa_cons (ov 4) (oa_cons (ov 7) oa_nil))) (oa_cons (oe_lst (oa_cons (ov 5) (oa_cons (ov 8) oa_nil))) oa_nil)))))
  (oss_one (os_expr (oe_methK B_Standing_take_game (hr.mono (by decide)) pass0 (oe_setd (ov 2) (ov 6) (oe_makeK0 B_Standing___init__ (hr.mono (by decide)) rfl pass0)) (oa_cons (ov 0) (oa_cons (oe_lst (oa_cons (ov 7) (oa_cons (ov 4) oa_nil))) (oa_cons (oe_lst (oa_cons (ov 8) (oa_cons (ov 5) oa_nil))) oa_nil))))))))
  (oss_one (os_ret (ov 2)))))⟩) run_standings
theorem len_Standing_rate (ss : List S) (Ω : Om) (P : WP) (h : W_Standing_rate ss Ω P) : ss.length = 1 := by
  first | (obtain ⟨_, rfl, _⟩ := h; rfl) | (obtain ⟨_, _, rfl, _⟩ := h; rfl) | (obtain ⟨_, _, _, rfl, _⟩ := h; rfl) | (obtain ⟨_, _, _, _, rfl, _⟩ := h; rfl) | (obtain ⟨_, _, _, _, _, rfl, _⟩ := h; rfl) | (obtain ⟨_, _, _, _, _, _, rfl, _⟩ := h; rfl) | (obtain ⟨_, _, _, _, _, _, _, rfl, _⟩ := h; rfl) | (obtain ⟨_, _, _, _, _, _, _, _, rfl, _⟩ := h; rfl) | (obtain ⟨_, _, _, _, _, _, _, _, _, rfl, _⟩ := h; rfl) | (obtain ⟨_, _, _, _, _, _, _, _, _, _, rfl, _⟩ := h; rfl) | (obtain ⟨_, _, _, _, _, _, _, _, _, _, _, rfl, _⟩ := h; rfl) | (obtain ⟨_, _, _, _, _, _, _, _, _, _, _, _, rfl, _⟩ := h; rfl) | (obtain ⟨_, _, _, _, _, _, _, _, _, _, _, _, _, rfl, _⟩ := h; rfl) | (obtain ⟨_, _, _, _, _, _, _, _, _, _, _, _, _, _, rfl, _⟩ := h; rfl) | (obtain ⟨_, _, _, _, _, _, _, _, _, _, _, _, _, _, _, rfl, _⟩ := h; rfl)
theorem ok_Standing_rate (T : Top faL fnL K mg) (B_lowest_terms : Kn P w K mg base CX0 2 "lowest_terms" ["number", "parts"] W_lowest_terms) : KnM P w K mg base CX0 3 "Standing" "rate" ["self"] W_Standing_rate :=
  knm_of0 T 17 29 32 rfl rfl rfl (fun _ _ _ _ _ _ us hl => match us, hl with | [_], _ => rfl) sc_Standing_rate len_Standing_rate (fun f cdv A outer s H E hr => ⟨_, (oss_cons (os_set (i := 1) sc_Standing_rate.nd rfl (Or.inl rfl) (oe_op oo_sub (oe_op oo_mul (oe_ixU hr.units (oe_fld (F_runs T) (ov 0)) oe_int (fun _ _ => rfl)) (oe_ixU hr.units (oe_fld (F_faced T) (ov 0)) oe_int (fun _ _ => rfl))) (oe_op oo_mul (oe_ixU hr.units (oe_fld (F_runs T) (ov 0)) oe_int (fun _ _ => rfl)) (oe_ixU hr.units (oe_fld (F_faced T) (ov 0)) oe_int (fun _ _ => rfl)))))
  (oss_one (os_ret (oe_callK B_lowest_terms (hr.mono (by decide)) rfl pass0 (oa_cons (ov 1) (oa_cons (oe_op oo_mul (oe_ixU hr.units (oe_fld (F_faced T) (ov 0)) oe_int (fun _ _ => rfl)) (oe_ixU hr.units (oe_fld (F_faced T) (ov 0)) oe_int (fun _ _ => rfl))) oa_nil))))))⟩) run_Standing_rate
theorem len_rate_of (ss : List S) (Ω : Om) (P : WP) (h : W_rate_of ss Ω P) : ss.length = 2 := by
  first | (obtain ⟨_, rfl, _⟩ := h; rfl) | (obtain ⟨_, _, rfl, _⟩ := h; rfl) | (obtain ⟨_, _, _, rfl, _⟩ := h; rfl) | (obtain ⟨_, _, _, _, rfl, _⟩ := h; rfl) | (obtain ⟨_, _, _, _, _, rfl, _⟩ := h; rfl) | (obtain ⟨_, _, _, _, _, _, rfl, _⟩ := h; rfl) | (obtain ⟨_, _, _, _, _, _, _, rfl, _⟩ := h; rfl) | (obtain ⟨_, _, _, _, _, _, _, _, rfl, _⟩ := h; rfl) | (obtain ⟨_, _, _, _, _, _, _, _, _, rfl, _⟩ := h; rfl) | (obtain ⟨_, _, _, _, _, _, _, _, _, _, rfl, _⟩ := h; rfl) | (obtain ⟨_, _, _, _, _, _, _, _, _, _, _, rfl, _⟩ := h; rfl) | (obtain ⟨_, _, _, _, _, _, _, _, _, _, _, _, rfl, _⟩ := h; rfl) | (obtain ⟨_, _, _, _, _, _, _, _, _, _, _, _, _, rfl, _⟩ := h; rfl) | (obtain ⟨_, _, _, _, _, _, _, _, _, _, _, _, _, _, rfl, _⟩ := h; rfl) | (obtain ⟨_, _, _, _, _, _, _, _, _, _, _, _, _, _, _, rfl, _⟩ := h; rfl)
theorem ok_rate_of (T : Top faL fnL K mg) (B_standings : Kn P w K mg base CX0 3 "standings" ["points", "games"] W_standings) (B_Standing_rate : KnM P w K mg base CX0 3 "Standing" "rate" ["self"] W_Standing_rate) : Kn P w K mg base CX0 4 "rate_of" ["games", "team"] W_rate_of :=
  kn_of0 T 3 3 rfl rfl (fun _ _ _ _ _ _ us hl => match us, hl with | [_, _], _ => rfl) sc_rate_of len_rate_of (fun f cdv A outer s H E hr => ⟨_, (oss_one (os_ret (oe_methK0 B_Standing_rate (hr.mono (by decide)) pass0 (oe_ixU hr.units (oe_callK B_standings (hr.mono (by decide)) rfl pass0 (oa_cons (oe_tup (oa_cons oe_int (oa_cons oe_int (oa_cons oe_int oa_nil)))) (oa_cons (ov 0) oa_nil))) (ov 1) (fun _ _ => rfl)))))⟩) run_rate_of
theorem len_goes_ahead (ss : List S) (Ω : Om) (P : WP) (h : W_goes_ahead ss Ω P) : ss.length = 3 := by
  first | (obtain ⟨_, rfl, _⟩ := h; rfl) | (obtain ⟨_, _, rfl, _⟩ := h; rfl) | (obtain ⟨_, _, _, rfl, _⟩ := h; rfl) | (obtain ⟨_, _, _, _, rfl, _⟩ := h; rfl) | (obtain ⟨_, _, _, _, _, rfl, _⟩ := h; rfl) | (obtain ⟨_, _, _, _, _, _, rfl, _⟩ := h; rfl) | (obtain ⟨_, _, _, _, _, _, _, rfl, _⟩ := h; rfl) | (obtain ⟨_, _, _, _, _, _, _, _, rfl, _⟩ := h; rfl) | (obtain ⟨_, _, _, _, _, _, _, _, _, rfl, _⟩ := h; rfl) | (obtain ⟨_, _, _, _, _, _, _, _, _, _, rfl, _⟩ := h; rfl) | (obtain ⟨_, _, _, _, _, _, _, _, _, _, _, rfl, _⟩ := h; rfl) | (obtain ⟨_, _, _, _, _, _, _, _, _, _, _, _, rfl, _⟩ := h; rfl) | (obtain ⟨_, _, _, _, _, _, _, _, _, _, _, _, _, rfl, _⟩ := h; rfl) | (obtain ⟨_, _, _, _, _, _, _, _, _, _, _, _, _, _, rfl, _⟩ := h; rfl) | (obtain ⟨_, _, _, _, _, _, _, _, _, _, _, _, _, _, _, rfl, _⟩ := h; rfl)
theorem ok_goes_ahead (T : Top faL fnL K mg) (B_Standing_rate : KnM P w K mg base CX0 3 "Standing" "rate" ["self"] W_Standing_rate) : Kn P w K mg base CX0 4 "goes_ahead" ["one", "other", "breakers"] W_goes_ahead :=
  kn_of0 T 4 4 rfl rfl (fun _ _ _ _ _ _ us hl => match us, hl with | [_, _, _], _ => rfl) sc_goes_ahead len_goes_ahead (fun f cdv A outer s H E hr => ⟨_, (oss_cons (os_if (ot_cmp (oo_ne hr.units) (oe_fld (F_points T) (oe_ixU hr.units (ov 0) oe_int (fun _ _ => rfl))) (oe_fld (F_points T) (oe_ixU hr.units (ov 1) oe_int (fun _ _ => rfl))) (nomark _)) (oss_one (os_ret (oe_cmp oo_gt (oe_fld (F_points T) (oe_ixU hr.units (ov 0) oe_int (fun _ _ => rfl))) (oe_fld (F_points T) (oe_ixU hr.units (ov 1) oe_int (fun _ _ => rfl))) (nomark _)))) oss_nil)
  (oss_cons (os_for PassesOwn.never rfl (oi_seq (ov 2)) (og_name (i := 3) sc_goes_ahead.nd rfl (Or.inl rfl)) (oss_cons (os_if (ot_cmp (oo_eq hr.units) (ov 3) oe_str (nomark _)) (oss_one (os_ret (oe_cmp oo_ltU (oe_ixU hr.units (ov 0) oe_int (fun _ _ => rfl)) (oe_ixU hr.units (ov 1) oe_int (fun _ _ => rfl)) (nomark _)))) oss_nil)
  (oss_cons (os_set (i := 4) sc_goes_ahead.nd rfl (Or.inl rfl) (oe_ixU hr.units (oe_fld (F_tallies T) (oe_ixU hr.units (ov 0) oe_int (fun _ _ => rfl))) oe_int (fun _ _ => rfl)))
  (oss_cons (os_set (i := 5) sc_goes_ahead.nd rfl (Or.inl rfl) (oe_ixU hr.units (oe_fld (F_tallies T) (oe_ixU hr.units (ov 1) oe_int (fun _ _ => rfl))) oe_int (fun _ _ => rfl)))
  (oss_cons (os_cut (os_if (ot_cmp (oo_eq hr.units) (ov 3) oe_str (nomark _)) (oss_cons (os_set (i := 4) sc_goes_ahead.nd rfl (Or.inl rfl) (oe_ixU hr.units (oe_fld (F_runs T) (oe_ixU hr.units (ov 0) oe_int (fun _ _ => rfl))) oe_int (fun _ _ => rfl)))
  (oss_one (os_set (i := 5) sc_goes_ahead.nd rfl (Or.inl rfl) (oe_ixU hr.units (oe_fld (F_runs T) (oe_ixU hr.units (ov 1) oe_int (fun _ _ => rfl))) oe_int (fun _ _ => rfl))))) (oss_one (os_if (ot_cmp (oo_eq hr.units) (ov 3) oe_str (nomark _)) (oss_cons (os_set (i := 4) sc_goes_ahead.nd rfl (Or.inl rfl) (oe_op oo_mul (oe_ixU hr.units (oe_methK0 B_Standing_rate (hr.mono (by decide)) pass0 (oe_ixU hr.units (ov 0) oe_int (fun _ _ => rfl))) oe_int (fun _ _ => rfl)) (oe_ixU hr.units (oe_methK0 B_Standing_rate (hr.mono (by decide)) pass0 (oe_ixU hr.units (ov 1) oe_int (fun _ _ => rfl))) oe_int (fun _ _ => rfl))))
  (oss_one (os_set (i := 5) sc_goes_ahead.nd rfl (Or.inl rfl) (oe_op oo_mul (oe_ixU hr.units (oe_methK0 B_Standing_rate (hr.mono (by decide)) pass0 (oe_ixU hr.units (ov 1) oe_int (fun _ _ => rfl))) oe_int (fun _ _ => rfl)) (oe_ixU hr.units (oe_methK0 B_Standing_rate (hr.mono (by decide)) pass0 (oe_ixU hr.units (ov 0) oe_int (fun _ _ => rfl))) oe_int (fun _ _ => rfl)))))) oss_nil))))
  (oss_one (os_if (ot_cmp (oo_ne hr.units) (ov 4) (ov 5) (nomark _)) (oss_one (os_ret (oe_cmp oo_gt (ov 4) (ov 5) (nomark _)))) oss_nil)))))))
  (oss_one (os_ret oe_bl))))⟩) run_goes_ahead
theorem len_standing (ss : List S) (Ω : Om) (P : WP) (h : W_standing ss Ω P) : ss.length = 3 := by
  first | (obtain ⟨_, rfl, _⟩ := h; rfl) | (obtain ⟨_, _, rfl, _⟩ := h; rfl) | (obtain ⟨_, _, _, rfl, _⟩ := h; rfl) | (obtain ⟨_, _, _, _, rfl, _⟩ := h; rfl) | (obtain ⟨_, _, _, _, _, rfl, _⟩ := h; rfl) | (obtain ⟨_, _, _, _, _, _, rfl, _⟩ := h; rfl) | (obtain ⟨_, _, _, _, _, _, _, rfl, _⟩ := h; rfl) | (obtain ⟨_, _, _, _, _, _, _, _, rfl, _⟩ := h; rfl) | (obtain ⟨_, _, _, _, _, _, _, _, _, rfl, _⟩ := h; rfl) | (obtain ⟨_, _, _, _, _, _, _, _, _, _, rfl, _⟩ := h; rfl) | (obtain ⟨_, _, _, _, _, _, _, _, _, _, _, rfl, _⟩ := h; rfl) | (obtain ⟨_, _, _, _, _, _, _, _, _, _, _, _, rfl, _⟩ := h; rfl) | (obtain ⟨_, _, _, _, _, _, _, _, _, _, _, _, _, rfl, _⟩ := h; rfl) | (obtain ⟨_, _, _, _, _, _, _, _, _, _, _, _, _, _, rfl, _⟩ := h; rfl) | (obtain ⟨_, _, _, _, _, _, _, _, _, _, _, _, _, _, _, rfl, _⟩ := h; rfl)
theorem ok_standing (T : Top faL fnL K mg) (B_standings : Kn P w K mg base CX0 3 "standings" ["points", "games"] W_standings) (B_goes_ahead : Kn P w K mg base CX0 4 "goes_ahead" ["one", "other", "breakers"] W_goes_ahead) (B_Standing_rate : KnM P w K mg base CX0 3 "Standing" "rate" ["self"] W_Standing_rate) : Kn P w K mg base CX0 5 "standing" ["points", "breakers", "games"] W_standing :=
  kn_of0 T 5 5 rfl rfl (fun _ _ _ _ _ _ us hl => match us, hl with | [_, _, _], _ => rfl) sc_standing len_standing (fun f cdv A outer s H E hr => ⟨_, (oss_cons (os_set (i := 3) sc_standing.nd rfl (Or.inl rfl) (oe_lst oa_nil))
  (oss_cons (os_for PassesOwn.never rfl (oi_items (oe_frz (oe_callK B_standings (hr.mono (by decide)) rfl pass0 (oa_cons (ov 0) (oa_cons (ov 2) oa_nil))))) (og_tup rfl (ogs_c (og_name (i := 4) sc_standing.nd rfl (Or.inl rfl)) (ogs_c (og_name (i := 5) sc_standing.nd rfl (Or.inl rfl)) ogs_nil))) (oss_cons (os_set (i := 6) sc_standing.nd rfl (Or.inl rfl) (oe_callB (oc_lenU rfl) rfl (T.free 15) bt_len (oa_cons (ov 3) oa_nil)))
  (oss_cons (os_while PassesOwn.never (OW.ot (ow_and (ot_cmp oo_gt (ov 6) oe_int (nomark _)) (ow_and1 (ot_val (oe_callK B_goes_ahead (hr.mono (by decide)) rfl pass0 (oa_cons (oe_tup (oa_cons (ov 4) (oa_cons (ov 5) oa_nil))) (oa_cons (oe_ixU hr.units (ov 3) (oe_op oo_sub (ov 6) oe_int) (fun _ _ => rfl)) (oa_cons (ov 1) oa_nil)))))))) (oss_one (os_aug (i := 6) sc_standing.nd rfl (Or.inl rfl) oe_int ip_sub)))
  (oss_one (os_insert (ov 3) (oa_cons (ov 6) (oa_cons (oe_tup (oa_cons (ov 4) (oa_cons (ov 5) oa_nil))) oa_nil)))))))
  (oss_one (os_ret (oe_lc (own := [("team", 4), ("mine", 5)]) rfl sc_standing.nd (oi_seq (ov 3)) (blkOk_by (own := [("team", 4), ("mine", 5)]) (N := N_standing) (sc := defScope s_standing) (by decide +kernel)) (fun _ _ _ _ _ => (og_tup rfl (ogs_c (og_name (i := 4) sc_standing.nd rfl (Or.inl rfl)) (ogs_c (og_name (i := 5) sc_standing.nd rfl (Or.inl rfl)) ogs_nil)))) (fun _ _ _ _ _ => ots_nil) (fun _ _ _ _ _ => (oe_op oo_add (oe_op oo_add (oe_tup (oa_cons (ov 4) (oa_cons (oe_fld (F_points T) (ov 5)) oa_nil))) (oe_callTy oc_tuple rfl (T.free 16) bt_tuple (oa_cons (oe_fld (F_tallies T) (ov 5)) oa_nil))) (oe_tup (oa_cons (oe_methK0 B_Standing_rate (hr.mono (by decide)) pass0 (ov 5)) oa_nil)))) (by decide))))))⟩) run_standing
theorem len_law (ss : List S) (Ω : Om) (P : WP) (h : W_law ss Ω P) : ss.length = 1 := by
  first | (obtain ⟨_, rfl, _⟩ := h; rfl) | (obtain ⟨_, _, rfl, _⟩ := h; rfl) | (obtain ⟨_, _, _, rfl, _⟩ := h; rfl) | (obtain ⟨_, _, _, _, rfl, _⟩ := h; rfl) | (obtain ⟨_, _, _, _, _, rfl, _⟩ := h; rfl) | (obtain ⟨_, _, _, _, _, _, rfl, _⟩ := h; rfl) | (obtain ⟨_, _, _, _, _, _, _, rfl, _⟩ := h; rfl) | (obtain ⟨_, _, _, _, _, _, _, _, rfl, _⟩ := h; rfl) | (obtain ⟨_, _, _, _, _, _, _, _, _, rfl, _⟩ := h; rfl) | (obtain ⟨_, _, _, _, _, _, _, _, _, _, rfl, _⟩ := h; rfl) | (obtain ⟨_, _, _, _, _, _, _, _, _, _, _, rfl, _⟩ := h; rfl) | (obtain ⟨_, _, _, _, _, _, _, _, _, _, _, _, rfl, _⟩ := h; rfl) | (obtain ⟨_, _, _, _, _, _, _, _, _, _, _, _, _, rfl, _⟩ := h; rfl) | (obtain ⟨_, _, _, _, _, _, _, _, _, _, _, _, _, _, rfl, _⟩ := h; rfl) | (obtain ⟨_, _, _, _, _, _, _, _, _, _, _, _, _, _, _, rfl, _⟩ := h; rfl)
theorem okF_law {f : Addr} {fd : FuncData} (T : Top faL fnL K mg) (F : FunD K "law" "law" (defArgs s_law) (defBody s_law) (defScope s_law) [] [] f fd) (B_box : Kn P w K mg base CX0 1 "_law_box" ["script"] W_box) (B_take : Kn P w K mg base CX0 1 "_law_take" ["box", "many"] W_take) (B_league : Kn P w K mg base CX0 2 "_law_league" ["box", "many"] W_league) (B_sums : Kn P w K mg base CX0 1 "_law_sums" ["points", "games"] W_sums) (B_standing : Kn P w K mg base CX0 5 "standing" ["points", "breakers", "games"] W_standing) (B_alike1 : Kn P w K mg base CX0 2 "_law_alike" ["found", "due"] W_alike1) (B_rate_right : Kn P w K mg base CX0 1 "_law_rate_right" ["found", "row"] W_rate_right) (B_ahead : Kn P w K mg base CX0 1 "_law_ahead" ["one", "other", "rows", "breakers", "places"] W_ahead) (B_rate_of : Kn P w K mg base CX0 4 "rate_of" ["games", "team"] W_rate_of) : FnOk P w K mg base CX0 6 f fd ["script"] (spO K W_law) :=
  fnO0 F sc_law len_law (fun cdv A outer s H E hr => ⟨_, (oss_cons (os_set (i := 1) sc_law.nd rfl (Or.inl rfl) (oe_callK B_box (hr.mono (by decide)) rfl pass0 (oa_cons (ov 0) oa_nil)))
  (oss_cons (os_set (i := 2) sc_law.nd rfl (Or.inl rfl) (oe_op oo_mul (oe_ixU hr.units (oe_lst (oa_cons oe_int (oa_cons oe_int (oa_cons oe_int oa_nil)))) (oe_callK B_take (hr.mono (by decide)) rfl pass0 (oa_cons (ov 1) (oa_cons oe_int oa_nil))) (fun _ _ => rfl)) (oe_callTy oc_int rfl (T.free 18) bt_int (oa_cons (oe_cmp oo_gt (oe_callB (oc_lenU rfl) rfl (T.free 15) bt_len (oa_cons (ov 0) oa_nil)) oe_int (nomark _)) oa_nil))))
  (oss_cons (os_set (i := 3) sc_law.nd rfl (Or.inl rfl) (oe_ixU hr.units (oe_lst (oa_cons (ov 2) (oa_cons (oe_callK B_take (hr.mono (by decide)) rfl pass0 (oa_cons (ov 1) (oa_cons (oe_op oo_add (ov 2) oe_int) oa_nil))) oa_nil))) (oe_callK B_take (hr.mono (by decide)) rfl pass0 (oa_cons (ov 1) (oa_cons oe_int oa_nil))) (fun _ _ => rfl)))
  (oss_cons (os_asg (oe_callK B_league (hr.mono (by decide)) rfl pass0 (oa_cons (ov 1) (oa_cons (ov 3) oa_nil))) (og_lst rfl (ogs_c (og_name (i := 4) sc_law.nd rfl (Or.inl rfl)) (ogs_c (og_name (i := 5) sc_law.nd rfl (Or.inr rfl)) (ogs_c (og_name (i := 6) sc_law.nd rfl (Or.inl rfl)) ogs_nil)))))
  (oss_cons (os_asg (oe_tup (oa_cons (oe_callK B_sums (hr.mono (by decide)) rfl pass0 (oa_cons (ov 4) (oa_cons (ov 6) oa_nil))) (oa_cons oe_dnew oa_nil))) (og_tup rfl (ogs_c (og_name (i := 7) sc_law.nd rfl (Or.inr rfl)) (ogs_c (og_name (i := 8) sc_law.nd rfl (Or.inr rfl)) ogs_nil))))
  (oss_cons (os_frz (os_for PassesOwn.never rfl (oi_keys (ov 7)) (og_name (i := 9) sc_law.nd rfl (Or.inl rfl)) (oss_one (os_asg (oe_callB (oc_lenU rfl) rfl (T.free 15) bt_len (oa_cons (ov 8) oa_nil)) (og_subU hr.units (ov 8) (ov 9))))))
  (oss_cons (os_set (i := 10) sc_law.nd rfl (Or.inl rfl) (oe_lst (oa_cons (oe_callTy oc_list rfl (T.free 20) bt_list (oa_cons (ov 5) oa_nil)) (oa_cons (oe_callTy oc_list rfl (T.free 20) bt_list (oa_cons (ov 6) oa_nil)) oa_nil))))
  (oss_cons (os_set (i := 11) sc_law.nd rfl (Or.inl rfl) (oe_callK B_standing (hr.mono (by decide)) rfl pass0 (oa_cons (ov 4) (oa_cons (oe_ixU hr.units (ov 10) oe_int (fun _ _ => rfl)) (oa_cons (oe_ixU hr.units (ov 10) oe_int (fun _ _ => rfl)) oa_nil)))))
  (oss_cons (os_if (OW.ot (ow_or (ot_cmp (oo_ne hr.units) (ov 10) (oe_lst (oa_cons (ov 5) (oa_cons (ov 6) oa_nil))) (nomark _)) (ow_or (ot_not (ot_val (oe_callB oc_isi rfl (T.free 21) bt_isinstance (oa_cons (ov 11) (oa_cons (oe_ty rfl (T.free 20) bt_list) oa_nil))))) (ow_or1 (ot_cmp (oo_ne hr.units) (oe_callB (oc_lenU rfl) rfl (T.free 15) bt_len (oa_cons (ov 11) oa_nil)) (oe_callB (oc_lenU rfl) rfl (T.free 15) bt_len (oa_cons (ov 7) oa_nil)) (nomark _)))))) (oss_one (os_ret oe_bl)) oss_nil)
  (oss_cons (os_for PassesOwn.never rfl (oi_seq (ov 11)) (og_name (i := 12) sc_law.nd rfl (Or.inl rfl)) (oss_cons (os_if (OW.ot (ow_or (ot_not (ot_val (oe_callB oc_isi rfl (T.free 21) bt_isinstance (oa_cons (ov 12) (oa_cons (oe_ty rfl (T.free 16) bt_tuple) oa_nil))))) (ow_or (ot_cmp (oo_ne hr.units) (oe_callB (oc_lenU rfl) rfl (T.free 15) bt_len (oa_cons (ov 12) oa_nil)) oe_int (nomark _)) (ow_or1 (ot_cmp (oo_notInU hr.units) (oe_ixU hr.units (ov 12) oe_int (fun _ _ => rfl)) (ov 7) (by rfl)))))) (oss_one (os_ret oe_bl)) oss_nil)
  (oss_cons (os_set (i := 13) sc_law.nd rfl (Or.inl rfl) (oe_ixU hr.units (ov 7) (oe_ixU hr.units (ov 12) oe_int (fun _ _ => rfl)) (fun _ _ => rfl)))
  (oss_one (os_if (OW.ot (ow_or (ot_not (ot_val (oe_callK B_alike1 (hr.mono (by decide)) rfl pass0 (oa_cons (oe_sl (ov 12) op_none (op_some oe_int)) (oa_cons (oe_tup (oa_cons (oe_ixU hr.units (ov 12) oe_int (fun _ _ => rfl)) (oa_cons (oe_ixU hr.units (ov 13) oe_int (fun _ _ => rfl)) (oa_cons (oe_ixU hr.units (ov 13) oe_int (fun _ _ => rfl)) (oa_cons (oe_ixU hr.units (ov 13) oe_int (fun _ _ => rfl)) (oa_cons (oe_ixU hr.units (ov 13) oe_int (fun _ _ => rfl)) oa_nil)))))) oa_nil))))) (ow_or1 (ot_not (ot_val (oe_callK B_rate_right (hr.mono (by decide)) rfl pass0 (oa_cons (oe_ixU hr.units (ov 12) oe_int (fun _ _ => rfl)) (oa_cons (ov 13) oa_nil)))))))) (oss_one (os_ret oe_bl)) oss_nil)))))
  (oss_cons (os_if (ot_cmp (oo_ne hr.units) (oe_lenSet rfl rfl (T.free 15) rfl (T.free 27) (oe_lc (own := [("told", 12)]) rfl sc_law.nd (oi_seq (ov 11)) (blkOk_by (own := [("told", 12)]) (N := N_law) (sc := defScope s_law) (by decide +kernel)) (fun _ _ _ _ _ => (og_name (i := 12) sc_law.nd rfl (Or.inl rfl))) (fun _ _ _ _ _ => ots_nil) (fun _ _ _ _ _ => (oe_ixU hr.units (ov 12) oe_int (fun _ _ => rfl))) (by decide))) (oe_callB (oc_lenU rfl) rfl (T.free 15) bt_len (oa_cons (ov 11) oa_nil)) (nomark _)) (oss_one (os_ret oe_bl)) oss_nil)
  (oss_cons (os_if (ot_not (ot_val (oe_callB (oc_all rfl) rfl (T.free 25) bt_all (oa_cons (oe_lc (own := [("one", 14), ("other", 15)]) rfl sc_law.nd (oi_zipU rfl (T.free 22) (oa_cons (ov 11) (oa_cons (oe_sl (ov 11) (op_some oe_int) op_none) oa_nil))) (blkOk_by (own := [("one", 14), ("other", 15)]) (N := N_law) (sc := defScope s_law) (by decide +kernel)) (fun _ _ _ _ _ => (og_tup rfl (ogs_c (og_name (i := 14) sc_law.nd rfl (Or.inl rfl)) (ogs_c (og_name (i := 15) sc_law.nd rfl (Or.inl rfl)) ogs_nil)))) (fun _ _ _ _ _ => ots_nil) (fun _ _ _ _ _ => (oe_callK B_ahead (hr.mono (by decide)) rfl pass0 (oa_cons (ov 14) (oa_cons (ov 15) (oa_cons (ov 7) (oa_cons (ov 5) (oa_cons (ov 8) oa_nil))))))) (by decide)) oa_nil)))) (oss_one (os_ret oe_bl)) oss_nil)
  (oss_cons (os_if (ot_cmp (oo_eq hr.units) (ov 11) (oe_lst oa_nil) (nomark _)) (oss_one (os_ret oe_bl)) oss_nil)
  (oss_cons (os_set (i := 12) sc_law.nd rfl (Or.inl rfl) (oe_ixU hr.units (ov 11) (oe_callK B_take (hr.mono (by decide)) rfl pass0 (oa_cons (ov 1) (oa_cons (oe_callB (oc_lenU rfl) rfl (T.free 15) bt_len (oa_cons (ov 11) oa_nil)) oa_nil))) (fun _ _ => rfl)))
  (oss_one (os_ret (oe_and (oe_callK B_alike1 (hr.mono (by decide)) rfl pass0 (oa_cons (oe_callK B_rate_of (hr.mono (by decide)) rfl pass0 (oa_cons (oe_ixU hr.units (ov 10) oe_int (fun _ _ => rfl)) (oa_cons (oe_ixU hr.units (ov 12) oe_int (fun _ _ => rfl)) oa_nil))) (oa_cons (oe_ixU hr.units (ov 12) oe_int (fun _ _ => rfl)) oa_nil))) (oe_one (oe_cmp (oo_eq hr.units) (oe_ixU hr.units (ov 10) oe_int (fun _ _ => rfl)) (ov 6) (nomark _))))))))))))))))))))⟩) run_law
theorem ok_all {f : Addr} {fd : FuncData} (T : Top faL fnL K mg) (F : FunD K "law" "law" (defArgs s_law) (defBody s_law) (defScope s_law) [] [] f fd) : FnOk P w K mg base CX0 6 f fd ["script"] (spO K W_law) := by
  have K_common_part := ok_common_part (P := P) (w := w) (base := base) T 
  have K_lowest_terms := ok_lowest_terms (P := P) (w := w) (base := base) T K_common_part
  have K_box := ok_box (P := P) (w := w) (base := base) T 
  have K_take := ok_take (P := P) (w := w) (base := base) T 
  have K_alike0 := ok_alike0 (P := P) (w := w) (base := base) T 
  have K_alike1 := ok_alike1 (P := P) (w := w) (base := base) T K_alike0
  have K_league := ok_league (P := P) (w := w) (base := base) T K_take
  have K_sums := ok_sums (P := P) (w := w) (base := base) T 
  have K_rate_right := ok_rate_right (P := P) (w := w) (base := base) T 
  have K_ahead := ok_ahead (P := P) (w := w) (base := base) T 
  have K_Standing___init__ := ok_Standing___init__ (P := P) (w := w) (base := base) T 
  have K_Standing_take_game := ok_Standing_take_game (P := P) (w := w) (base := base) T 
  have K_standings := ok_standings (P := P) (w := w) (base := base) T K_Standing___init__ K_Standing_take_game
  have K_Standing_rate := ok_Standing_rate (P := P) (w := w) (base := base) T K_lowest_terms
  have K_rate_of := ok_rate_of (P := P) (w := w) (base := base) T K_standings K_Standing_rate
  have K_goes_ahead := ok_goes_ahead (P := P) (w := w) (base := base) T K_Standing_rate
  have K_standing := ok_standing (P := P) (w := w) (base := base) T K_standings K_goes_ahead K_Standing_rate
  exact okF_law T F K_box K_take K_league K_sums K_standing K_alike1 K_rate_right K_ahead K_rate_of
end
def names0 : List Str := ["__name__", "common_part", "lowest_terms", "Standing", "standings", "rate_of", "goes_ahead", "standing", "_law_box", "_law_take", "_law_alike", "_law_league", "_law_sums", "_law_rate_right", "_law_ahead"]
abbrev R : PySem.W.OpenRow := PySem.W.OpenLaw.row PySem.Challenge.rw_inningsbook_k88_whole_long_leagues
abbrev hk : PySem.W.Hook := He.hookD 5 faL fnL
def ob (s : PySem.W.SharedT) : He.AlD := He.obsDG 5 faL fnL (HandSHeadRun.getT s)
theorem ob_eq (s : PySem.W.SharedT) : ob s = hk.obs s.abs := He.obsDG_eq (HandSHeadRun.getT_eq s)
theorem run_top (w : World) : HandSHeadRun.RunEq R (PySem.W.view R.prog [16]) hk ob 20000 (names0) w := by
  intro os
  kernel_rfl
theorem facts {P : Program} {w : World} {K : PySem.W.Frag} {h : Heap} {mg : Str → Option Value} {f : Addr} (X : K.In h) (G : h.Ns mainGlobals mg) (hfa : mg ("law" : Str) = some (.ref f)) (c : He.SaysD faL fnL K) :
    ∃ fd : FuncData, (∀ (s : Shared) (v : Value), BindsTo s fd ⟨[v], []⟩ [("script", v)]) ∧ ∀ base : Heap, K.In base → base.Ns mainGlobals mg → FnOk P w K mg base CX0 6 f fd ["script"] (spO K W_law) := by
  have T : Top faL fnL K mg := ⟨c, h, X, G⟩
  obtain ⟨fd, F⟩ := c.def_ 14 (d := d_law) rfl
  have e := hfa.symm.trans (T.glo 13 (x := "law"))
  cases e
  have b := FunD.bindsA (ps := ["script"]) F fun _ _ _ _ _ _ us hl => match us, hl with | [_], _ => rfl
  exact ⟨fd, fun s v => b s [v] rfl, fun base _ _ => ok_all T F⟩
end Om
open PySem PySem.W PySem.Calls PyProof.Rows
set_option maxRecDepth 100000 in
set_option maxHeartbeats 0 in
theorem PySem.Challenge.cw_inningsbook_k88_whole_long_leagues_holds : PySem.Challenge.rw_inningsbook_k88_whole_long_leagues.Holds := by
  w_on; o_law
  refine HandSHeadRun.head_any (r := Om.R) (q := view Om.R.prog [16]) (H := Om.hk) (ob := Om.ob) (M := 20000) (loose := (Om.names0)) (d := HandSHeadRun.topDef Om.R.prog 16) (kwd := []) Om.ob_eq
    (by kernel_rfl) (fun s => by kernel_rfl) Om.run_top (by kernel_rfl) (by kernel_rfl) (by kernel_rfl) (by rfl) (by first | assumption | decide +kernel) (by decide +kernel) ⟨rfl, rfl, rfl, rfl, rfl, by decide +kernel⟩ ?hw ?hc
  case hw => w_witness2
  case hc =>
    refine L2.walk_ofE (l := PySem.Challenge.rw_inningsbook_k88_whole_long_leagues) (n := 63) (k := 6) (x := "script") (CX := L2.CX0) rfl (by decide) (by kernel_rfl) ⟨rfl, by decide, by decide⟩ ?F (fun _ _ _ _ z => z)
    intro w mg fa h Y G hmg0
    obtain ⟨K, KX, c⟩ := Y
    have hmg : mg ("law" : PySem.Str) = some (.ref fa) := by
      have e : (HandSHeadRun.topDef Om.R.prog 16).name = ("law" : PySem.Str) := by kernel_rfl
      rw [← e]
      exact hmg0
    obtain ⟨fd, hb, hF⟩ := Om.facts (P := Om.R.prog) (w := w) KX G hmg c
    exact ⟨K, fd, Om.spO K Om.W_law, KX, hb, fun H a ns hl _ hS => Om.law_true hl hS, hF⟩
