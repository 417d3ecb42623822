import PyProof.Rows.All
import Wide.All
import OpenK.AllK
import Wide.FinOn
import HandS.ForMost
import HandS.Zip
import HandS.TupAny
import HandS.Style
import HandS.IsInst
import HandS.Rev
import HandS.RevRange
import HandS.Deep
import PyProof.StrOps2
import HandS.Conv
import HandS.Walk
import HandS.Defaults
import HandS.WordsExc
import HandS.HeadHook1
import HandS.HeadHook2
import HandS.HeadEnd
import HandS.Evl
import KE.KStateDown
import Lean
import HandS.Head0
import HandS.Head1
import HandS.Head2
import PySem.Challenge.RW_inningsbook_k89_whole_long_tables
set_option Elab.async false
set_option linter.all false
set_option maxRecDepth 100000
set_option maxHeartbeats 8000000
/-! Om: a logic over plain data: S a value seen as data, Om the store of the things that may still change. -/
namespace Om
open PySem L2

inductive S where
  | non | bl (b : Bool) | int (i : Int) | str (x : Str) | ty (n : String)
  | lst (xs : List S) | tup (xs : List S) | dic (kvs : List (Key × S)) | adr (a : Addr)
  /-- a list that is read only: the script, one of the top's -/
  | wls (xs : List S)

inductive Cell where
  | lst (xs : List S) | dK (kvs : List (Key × S)) | dT (kvs : List (List Key × S)) | ins (C : Addr) (fs : List (Str × S))

abbrev Om := Addr → Option Cell
def put (Ω : Om) (a : Addr) (c : Cell) : Om := fun b => if b = a then some c else Ω b
def drp (Ω : Om) (a : Addr) : Om := fun b => if b = a then none else Ω b
theorem put_same {Ω : Om} {a : Addr} {c : Cell} : put Ω a c a = some c := if_pos rfl
theorem put_ne {Ω : Om} {a b : Addr} {c : Cell} (h : b ≠ a) : put Ω a c b = Ω b := if_neg h
theorem drp_same {Ω : Om} {a : Addr} : drp Ω a a = none := if_pos rfl
theorem drp_ne {Ω : Om} {a b : Addr} (h : b ≠ a) : drp Ω a b = Ω b := if_neg h
theorem put_put {Ω : Om} {a : Addr} {c d : Cell} : put (put Ω a c) a d = put Ω a d := by
  funext b; unfold put; split <;> rfl
theorem put_self {Ω : Om} {a : Addr} {c : Cell} (h : Ω a = some c) : put Ω a c = Ω := by
  funext b; unfold put; split
  · rename_i e; rw [e, h]
  · rfl
theorem put_comm {Ω : Om} {a b : Addr} {c d : Cell} (h : a ≠ b) : put (put Ω a c) b d = put (put Ω b d) a c := by
  funext x; unfold put
  by_cases h1 : x = a
  · subst h1; simp [h]
  · simp [h1]
theorem drp_put {Ω : Om} {a : Addr} {c : Cell} (h : Ω a = none) : drp (put Ω a c) a = Ω := by
  funext b; unfold drp put; split
  · rename_i e; rw [e, h]
  · rfl
theorem ne_put {Ω : Om} {a b : Addr} {c : Cell} (h : Ω a = some c) (h' : Ω b = none) : a ≠ b := by
  intro e; rw [e, h'] at h; cases h

/-- what may change: the hidden ones, and the store's -/
def mu (Z : Addr → Prop) (Ω : Om) : Addr → Prop := fun a => Z a ∨ Ω a ≠ none

mutual
inductive Rep (K : PySem.W.Frag) (N : Addr → Prop) (H : Hp) : V → S → Prop
  | non : Rep K N H .non .non
  | bl (b : Bool) : Rep K N H (.bl b) (.bl b)
  | int (i : Int) : Rep K N H (.int i) (.int i)
  | str (x : Str) : Rep K N H (.str x) (.str x)
  | ty (n : String) : Rep K N H (.ty n) (.ty n)
  | adr (a : Addr) : Rep K N H (.ref a) (.adr a)
  | lst {a : Addr} {xs : List V} {ss : List S} (h0 : ¬ N a) (h : H a = some (.lst xs)) (r : RepL K N H xs ss) : Rep K N H (.ref a) (.lst ss)
  | tup {a : Addr} {xs : List V} {ss : List S} (h0 : ¬ N a) (h : H a = some (.tup xs)) (r : RepL K N H xs ss) : Rep K N H (.ref a) (.tup ss)
  | sc {a : Addr} {xs : List V} {ss : List S} (h0 : ¬ N a) (h : Rd H a (.lst xs)) (r : RepL K N H xs ss) : Rep K N H (.ref a) (.wls ss)
  | wl {a : Addr} {xs : List V} {ss : List S} (h : ∀ H', SqL K H' a xs) (r : RepL K N H xs ss) : Rep K N H (.ref a) (.wls ss)
  | wt {a : Addr} {xs : List V} {ss : List S} (h : ∀ H', SqT K H' a xs) (r : RepL K N H xs ss) : Rep K N H (.ref a) (.tup ss)
  | dic {a : Addr} {ks : List (Key × V)} {kvs : List (Key × S)} (h0 : ¬ N a) (h : H a = some (.dK ks)) (e : ks.map (·.1) = kvs.map (·.1)) (r : RepL K N H (ks.map (·.2)) (kvs.map (·.2))) : Rep K N H (.ref a) (.dic kvs)
inductive RepL (K : PySem.W.Frag) (N : Addr → Prop) (H : Hp) : List V → List S → Prop
  | nil : RepL K N H [] []
  | cons {v : V} {s : S} {vs : List V} {ss : List S} (h : Rep K N H v s) (r : RepL K N H vs ss) : RepL K N H (v :: vs) (s :: ss)
end

section
variable {K : PySem.W.Frag} {N N' : Addr → Prop} {H H' : Hp}
theorem rd_keep {a : Addr} {u : HO} (k : ∀ o, H a = some o → H' a = some o) (h : Rd H a u) : Rd H' a u := by
  rcases h with h | ⟨o, h⟩
  · exact .inl (k _ h)
  · exact .inr ⟨o, k _ h⟩
theorem rd_some {a : Addr} {u : HO} (h : Rd H a u) : ∃ o, H a = some o := by
  rcases h with h | ⟨o, h⟩
  · exact ⟨_, h⟩
  · exact ⟨_, h⟩
mutual
/-- data stand where what is not to change stands -/
theorem Rep.keep (k : ∀ a o, H a = some o → ¬ N a → H' a = some o) (n : ∀ a o, H a = some o → ¬ N a → ¬ N' a) : ∀ {v : V} {s : S}, Rep K N H v s → Rep K N' H' v s
  | _, _, .non => .non
  | _, _, .bl b => .bl b
  | _, _, .int i => .int i
  | _, _, .str x => .str x
  | _, _, .ty x => .ty x
  | _, _, .adr a => .adr a
  | _, _, .lst h0 h r => .lst (n _ _ h h0) (k _ _ h h0) (RepL.keep k n r)
  | _, _, .sc h0 h r => .sc (let ⟨o, e⟩ := rd_some h; n _ o e h0) (rd_keep (fun o e => k _ o e h0) h) (RepL.keep k n r)
  | _, _, .tup h0 h r => .tup (n _ _ h h0) (k _ _ h h0) (RepL.keep k n r)
  | _, _, .wl h r => .wl h (RepL.keep k n r)
  | _, _, .wt h r => .wt h (RepL.keep k n r)
  | _, _, .dic h0 h e r => .dic (n _ _ h h0) (k _ _ h h0) e (RepL.keep k n r)
theorem RepL.keep (k : ∀ a o, H a = some o → ¬ N a → H' a = some o) (n : ∀ a o, H a = some o → ¬ N a → ¬ N' a) : ∀ {v : List V} {s : List S}, RepL K N H v s → RepL K N' H' v s
  | _, _, .nil => .nil
  | _, _, .cons h r => .cons (Rep.keep k n h) (RepL.keep k n r)
end
theorem RepL.length : ∀ {vs : List V} {ss : List S}, RepL K N H vs ss → vs.length = ss.length
  | _, _, .nil => rfl
  | _, _, .cons _ r => congrArg (· + 1) r.length
theorem RepL.get : ∀ {vs : List V} {ss : List S} {i : Nat} {s : S}, RepL K N H vs ss → ss[i]? = some s → ∃ v, vs[i]? = some v ∧ Rep K N H v s
  | _, _, 0, s, .cons h _, e => ⟨_, rfl, by simp at e; rw [← e]; exact h⟩
  | _, _, i + 1, s, .cons _ r, e => by
    obtain ⟨v, h1, h2⟩ := RepL.get (i := i) (s := s) r (by simpa using e)
    exact ⟨v, by simpa using h1, h2⟩
theorem RepL.getV : ∀ {vs : List V} {ss : List S} {i : Nat} {v : V}, RepL K N H vs ss → vs[i]? = some v → ∃ s, ss[i]? = some s ∧ Rep K N H v s
  | _, _, 0, v, .cons h _, e => ⟨_, rfl, by simp at e; rw [← e]; exact h⟩
  | _, _, i + 1, v, .cons _ r, e => by
    obtain ⟨s, h1, h2⟩ := RepL.getV (i := i) (v := v) r (by simpa using e)
    exact ⟨s, by simpa using h1, h2⟩
theorem RepL.append : ∀ {vs ws : List V} {ss ts : List S}, RepL K N H vs ss → RepL K N H ws ts → RepL K N H (vs ++ ws) (ss ++ ts)
  | _, _, _, _, .nil, q => q
  | _, _, _, _, .cons h r, q => .cons h (RepL.append r q)
theorem RepL.set {v : V} {s : S} (q : Rep K N H v s) : ∀ {vs : List V} {ss : List S} (i : Nat), RepL K N H vs ss → RepL K N H (vs.set i v) (ss.set i s)
  | _, _, _, .nil => .nil
  | _, _, 0, .cons _ r => .cons q r
  | _, _, i + 1, .cons h r => .cons h (RepL.set q i r)
theorem RepL.take : ∀ {vs : List V} {ss : List S} (n : Nat), RepL K N H vs ss → RepL K N H (vs.take n) (ss.take n)
  | _, _, 0, _ => .nil
  | _, _, _ + 1, .nil => .nil
  | _, _, n + 1, .cons h r => .cons h (RepL.take n r)
theorem RepL.drop : ∀ {vs : List V} {ss : List S} (n : Nat), RepL K N H vs ss → RepL K N H (vs.drop n) (ss.drop n)
  | _, _, 0, r => r
  | _, _, _ + 1, .nil => .nil
  | _, _, n + 1, .cons _ r => RepL.drop n r
theorem RepL.rev : ∀ {vs : List V} {ss : List S}, RepL K N H vs ss → RepL K N H vs.reverse ss.reverse
  | _, _, .nil => .nil
  | _, _, .cons h r => by
    rw [List.reverse_cons, List.reverse_cons]
    exact (RepL.rev r).append (.cons h .nil)
theorem RepL.ofInts : ∀ {ns : List Int}, RepL K N H (ns.map V.int) (ns.map S.int)
  | [] => .nil
  | n :: ns => .cons (.int n) RepL.ofInts
end

/-! ### the store over the heap -/
def CellRep (K : PySem.W.Frag) (N : Addr → Prop) (H : Hp) (a : Addr) : Cell → Prop
  | .lst ss => ∃ xs, H a = some (.lst xs) ∧ RepL K N H xs ss
  | .dK kvs => ∃ ks, H a = some (.dK ks) ∧ ks.map (·.1) = kvs.map (·.1) ∧ RepL K N H (ks.map (·.2)) (kvs.map (·.2))
  | .dT kvs => ∃ ks, H a = some (.dT ks) ∧ ks.map (·.1) = kvs.map (·.1) ∧ RepL K N H (ks.map (·.2)) (kvs.map (·.2))
  | .ins C fs => ∃ dx ks, H a = some (.ins C dx ks) ∧ ks.map (·.1) = fs.map (·.1) ∧ RepL K N H (ks.map (·.2)) (fs.map (·.2))
theorem CellRep.ex {K : PySem.W.Frag} {N : Addr → Prop} {H : Hp} {a : Addr} {c : Cell} (h : CellRep K N H a c) : ∃ o, H a = some o := by
  cases c with
  | lst ss => obtain ⟨xs, h, _⟩ := h; exact ⟨_, h⟩
  | dK ss => obtain ⟨xs, h, _⟩ := h; exact ⟨_, h⟩
  | dT ss => obtain ⟨xs, h, _⟩ := h; exact ⟨_, h⟩
  | ins C ss => obtain ⟨d, xs, h, _⟩ := h; exact ⟨_, h⟩
theorem CellRep.keep {K : PySem.W.Frag} {N N' : Addr → Prop} {H H' : Hp} {a : Addr} {c : Cell} (h : CellRep K N H a c) (e : ∀ o, H a = some o → H' a = some o)
    (k : ∀ a o, H a = some o → ¬ N a → H' a = some o) (n : ∀ a o, H a = some o → ¬ N a → ¬ N' a) : CellRep K N' H' a c := by
  cases c with
  | lst ss => obtain ⟨xs, h, r⟩ := h; exact ⟨xs, e _ h, r.keep k n⟩
  | dK ss => obtain ⟨xs, h, q, r⟩ := h; exact ⟨xs, e _ h, q, r.keep k n⟩
  | dT ss => obtain ⟨xs, h, q, r⟩ := h; exact ⟨xs, e _ h, q, r.keep k n⟩
  | ins C ss => obtain ⟨d, xs, h, q, r⟩ := h; exact ⟨d, xs, e _ h, q, r.keep k n⟩

/-- the store as it stands in the heap; the hidden ones stand, and are none of the store's -/
structure Ok (K : PySem.W.Frag) (Z : Addr → Prop) (Ω : Om) (H : Hp) : Prop where
  cells : ∀ a c, Ω a = some c → CellRep K (mu Z Ω) H a c
  hid : ∀ a, Z a → Ω a = none ∧ ∃ o, H a = some o
/-- from one store and heap to later ones -/
structure Frm (Ω : Om) (H : Hp) (Ω' : Om) (H' : Hp) : Prop where
  keep : ∀ a o, H a = some o → Ω a = none → H' a = some o
  dom : ∀ a, Ω' a ≠ none → Ω a ≠ none ∨ H a = none
def gt : List (Option S) → Nat → Option S
  | [], _ => none
  | x :: _, 0 => x
  | _ :: r, n + 1 => gt r n
def st : List (Option S) → Nat → Option S → List (Option S)
  | [], _, _ => []
  | _ :: r, 0, s => s :: r
  | x :: r, n + 1, s => x :: st r n s
structure Env (K : PySem.W.Frag) (Z : Addr → Prop) (Ω : Om) (H : Hp) (σ : L2.St) (Γ : List (Option S)) : Prop where
  len : σ.length = Γ.length
  at_ : ∀ i s, gt Γ i = some s → ∃ v, σ[i]? = some (some v) ∧ Rep K (mu Z Ω) H v s

section
variable {K : PySem.W.Frag} {Z : Addr → Prop} {Ω Ω1 Ω2 : Om} {H H1 H2 : Hp} {σ : L2.St} {Γ : List (Option S)}
theorem Frm.refl : Frm Ω H Ω H := ⟨fun _ _ h _ => h, fun _ h => .inl h⟩
theorem no_some {α : Type} {o : Option α} (h : ¬ o ≠ none) : o = none := by
  cases o with
  | none => rfl
  | some x => exact absurd (by simp) h
theorem Frm.trans (f : Frm Ω H Ω1 H1) (g : Frm Ω1 H1 Ω2 H2) : Frm Ω H Ω2 H2 := by
  refine ⟨fun a o h h0 => ?_, fun a h => ?_⟩
  · refine g.keep a o (f.keep a o h h0) ?_
    refine no_some fun h1 => ?_
    rcases f.dom a h1 with q | q
    · exact q h0
    · rw [q] at h; cases h
  · rcases g.dom a h with q | q
    · exact f.dom a q
    · by_cases h0 : Ω a = none
      · cases e : H a with
        | none => exact .inr rfl
        | some o => rw [f.keep a o e h0] at q; cases q
      · exact .inl h0
theorem Frm.mut (f : Frm Ω H Ω1 H1) (zo : Ok K Z Ω H) : ∀ a o, H a = some o → ¬ mu Z Ω a → ¬ mu Z Ω1 a := fun a o e h q => by
  rcases q with q | q
  · exact h (.inl q)
  · rcases f.dom a q with q | q
    · exact h (.inr q)
    · rw [q] at e; cases e
theorem Frm.rep {v : V} {s : S} (f : Frm Ω H Ω1 H1) (o : Ok K Z Ω H) (r : Rep K (mu Z Ω) H v s) : Rep K (mu Z Ω1) H1 v s :=
  r.keep (fun a o e h => f.keep a o e (no_some fun q => h (.inr q))) (f.mut o)
theorem Frm.repL {v : List V} {s : List S} (f : Frm Ω H Ω1 H1) (o : Ok K Z Ω H) (r : RepL K (mu Z Ω) H v s) : RepL K (mu Z Ω1) H1 v s :=
  r.keep (fun a o e h => f.keep a o e (no_some fun q => h (.inr q))) (f.mut o)
theorem Env.frm (e : Env K Z Ω H σ Γ) (f : Frm Ω H Ω1 H1) (o : Ok K Z Ω H) : Env K Z Ω1 H1 σ Γ :=
  ⟨e.len, fun i s h => let ⟨v, h1, h2⟩ := e.at_ i s h; ⟨v, h1, f.rep o h2⟩⟩
theorem gt_lt : ∀ {Γ : List (Option S)} {i : Nat} {s : S}, gt Γ i = some s → i < Γ.length
  | [], _, _, h => by cases h
  | _ :: _, 0, _, _ => Nat.succ_pos _
  | _ :: r, i + 1, s, h => Nat.succ_lt_succ (gt_lt (Γ := r) h)
theorem st_len : ∀ {Γ : List (Option S)} {i : Nat} {s : Option S}, (st Γ i s).length = Γ.length
  | [], _, _ => rfl
  | _ :: _, 0, _ => rfl
  | _ :: r, i + 1, s => congrArg (· + 1) (st_len (Γ := r))
theorem gt_st : ∀ {Γ : List (Option S)} {i j : Nat} {s : Option S} {u : S}, gt (st Γ i s) j = some u → (i = j ∧ s = some u) ∨ (i ≠ j ∧ gt Γ j = some u)
  | [], _, _, _, _, h => by cases h
  | x :: r, 0, 0, s, u, h => .inl ⟨rfl, h⟩
  | x :: r, 0, j + 1, s, u, h => .inr ⟨by omega, h⟩
  | x :: r, i + 1, 0, s, u, h => .inr ⟨by omega, h⟩
  | x :: r, i + 1, j + 1, s, u, h => by
    rcases gt_st (Γ := r) (i := i) (j := j) (s := s) (u := u) h with ⟨a, b⟩ | ⟨a, b⟩
    · exact .inl ⟨by omega, b⟩
    · exact .inr ⟨by omega, b⟩
theorem Env.set {i : Nat} {v : V} {s : S} (e : Env K Z Ω H σ Γ) (r : Rep K (mu Z Ω) H v s) : Env K Z Ω H (σ.set i (some v)) (st Γ i (some s)) := by
  refine ⟨by rw [List.length_set, st_len]; exact e.len, fun j u h => ?_⟩
  have hl : j < Γ.length := by
    have := gt_lt h
    rwa [st_len] at this
  rcases gt_st h with ⟨rfl, e2⟩ | ⟨ne, e2⟩
  · cases e2
    exact ⟨v, by rw [List.getElem?_set_self (by rw [e.len]; exact hl)], r⟩
  · obtain ⟨w, h1, h2⟩ := e.at_ j u e2
    exact ⟨w, by rw [List.getElem?_set_ne ne]; exact h1, h2⟩
theorem Env.unset {i : Nat} (e : Env K Z Ω H σ Γ) : Env K Z Ω H (σ.set i none) (st Γ i none) := by
  refine ⟨by rw [List.length_set, st_len]; exact e.len, fun j u h => ?_⟩
  rcases gt_st h with ⟨rfl, e2⟩ | ⟨ne, e2⟩
  · cases e2
  · obtain ⟨w, h1, h2⟩ := e.at_ j u e2
    exact ⟨w, by rw [List.getElem?_set_ne ne]; exact h1, h2⟩

/-! ### a new thing, left as data | a new thing of the store | a thing of the store changed | a thing of the store let go -/
theorem Ok.fresh {p : Addr} (o : Ok K Z Ω H) (hp : H p = none) : ¬ mu Z Ω p := by
  rintro (h | h)
  · obtain ⟨_, x, e⟩ := o.hid p h
    rw [hp] at e; cases e
  · cases e : Ω p with
    | none => exact h e
    | some c =>
      obtain ⟨x, e2⟩ := CellRep.ex (o.cells p c e)
      rw [hp] at e2; cases e2
theorem Ok.freshO {p : Addr} (o : Ok K Z Ω H) (hp : H p = none) : Ω p = none := no_some fun q => o.fresh hp (.inr q)
theorem frm_new {p : Addr} {u : HO} (hp : H p = none) : Frm Ω H Ω (upd H p u) :=
  ⟨fun a o e _ => by rw [upd_ne (ne_of_none e hp)]; exact e, fun _ h => .inl h⟩
theorem Ok.new {p : Addr} {u : HO} (o : Ok K Z Ω H) (hp : H p = none) : Ok K Z Ω (upd H p u) := by
  refine ⟨fun a c h => ?_, fun a h => ?_⟩
  · exact CellRep.keep (o.cells a c h) (fun x e => by rw [upd_ne (ne_of_none e hp)]; exact e) (fun b x e _ => by rw [upd_ne (ne_of_none e hp)]; exact e) fun _ _ _ q => q
  · obtain ⟨h1, x, e⟩ := o.hid a h
    exact ⟨h1, x, by rw [upd_ne (ne_of_none e hp)]; exact e⟩
theorem mu_put {a : Addr} {c : Cell} {b : Addr} (h : ¬ mu Z Ω b) (ne : b ≠ a) : ¬ mu Z (put Ω a c) b := by
  rintro (q | q)
  · exact h (.inl q)
  · rw [put_ne ne] at q; exact h (.inr q)
theorem frm_cell {p : Addr} {u : HO} {c : Cell} (hp : H p = none) : Frm Ω H (put Ω p c) (upd H p u) := by
  refine ⟨fun a o e _ => by rw [upd_ne (ne_of_none e hp)]; exact e, fun a h => ?_⟩
  by_cases e : a = p
  · exact .inr (by rw [e]; exact hp)
  · rw [put_ne e] at h; exact .inl h
theorem Ok.cell {p : Addr} {u : HO} {c : Cell} (o : Ok K Z Ω H) (hp : H p = none) (r : CellRep K (mu Z (put Ω p c)) (upd H p u) p c) : Ok K Z (put Ω p c) (upd H p u) := by
  refine ⟨fun a d h => ?_, fun a h => ?_⟩
  · by_cases e : a = p
    · subst e
      rw [put_same] at h
      cases h
      exact r
    · rw [put_ne e] at h
      exact CellRep.keep (o.cells a d h) (fun x e => by rw [upd_ne (ne_of_none e hp)]; exact e) (fun b x e _ => by rw [upd_ne (ne_of_none e hp)]; exact e) fun b x e q => mu_put q (ne_of_none e hp)
  · obtain ⟨h1, x, e⟩ := o.hid a h
    exact ⟨by rw [put_ne (ne_of_none e hp)]; exact h1, x, by rw [upd_ne (ne_of_none e hp)]; exact e⟩
theorem frm_mut {a : Addr} {u : HO} {c d : Cell} (ha : Ω a = some c) : Frm Ω H (put Ω a d) (upd H a u) := by
  refine ⟨fun b o e h => by rw [upd_ne (fun q => by rw [q, ha] at h; cases h)]; exact e, fun b h => ?_⟩
  by_cases e : b = a
  · exact .inl (by rw [e, ha]; simp)
  · rw [put_ne e] at h; exact .inl h
theorem mu_same {a : Addr} {c d : Cell} (ha : Ω a = some c) : mu Z (put Ω a d) = mu Z Ω := by
  funext b
  unfold mu
  by_cases e : b = a
  · subst e; rw [put_same, ha]; simp
  · rw [put_ne e]
theorem Ok.mut {a : Addr} {u : HO} {c d : Cell} (o : Ok K Z Ω H) (ha : Ω a = some c) (r : CellRep K (mu Z Ω) (upd H a u) a d) : Ok K Z (put Ω a d) (upd H a u) := by
  refine ⟨fun b e h => ?_, fun b h => ?_⟩
  · rw [mu_same ha]
    by_cases q : b = a
    · subst q
      rw [put_same] at h
      cases h
      exact r
    · rw [put_ne q] at h
      exact CellRep.keep (o.cells b e h) (fun x e => by rw [upd_ne q]; exact e) (fun z x e n => by rw [upd_ne (fun w => n (.inr (by rw [w, ha]; simp)))]; exact e) fun _ _ _ n => n
  · obtain ⟨h1, x, e⟩ := o.hid b h
    have q : b ≠ a := fun w => by rw [w, ha] at h1; cases h1
    exact ⟨by rw [put_ne q]; exact h1, x, by rw [upd_ne q]; exact e⟩
theorem repL_upd {a : Addr} {u : HO} {c : Cell} {vs : List V} {ss : List S} (ha : Ω a = some c) (r : RepL K (mu Z Ω) H vs ss) : RepL K (mu Z Ω) (upd H a u) vs ss :=
  r.keep (fun b x e n => by rw [upd_ne (fun w => n (.inr (by rw [w, ha]; simp)))]; exact e) fun _ _ _ n => n
theorem mu_drp {a b : Addr} (h : ¬ mu Z Ω b) : ¬ mu Z (drp Ω a) b := by
  rintro (q | q)
  · exact h (.inl q)
  · by_cases e : b = a
    · rw [e, drp_same] at q; exact q rfl
    · rw [drp_ne e] at q; exact h (.inr q)
theorem Ok.drp {a : Addr} (o : Ok K Z Ω H) : Ok K Z (drp Ω a) H := by
  refine ⟨fun b c h => ?_, fun b h => ?_⟩
  · by_cases e : b = a
    · rw [e, drp_same] at h; cases h
    · rw [drp_ne e] at h
      exact CellRep.keep (o.cells b c h) (fun _ e => e) (fun _ _ e _ => e) fun _ _ _ q => mu_drp q
  · obtain ⟨h1, x⟩ := o.hid b h
    refine ⟨?_, x⟩
    by_cases e : b = a
    · rw [e, drp_same]
    · rw [drp_ne e]; exact h1
theorem frm_drp {a : Addr} : Frm Ω H (drp Ω a) H := ⟨fun _ _ e _ => e, fun b h => by
  by_cases e : b = a
  · rw [e, drp_same] at h; exact absurd rfl h
  · rw [drp_ne e] at h; exact .inl h⟩
end
end Om
/-! Om: readings over plain data, one rule a construct. -/
namespace Om
open PySem L2
open PyProof.Rows (b2i)

abbrev Ga := List (Option S)
abbrev WP := S → Om → Prop
abbrev WE := Ga → Om → WP → Prop
abbrev WA := Ga → Om → (List S → Om → Prop) → Prop
abbrev WT := Ga → Om → (Bool → Om → Prop) → Prop
abbrev W2 := S → S → Om → WP → Prop
abbrev W1 := S → Om → WP → Prop
abbrev WL := List S → Om → WP → Prop

/-- what a continuation over values must bear -/
def Fin (K : PySem.W.Frag) (Z : Addr → Prop) (Ω : Om) (H : Hp) (P : WP) (Q : VK) : Prop :=
  ∀ v s Ω' H', Ok K Z Ω' H' → Frm Ω H Ω' H' → Rep K (mu Z Ω') H' v s → P s Ω' → Q v H'
def SE (K : PySem.W.Frag) (t : TE) (w : WE) : Prop := ∀ Z σ H Γ Ω P Q, Ok K Z Ω H → Env K Z Ω H σ Γ → w Γ Ω P → Fin K Z Ω H P Q → t σ H Q
def ST (K : PySem.W.Frag) (t : TT) (w : WT) : Prop := ∀ Z σ H Γ Ω (P : Bool → Om → Prop) (Q : Bool → Hp → Prop), Ok K Z Ω H → Env K Z Ω H σ Γ → w Γ Ω P →
  (∀ b Ω' H', Ok K Z Ω' H' → Frm Ω H Ω' H' → P b Ω' → Q b H') → t σ H Q
def SA (K : PySem.W.Frag) (t : TA) (w : WA) : Prop := ∀ Z σ H Γ Ω (P : List S → Om → Prop) (Q : List V → Hp → Prop), Ok K Z Ω H → Env K Z Ω H σ Γ → w Γ Ω P →
  (∀ vs ss Ω' H', Ok K Z Ω' H' → Frm Ω H Ω' H' → RepL K (mu Z Ω') H' vs ss → P ss Ω' → Q vs H') → t σ H Q
def S2 (K : PySem.W.Frag) (r : R2) (o : W2) : Prop := ∀ Z H Ω x y a b P Q, Ok K Z Ω H → Rep K (mu Z Ω) H x a → Rep K (mu Z Ω) H y b → o a b Ω P → Fin K Z Ω H P Q → r x y H Q
def S1 (K : PySem.W.Frag) (r : V → Hp → VK → Prop) (o : W1) : Prop := ∀ Z H Ω x a P Q, Ok K Z Ω H → Rep K (mu Z Ω) H x a → o a Ω P → Fin K Z Ω H P Q → r x H Q
def SL (K : PySem.W.Frag) (r : List V → Hp → VK → Prop) (o : WL) : Prop := ∀ Z H Ω xs ss P Q, Ok K Z Ω H → RepL K (mu Z Ω) H xs ss → o ss Ω P → Fin K Z Ω H P Q → r xs H Q

structure OE (X : Cx) (e : Expr) (t : TE) (w : WE) : Prop where
  pe : PE X e t
  se : SE X.K t w
structure OT (X : Cx) (e : Expr) (t : TT) (w : WT) : Prop where
  pe : PT X e t
  se : ST X.K t w
structure OA (X : Cx) (es : List Expr) (t : TA) (w : WA) : Prop where
  pe : PA X es t
  se : SA X.K t w
structure OO (X : Cx) (f : Value → Value → Sem Value) (r : R2) (o : W2) : Prop where
  pe : OpR X f r
  se : S2 X.K r o
structure OC (X : Cx) (f : Value) (r : List V → Hp → VK → Prop) (o : WL) : Prop where
  pe : CallR X f r
  se : SL X.K r o

section
variable {K : PySem.W.Frag} {Z : Addr → Prop} {Ω Ω1 : Om} {H H1 : Hp} {P : WP} {Q : VK} {v : V} {s : S}
/-! ### ends -/
theorem Fin.now (k : Fin K Z Ω H P Q) (o : Ok K Z Ω H) (r : Rep K (mu Z Ω) H v s) (p : P s Ω) : Q v H := k v s Ω H o .refl r p
theorem Fin.frm (k : Fin K Z Ω H P Q) (f : Frm Ω H Ω1 H1) : Fin K Z Ω1 H1 P Q := fun v s Ω' H' o g r p => k v s Ω' H' o (f.trans g) r p
theorem Fin.lst {p : Addr} {xs : List V} {ss : List S} (k : Fin K Z Ω H P Q) (o : Ok K Z Ω H) (hp : H p = none) (r : RepL K (mu Z Ω) H xs ss) (q : P (.lst ss) Ω) : Q (.ref p) (upd H p (.lst xs)) :=
  k _ _ Ω _ (o.new hp) (frm_new hp) (.lst (o.fresh hp) upd_same ((frm_new hp).repL o r)) q
theorem Fin.tup {p : Addr} {xs : List V} {ss : List S} (k : Fin K Z Ω H P Q) (o : Ok K Z Ω H) (hp : H p = none) (r : RepL K (mu Z Ω) H xs ss) (q : P (.tup ss) Ω) : Q (.ref p) (upd H p (.tup xs)) :=
  k _ _ Ω _ (o.new hp) (frm_new hp) (.tup (o.fresh hp) upd_same ((frm_new hp).repL o r)) q
theorem Fin.cell {p : Addr} {xs : List V} {ss : List S} (k : Fin K Z Ω H P Q) (o : Ok K Z Ω H) (hp : H p = none) (r : RepL K (mu Z Ω) H xs ss) (q : P (.adr p) (put Ω p (.lst ss))) : Q (.ref p) (upd H p (.lst xs)) :=
  k _ _ _ _ (o.cell (c := .lst ss) hp ⟨xs, upd_same, (frm_cell hp).repL o r⟩) (frm_cell hp) (.adr p) q

/-! ### seeing values as what they are -/
def cellL : Option Cell → Option (List S)
  | some (.lst xs) => some xs
  | _ => none
def asL (Ω : Om) : S → Option (List S)
  | .lst xs => some xs
  | .wls xs => some xs
  | .adr a => cellL (Ω a)
  | _ => none
def asT : S → Option (List S)
  | .tup xs => some xs
  | _ => none
theorem asL_adr {a : Addr} {xs : List S} (h : Ω a = some (.lst xs)) : asL Ω (.adr a) = some xs := by
  show cellL (Ω a) = some xs
  rw [h] <;> rfl
theorem rep_L {ss : List S} (o : Ok K Z Ω H) (r : Rep K (mu Z Ω) H v s) (e : asL Ω s = some ss) : ∃ a xs, v = .ref a ∧ SqL K H a xs ∧ RepL K (mu Z Ω) H xs ss := by
  cases r with
  | lst h0 h r => cases e; exact ⟨_, _, rfl, .inl (.inl h), r⟩
  | sc h0 h r => cases e; exact ⟨_, _, rfl, .inl h, r⟩
  | wl h r => cases e; exact ⟨_, _, rfl, h H, r⟩
  | adr a =>
    have e : cellL (Ω a) = some ss := e
    cases h : Ω a with
    | none => rw [h] at e; cases e
    | some c =>
      rw [h] at e
      cases c with
      | lst xs =>
        cases e
        obtain ⟨ys, h1, h2⟩ := o.cells a _ h
        exact ⟨_, _, rfl, .inl (.inl h1), h2⟩
      | _ => cases e
  | _ => cases e
theorem rep_T {ss : List S} (r : Rep K (mu Z Ω) H v s) (e : asT s = some ss) : ∃ a xs, v = .ref a ∧ SqT K H a xs ∧ RepL K (mu Z Ω) H xs ss := by
  cases r with
  | tup h0 h r => cases e; exact ⟨_, _, rfl, .inl (.inl h), r⟩
  | wt h r => cases e; exact ⟨_, _, rfl, h H, r⟩
  | _ => cases e
def asQ (Ω : Om) (s : S) : Option (List S) := match asT s with
  | some xs => some xs
  | none => asL Ω s
theorem rep_Q {ss : List S} (o : Ok K Z Ω H) (r : Rep K (mu Z Ω) H v s) (e : asQ Ω s = some ss) : ∃ a xs, v = .ref a ∧ (SqL K H a xs ∨ SqT K H a xs) ∧ RepL K (mu Z Ω) H xs ss := by
  cases h : asT s with
  | some ys =>
    have e : some ys = some ss := by rw [← e]; unfold asQ; rw [h]
    obtain ⟨a, xs, e1, e2, e3⟩ := rep_T r h
    cases e
    exact ⟨a, xs, e1, .inr e2, e3⟩
  | none =>
    have e : asL Ω s = some ss := by rw [← e]; unfold asQ; rw [h]
    obtain ⟨a, xs, e1, e2, e3⟩ := rep_L o r e
    exact ⟨a, xs, e1, .inl e2, e3⟩
/-- lists that are tracked as such -/
def asM (Ω : Om) : S → Option (List S) := asL Ω
theorem rep_int {i : Int} (r : Rep K (mu Z Ω) H v (.int i)) : v = .int i := by cases r; rfl
theorem rep_bl {i : Bool} (r : Rep K (mu Z Ω) H v (.bl i)) : v = .bl i := by cases r; rfl
theorem rep_str {i : Str} (r : Rep K (mu Z Ω) H v (.str i)) : v = .str i := by cases r; rfl
theorem rep_ty {i : String} (r : Rep K (mu Z Ω) H v (.ty i)) : v = .ty i := by cases r; rfl
theorem rep_non (r : Rep K (mu Z Ω) H v .non) : v = .non := by cases r; rfl
theorem repL_map {α : Type} {f : α → S} {g : α → V} (h : ∀ x v, Rep K (mu Z Ω) H v (f x) → v = g x) : ∀ {l : List α} {vs : List V}, RepL K (mu Z Ω) H vs (l.map f) → vs = l.map g
  | [], _, .nil => rfl
  | x :: l, _, .cons r q => by rw [h x _ r, repL_map h (l := l) q]; rfl
theorem repL_ints {l : List Int} {vs : List V} (r : RepL K (mu Z Ω) H vs (l.map S.int)) : vs = l.map V.int := repL_map (fun _ _ q => rep_int q) r
theorem repL_bls {l : List Bool} {vs : List V} (r : RepL K (mu Z Ω) H vs (l.map S.bl)) : vs = l.map V.bl := repL_map (fun _ _ q => rep_bl q) r
theorem repL_strs {l : List Str} {vs : List V} (r : RepL K (mu Z Ω) H vs (l.map S.str)) : vs = l.map V.str := repL_map (fun _ _ q => rep_str q) r
end

/-! ### data as a whole -/
mutual
def toD : S → PyData
  | .non => .none
  | .bl b => .bool b
  | .int i => .int i
  | .str x => .str x
  | .lst xs => .list (toDs xs)
  | .wls xs => .list (toDs xs)
  | .tup xs => .tuple (toDs xs)
  | _ => .none
def toDs : List S → List PyData
  | [] => []
  | x :: xs => toD x :: toDs xs
end
mutual
/-- nothing but data -/
def flat : S → Bool
  | .non | .bl _ | .int _ | .str _ => true
  | .lst xs | .wls xs | .tup xs => flats xs
  | _ => false
def flats : List S → Bool
  | [] => true
  | x :: xs => flat x && flats xs
end
section
variable {K : PySem.W.Frag} {N : Addr → Prop} {H : Hp}
mutual
theorem rep_D : ∀ {v : V} {s : S}, Rep K N H v s → flat s = true → Dp K H v (toD s)
  | _, _, .non, _ => .non
  | _, _, .bl b, _ => .bl b
  | _, _, .int i, _ => .int i
  | _, _, .str x, _ => .str x
  | _, _, .ty _, h => by cases h
  | _, _, .adr _, h => by cases h
  | _, _, .lst _ h r, f => .lst (.inl (.inl h)) (rep_Ds r f)
  | _, _, .sc _ h r, f => .lst (.inl h) (rep_Ds r f)
  | _, _, .tup _ h r, f => .tup (.inl (.inl h)) (rep_Ds r f)
  | _, _, .wl h r, f => .lst (h H) (rep_Ds r f)
  | _, _, .wt h r, f => .tup (h H) (rep_Ds r f)
  | _, _, .dic _ _ _ _, h => by cases h
theorem rep_Ds : ∀ {v : List V} {s : List S}, RepL K N H v s → flats s = true → DpAll K H v (toDs s)
  | _, _, .nil, _ => .nil
  | _, _, .cons h r, f => .cons (rep_D h (Bool.and_eq_true_iff.mp f).1) (rep_Ds r (Bool.and_eq_true_iff.mp f).2)
end
end
/-- a thing that == may read -/
def eqOk (s : S) : Prop := flat s = true ∧ SeqAt.shaped (toD s) = true

/-! ### names and constants -/
def wVar (i : Nat) : WE := fun Γ Ω P => ∃ s, gt Γ i = some s ∧ P s Ω
def wC (s : S) : WE := fun _ Ω P => P s Ω
section
variable {X : Cx}
theorem ov (i : Nat) {x : Str} {pos : Pos} (hN : X.N[i]? = some x := by rfl) (hv : Vis X.env.scope x := by first | exact Or.inl rfl | exact Or.inr (Or.inl rfl) | exact Or.inr (Or.inr rfl)) (hd : (x == ("__debug__" : Str)) = false := by decide)
    (hcd : (x == ("__classdict__" : Str)) = false := by decide) : OE X (.Name x pos) (tVar i) (wVar i) :=
  ⟨pe_var hN hv hd hcd, fun Z σ H Γ Ω P Q o e ⟨s, h1, p⟩ k => by
    obtain ⟨v, h2, r⟩ := e.at_ i s h1
    exact ⟨v, h2, k.now o r p⟩⟩
theorem se_c {K : PySem.W.Frag} {v : V} {s : S} (h : ∀ N H, Rep K N H v s) : SE K (tC v) (wC s) := fun Z σ H Γ Ω P Q o e p k => k.now o (h _ _) p
theorem oe_int {i j pos} : OE X (.Constant (.int i) j pos) (tC (.int i)) (wC (.int i)) := ⟨pe_int, se_c fun _ _ => .int i⟩
theorem oe_bl {b j pos} : OE X (.Constant (.bool b) j pos) (tC (.bl b)) (wC (.bl b)) := ⟨pe_bl, se_c fun _ _ => .bl b⟩
theorem oe_non {j pos} : OE X (.Constant .none j pos) (tC .non) (wC .non) := ⟨pe_non, se_c fun _ _ => .non⟩
theorem oe_str {x j pos} : OE X (.Constant (.str x) j pos) (tC (.str x)) (wC (.str x)) := ⟨pe_str, se_c fun _ _ => .str x⟩
theorem oe_ty {x : Str} {n : String} {pos : Pos} (hg : Gl X x) (hm : X.mg x = none) (hv : bootBuiltins x = some (.type n)) (hn : x ≠ "__name__" := by decide) (hd : (x == ("__debug__" : Str)) = false := by decide) :
    OE X (.Name x pos) (tC (.ty n)) (wC (.ty n)) := ⟨pe_bltn hg hm hv rfl hn hd, se_c fun _ _ => .ty n⟩
/-- a module's constant -/
theorem oe_glob {x : Str} {v : V} {u : Value} {s : S} {pos : Pos} (hg : Gl X x) (hm : X.mg x = some u) (r : RelV v u) (q : ∀ N H, Rep X.K N H v s) (hd : (x == ("__debug__" : Str)) = false := by decide) : OE X (.Name x pos) (tC v) (wC s) :=
  ⟨pe_glob hg hm r hd, se_c q⟩

/-! ### operators -/
def wOp (o : W2) (wa wb : WE) : WE := fun Γ Ω P => wa Γ Ω fun s Ω1 => wb Γ Ω1 fun s2 Ω2 => o s s2 Ω2 P
def wUn (o : W1) (wa : WE) : WE := fun Γ Ω P => wa Γ Ω fun s Ω1 => o s Ω1 P
theorem se_op {K : PySem.W.Frag} {r : R2} {o : W2} {ta tb : TE} {wa wb : WE} (hr : S2 K r o) (ha : SE K ta wa) (hb : SE K tb wb) : SE K (tOp r ta tb) (wOp o wa wb) := by
  intro Z σ H Γ Ω P Q ok e w k
  refine ha Z σ H Γ Ω _ _ ok e w fun x a Ω1 H1 o1 f1 r1 w1 => ?_
  refine hb Z σ H1 Γ Ω1 _ _ o1 (e.frm f1 ok) w1 fun y b Ω2 H2 o2 f2 r2 w2 => ?_
  exact hr Z H2 Ω2 x y a b P Q o2 (f2.rep o1 r1) r2 w2 (k.frm (f1.trans f2))
theorem oe_op {op : Operator} {r : R2} {o : W2} {a b : Expr} {ta tb : TE} {wa wb : WE} {pos : Pos} (ho : OO X (binaryOp op) r o) (ha : OE X a ta wa) (hb : OE X b tb wb) : OE X (.BinOp a op b pos) (tOp r ta tb) (wOp o wa wb) :=
  ⟨pe_op ho.pe ha.pe hb.pe, se_op ho.se ha.se hb.se⟩
theorem oe_cmp {op : CmpOp} {r : R2} {o : W2} {a b : Expr} {ta tb : TE} {wa wb : WE} {pos : Pos} (ho : OO X (compareOp op) r o) (ha : OE X a ta wa) (hb : OE X b tb wb) (hm : behindInMarks op b = false) : OE X (.Compare a [op] [b] pos) (tOp r ta tb) (wOp o wa wb) :=
  ⟨pe_cmpR ho.pe ha.pe hb.pe hm, se_op ho.se ha.se hb.se⟩
def wTest (we : WE) : WT := fun Γ Ω P => we Γ Ω fun s Ω1 => ∃ b, s = .bl b ∧ P b Ω1
theorem st_test {K : PySem.W.Frag} {t : TE} {w : WE} (h : SE K t w) : ST K (tTest t) (wTest w) := fun Z σ H Γ Ω P Q ok e ww k =>
  h Z σ H Γ Ω _ _ ok e ww fun x a Ω1 H1 o1 f1 r1 ⟨b, eb, p⟩ => by
    subst eb
    exact ⟨b, rep_bl r1, k b Ω1 H1 o1 f1 p⟩
theorem ot_cmp {op : CmpOp} {r : R2} {o : W2} {a b : Expr} {ta tb : TE} {wa wb : WE} {pos : Pos} (ho : OO X (compareOp op) r o) (ha : OE X a ta wa) (hb : OE X b tb wb) (hm : behindInMarks op b = false) : OT X (.Compare a [op] [b] pos) (tTest (tOp r ta tb)) (wTest (wOp o wa wb)) :=
  ⟨pt_cmpR ho.pe ha.pe hb.pe hm, st_test (se_op ho.se ha.se hb.se)⟩
theorem se_neg {i : Int} {pos p2 : Pos} {j} : OE X (.UnaryOp .USub (.Constant (.int i) j p2) pos) (tUn (rU fun i => .int (-i)) (tC (.int i))) (wC (.int (-i))) :=
  ⟨pe_un un_neg pe_int, fun Z σ H Γ Ω P Q o e p k => ⟨i, rfl, k.now o (.int _) p⟩⟩
/-- ints in, under C -/
def oI (C : Int → Int → Prop) (g : Int → Int → S) : W2 := fun a b Ω P => ∃ i j, a = .int i ∧ b = .int j ∧ C i j ∧ P (g i j) Ω
theorem s2_I {K : PySem.W.Frag} {C : Int → Int → Prop} {g : Int → Int → V} {g' : Int → Int → S} (h : ∀ i j N H, Rep K N H (g i j) (g' i j)) : S2 K (rI C g) (oI C g') := fun Z H Ω x y a b P Q ok rx ry ⟨i, j, ea, eb, c, p⟩ k => by
  subst ea; subst eb
  exact ⟨i, j, rep_int rx, rep_int ry, c, k.now ok (h _ _ _ _) p⟩
theorem s2_I0 {K : PySem.W.Frag} {g : Int → Int → V} {g' : Int → Int → S} (h : ∀ i j N H, Rep K N H (g i j) (g' i j)) : S2 K (rI0 g) (oI (fun _ _ => True) g') := fun Z H Ω x y a b P Q ok rx ry ⟨i, j, ea, eb, c, p⟩ k => by
  subst ea; subst eb
  exact ⟨i, j, rep_int rx, rep_int ry, k.now ok (h _ _ _ _) p⟩
theorem S2.or {K : PySem.W.Frag} {r r' : R2} {o o' : W2} (h : S2 K r o) (h' : S2 K r' o') : S2 K (fun x y H Q => r x y H Q ∨ r' x y H Q) (fun a b Ω P => o a b Ω P ∨ o' a b Ω P) := fun Z H Ω x y a b P Q ok rx ry w k => by
  rcases w with w | w
  · exact .inl (h Z H Ω x y a b P Q ok rx ry w k)
  · exact .inr (h' Z H Ω x y a b P Q ok rx ry w k)
theorem OO.or {f : Value → Value → Sem Value} {r r' : R2} {o o' : W2} (h : OO X f r o) (h' : OO X f r' o') : OO X f (fun x y H Q => r x y H Q ∨ r' x y H Q) (fun a b Ω P => o a b Ω P ∨ o' a b Ω P) := ⟨h.pe.or h'.pe, h.se.or h'.se⟩
theorem OO.imp {f : Value → Value → Sem Value} {r : R2} {o o' : W2} (h : OO X f r o) (i : ∀ a b Ω P, o' a b Ω P → o a b Ω P) : OO X f r o' := ⟨h.pe, fun Z H Ω x y a b P Q ok rx ry w k => h.se Z H Ω x y a b P Q ok rx ry (i _ _ _ _ w) k⟩

def oAddS : W2 := fun a b Ω P => ∃ x y, a = .str x ∧ b = .str y ∧ x.length + y.length ≤ sizeLine ∧ P (.str (x ++ y)) Ω
def oCat : W2 := fun a b Ω P => ∃ xs ys, asL Ω a = some xs ∧ asL Ω b = some ys ∧ xs.length + ys.length ≤ sizeLine ∧ P (.lst (xs ++ ys)) Ω
def oCatT : W2 := fun a b Ω P => ∃ xs ys, a = .tup xs ∧ b = .tup ys ∧ xs.length + ys.length ≤ sizeLine ∧ P (.tup (xs ++ ys)) Ω
def oAddB : W2 := fun a b Ω P => ∃ i k, a = .int i ∧ b = .bl k ∧ P (.int (i + b2i k)) Ω
theorem oo_addI : OO X (binaryOp .Add) (rI0 fun i j => .int (i + j)) (oI (fun _ _ => True) fun i j => .int (i + j)) := ⟨op_add, s2_I0 fun _ _ _ _ => .int _⟩
theorem oo_sub : OO X (binaryOp .Sub) (rI0 fun i j => .int (i - j)) (oI (fun _ _ => True) fun i j => .int (i - j)) := ⟨op_sub, s2_I0 fun _ _ _ _ => .int _⟩
theorem oo_mulI : OO X (binaryOp .Mult) (rI CMul fun i j => .int (i * j)) (oI CMul fun i j => .int (i * j)) := ⟨op_mul, s2_I fun _ _ _ _ => .int _⟩
theorem oo_fdiv : OO X (binaryOp .FloorDiv) (rI CDiv fun i j => .int (i / j)) (oI CDiv fun i j => .int (i / j)) := ⟨op_fdiv, s2_I fun _ _ _ _ => .int _⟩
theorem oo_mod : OO X (binaryOp .Mod) (rI (fun _ j => 0 < j) fun i j => .int (i % j)) (oI (fun _ j => 0 < j) fun i j => .int (i % j)) := ⟨op_mod, s2_I fun _ _ _ _ => .int _⟩
theorem oo_pow : OO X (binaryOp .Pow) (rI CPow fun i j => .int (i ^ j.toNat)) (oI CPow fun i j => .int (i ^ j.toNat)) := ⟨op_pow, s2_I fun _ _ _ _ => .int _⟩
theorem oo_addS : OO X (binaryOp .Add) (fun x y H Q => ∃ i j, x = .str i ∧ y = .str j ∧ i.length + j.length ≤ sizeLine ∧ Q (.str (i ++ j)) H) oAddS := ⟨op_add_str, fun Z H Ω x y a b P Q ok rx ry ⟨i, j, ea, eb, c, p⟩ k => by
  subst ea; subst eb
  exact ⟨i, j, rep_str rx, rep_str ry, c, k.now ok (.str _) p⟩⟩
theorem oo_addB : OO X (binaryOp .Add) (fun x y H Q => ∃ i k, x = .int i ∧ y = .bl k ∧ Q (.int (i + b2i k)) H) oAddB := ⟨op_add_ib, fun Z H Ω x y a b P Q ok rx ry ⟨i, j, ea, eb, p⟩ k => by
  subst ea; subst eb
  exact ⟨i, j, rep_int rx, rep_bl ry, k.now ok (.int _) p⟩⟩
theorem oo_catT {K : PySem.W.Frag} (hK : X.K = K := by rfl) : OO X (binaryOp .Add) (rCatA K) oCatT := by
  subst hK
  exact ⟨op_catA, fun Z H Ω x y a b P Q ok rx ry ⟨i, j, ea, eb, c, p⟩ k => by
  subst ea; subst eb
  obtain ⟨a, xs, rfl, h1, r1⟩ := rep_T rx rfl
  obtain ⟨b, ys, rfl, h2, r2⟩ := rep_T ry rfl
  refine ⟨a, b, xs, ys, rfl, rfl, h1, h2, by rw [r1.length, r2.length]; exact c, fun e => ?_, fun _ e => ?_, fun _ _ p hp => ?_⟩
  · subst e
    cases r1
    exact k.now ok ry p
  · subst e
    cases r2
    rw [List.append_nil] at p
    exact k.now ok rx p
  · exact k.tup ok hp (r1.append r2) (by assumption)⟩
/-- list + list, both tracked as lists -/
def trkL (Ω : Om) : S → Prop
  | .lst _ => True
  | .adr a => ∃ xs, Ω a = some (.lst xs)
  | _ => False
end
end Om
/-! Om: more operators, tests, items, slices, calls of built-ins. -/
namespace Om
open PySem L2
open PyProof.Rows (b2i)
section
variable {K : PySem.W.Frag} {Z : Addr → Prop} {Ω Ω1 : Om} {H H1 : Hp} {P : WP} {Q : VK} {v : V} {s : S}
/-- a new list: left as data, or a thing of the store -/
def nw (ss : List S) (Ω : Om) (P : WP) : Prop := P (.lst ss) Ω ∨ ∀ p, Ω p = none → P (.adr p) (put Ω p (.lst ss))
theorem Fin.nw {p : Addr} {xs : List V} {ss : List S} (k : Fin K Z Ω H P Q) (o : Ok K Z Ω H) (hp : H p = none) (r : RepL K (mu Z Ω) H xs ss) (q : nw ss Ω P) : Q (.ref p) (upd H p (.lst xs)) := by
  rcases q with q | q
  · exact k.lst o hp r q
  · exact k.cell o hp r (q p (o.freshO hp))
/-- lists that stand as such -/
def asK (Ω : Om) : S → Option (List S)
  | .lst xs => some xs
  | .adr a => cellL (Ω a)
  | _ => none
theorem cellL_some {c : Option Cell} {ss : List S} (h : cellL c = some ss) : c = some (.lst ss) := by
  cases c with
  | none => cases h
  | some c =>
    cases c with
    | lst xs => cases h; rfl
    | _ => cases h
theorem rep_K {ss : List S} (o : Ok K Z Ω H) (r : Rep K (mu Z Ω) H v s) (e : asK Ω s = some ss) : ∃ a xs, v = .ref a ∧ H a = some (.lst xs) ∧ RepL K (mu Z Ω) H xs ss := by
  cases r with
  | lst h0 h r => cases e; exact ⟨_, _, rfl, h, r⟩
  | adr a =>
    have e : cellL (Ω a) = some ss := e
    obtain ⟨ys, h1, h2⟩ := o.cells a _ (cellL_some e)
    exact ⟨_, _, rfl, h1, h2⟩
  | _ => cases e
end
section
variable {X : Cx}
def oCatL : W2 := fun a b Ω P => ∃ xs ys, asK Ω a = some xs ∧ asK Ω b = some ys ∧ xs.length + ys.length ≤ sizeLine ∧ nw (xs ++ ys) Ω P
theorem oo_cat : OO X (binaryOp .Add) rCat oCatL := ⟨op_cat, fun Z H Ω x y a b P Q ok rx ry ⟨i, j, ea, eb, c, p⟩ k => by
  obtain ⟨l, xs, rfl, h1, r1⟩ := rep_K ok rx ea
  obtain ⟨m, ys, rfl, h2, r2⟩ := rep_K ok ry eb
  exact ⟨l, m, xs, ys, rfl, rfl, h1, h2, by rw [r1.length, r2.length]; exact c, fun p hp => k.nw ok hp (r1.append r2) (by assumption)⟩⟩
def oRepL : W2 := fun a b Ω P => ∃ xs i, asK Ω a = some xs ∧ b = .int i ∧ -(2 ^ 63) ≤ i ∧ i < 2 ^ 63 ∧ xs.length * i.toNat ≤ sizeLine ∧ nw (List.replicate i.toNat xs).flatten Ω P
theorem repL_rep {K : PySem.W.Frag} {N : Addr → Prop} {H : Hp} {vs : List V} {ss : List S} (r : RepL K N H vs ss) : ∀ n : Nat, RepL K N H (List.replicate n vs).flatten (List.replicate n ss).flatten
  | 0 => .nil
  | n + 1 => by
    rw [List.replicate_succ, List.replicate_succ, List.flatten_cons, List.flatten_cons]
    exact r.append (repL_rep r n)
theorem oo_rep : OO X (binaryOp .Mult) rRep oRepL := ⟨op_rep, fun Z H Ω x y a b P Q ok rx ry ⟨i, j, ea, eb, c1, c2, c3, p⟩ k => by
  subst eb
  obtain ⟨l, xs, rfl, h1, r1⟩ := rep_K ok rx ea
  exact ⟨l, j, xs, rfl, rep_int ry, h1, c1, c2, by rw [r1.length]; exact c3, fun p hp => k.nw ok hp (repL_rep r1 _) (by assumption)⟩⟩

/-! ### comparisons -/
def oB (g : Int → Int → Bool) : W2 := oI (fun _ _ => True) fun i j => .bl (g i j)
theorem oo_lt : OO X (compareOp .Lt) (rI0 fun i j => .bl (decide (i < j))) (oB fun i j => decide (i < j)) := ⟨op_lt, s2_I0 fun _ _ _ _ => .bl _⟩
theorem oo_le : OO X (compareOp .LtE) (rI0 fun i j => .bl (decide (i ≤ j))) (oB fun i j => decide (i ≤ j)) := ⟨op_le, s2_I0 fun _ _ _ _ => .bl _⟩
theorem oo_gt : OO X (compareOp .Gt) (rI0 fun i j => .bl (decide (j < i))) (oB fun i j => decide (j < i)) := ⟨op_gt, s2_I0 fun _ _ _ _ => .bl _⟩
theorem oo_ge : OO X (compareOp .GtE) (rI0 fun i j => .bl (decide (j ≤ i))) (oB fun i j => decide (j ≤ i)) := ⟨op_ge, s2_I0 fun _ _ _ _ => .bl _⟩
def oLtS : W2 := fun a b Ω P => ∃ x y, a = .str x ∧ b = .str y ∧ P (.bl (decide (x.cps.toList < y.cps.toList))) Ω
theorem oo_ltS : OO X (compareOp .Lt) (fun x y H Q => ∃ i j, x = .str i ∧ y = .str j ∧ Q (.bl (decide (i.cps.toList < j.cps.toList))) H) oLtS := ⟨op_lt_str, fun Z H Ω x y a b P Q ok rx ry ⟨i, j, ea, eb, p⟩ k => by
  subst ea; subst eb
  exact ⟨i, j, rep_str rx, rep_str ry, k.now ok (.bl _) p⟩⟩
/-- two scalars that == tells apart as data does -/
inductive Sca : S → S → Bool → Prop
  | nn : Sca .non .non true
  | ii (i j : Int) : Sca (.int i) (.int j) (decide (i = j))
  | bb (i j : Bool) : Sca (.bl i) (.bl j) (decide (i = j))
  | ss (i j : Str) : Sca (.str i) (.str j) (decide (i = j))
  | ns (j : Str) : Sca .non (.str j) false
  | sn (j : Str) : Sca (.str j) .non false
  | ni (j : Int) : Sca .non (.int j) false
  | in_ (j : Int) : Sca (.int j) .non false
  | nb (j : Bool) : Sca .non (.bl j) false
  | bn (j : Bool) : Sca (.bl j) .non false
  | is (i : Int) (j : Str) : Sca (.int i) (.str j) false
  | si (i : Int) (j : Str) : Sca (.str j) (.int i) false
theorem sca_of {K : PySem.W.Frag} {N : Addr → Prop} {H : Hp} {x y : V} {a b : S} {c : Bool} (h : Sca a b c) (rx : Rep K N H x a) (ry : Rep K N H y b) : scal x y = true ∧ decide (x = y) = c := by
  cases h with
  | nn => cases rx; cases ry; exact ⟨rfl, by simp⟩
  | ii => cases rx; cases ry; exact ⟨rfl, by simp⟩
  | bb => cases rx; cases ry; exact ⟨rfl, by simp⟩
  | ss => cases rx; cases ry; exact ⟨rfl, by simp⟩
  | ns => cases rx; cases ry; exact ⟨rfl, by simp⟩
  | sn => cases rx; cases ry; exact ⟨rfl, by simp⟩
  | ni => cases rx; cases ry; exact ⟨rfl, by simp⟩
  | in_ => cases rx; cases ry; exact ⟨rfl, by simp⟩
  | nb => cases rx; cases ry; exact ⟨rfl, by simp⟩
  | bn => cases rx; cases ry; exact ⟨rfl, by simp⟩
  | is => cases rx; cases ry; exact ⟨rfl, by simp⟩
  | si => cases rx; cases ry; exact ⟨rfl, by simp⟩
/-- == : of scalars; of data as a whole -/
def oEq : W2 := fun a b Ω P => (∃ c, Sca a b c ∧ P (.bl c) Ω) ∨ (eqOk a ∧ eqOk b ∧ P (.bl (PyData.eqv (toD a) (toD b))) Ω)
def oNe : W2 := fun a b Ω P => (∃ c, Sca a b c ∧ P (.bl (!c)) Ω) ∨ (eqOk a ∧ eqOk b ∧ P (.bl (!PyData.eqv (toD a) (toD b))) Ω)
theorem oo_eq {K : PySem.W.Frag} (hu : X.A.units + 64 < cLine) (hK : X.K = K := by rfl) : OO X (compareOp .Eq) (fun x y H Q => rEq x y H Q ∨ rEqD K x y H Q) oEq := by
  subst hK
  exact ⟨op_eq.or (op_eqD hu), fun Z H Ω x y a b P Q ok rx ry w k => by
  rcases w with ⟨c, h, p⟩ | ⟨h1, h2, p⟩
  · obtain ⟨e1, e2⟩ := sca_of h rx ry
    exact .inl ⟨e1, by rw [e2]; exact k.now ok (.bl _) p⟩
  · exact .inr ⟨_, _, rep_D rx h1.1, rep_D ry h2.1, h1.2, h2.2, k.now ok (.bl _) p⟩⟩
theorem oo_ne {K : PySem.W.Frag} (hu : X.A.units + 64 < cLine) (hK : X.K = K := by rfl) : OO X (compareOp .NotEq) (fun x y H Q => rNe x y H Q ∨ rNeD K x y H Q) oNe := by
  subst hK
  exact ⟨op_ne.or (op_neD hu), fun Z H Ω x y a b P Q ok rx ry w k => by
  rcases w with ⟨c, h, p⟩ | ⟨h1, h2, p⟩
  · obtain ⟨e1, e2⟩ := sca_of h rx ry
    exact .inl ⟨e1, by rw [e2]; exact k.now ok (.bl _) p⟩
  · exact .inr ⟨_, _, rep_D rx h1.1, rep_D ry h2.1, h1.2, h2.2, k.now ok (.bl _) p⟩⟩
/-- is None -/
def isN : S → Option Bool
  | .non => some true
  | .bl _ | .int _ | .str _ | .lst _ | .tup _ | .adr _ | .wls _ | .dic _ => some false
  | .ty _ => some false
def oIs : W2 := fun a b Ω P => b = .non ∧ ∃ c, isN a = some c ∧ P (.bl c) Ω
def oIsN : W2 := fun a b Ω P => b = .non ∧ ∃ c, isN a = some c ∧ P (.bl (!c)) Ω
theorem isN_of {K : PySem.W.Frag} {N : Addr → Prop} {H : Hp} {x : V} {a : S} {c : Bool} (h : isN a = some c) (r : Rep K N H x a) : decide (x = V.non) = c := by
  cases r <;> cases h <;> simp
theorem oo_is : OO X (compareOp .Is) (fun x y H Q => y = .non ∧ Q (.bl (decide (x = .non))) H) oIs := ⟨op_isN, fun Z H Ω x y a b P Q ok rx ry ⟨eb, c, h, p⟩ k => by
  subst eb
  exact ⟨rep_non ry, by rw [isN_of h rx]; exact k.now ok (.bl _) p⟩⟩
theorem oo_isN : OO X (compareOp .IsNot) (fun x y H Q => y = .non ∧ Q (.bl (!decide (x = .non))) H) oIsN := ⟨op_notN, fun Z H Ω x y a b P Q ok rx ry ⟨eb, c, h, p⟩ k => by
  subst eb
  exact ⟨rep_non ry, by rw [isN_of h rx]; exact k.now ok (.bl _) p⟩⟩
/-- in a list or tuple of scalars -/
def toV : S → V
  | .non => .non
  | .bl b => .bl b
  | .int i => .int i
  | .str x => .str x
  | .ty n => .ty n
  | _ => .flt 0
def scaS : S → Bool
  | .non | .bl _ | .int _ | .str _ => true
  | _ => false
theorem toV_of {K : PySem.W.Frag} {N : Addr → Prop} {H : Hp} {x : V} {a : S} (h : scaS a = true) (r : Rep K N H x a) : x = toV a ∧ flatV x = true := by
  cases r <;> first | exact ⟨rfl, rfl⟩ | cases h
theorem toV_all {K : PySem.W.Frag} {N : Addr → Prop} {H : Hp} : ∀ {xs : List V} {ss : List S}, ss.all scaS = true → RepL K N H xs ss → xs = ss.map toV ∧ xs.all flatV = true
  | _, _, _, .nil => ⟨rfl, rfl⟩
  | _, _, h, .cons r q => by
    rw [List.all_cons, Bool.and_eq_true] at h
    obtain ⟨e1, e2⟩ := toV_of h.1 r
    obtain ⟨e3, e4⟩ := toV_all h.2 q
    exact ⟨by rw [e1, e3]; rfl, by rw [List.all_cons, e2, e4]; rfl⟩
def oIn (neg : Bool) : W2 := fun a b Ω P => ∃ ss, asQ Ω b = some ss ∧ scaS a = true ∧ ss.all scaS = true ∧ P (.bl (if neg then !inV (toV a) (ss.map toV) else inV (toV a) (ss.map toV))) Ω
theorem s2_in {K : PySem.W.Frag} {neg : Bool} : S2 K (rIn K neg) (oIn neg) := fun Z H Ω x y a b P Q ok rx ry ⟨ss, e, h1, h2, p⟩ k => by
  obtain ⟨l, xs, rfl, hq, r⟩ := rep_Q ok ry e
  obtain ⟨e1, e2⟩ := toV_of h1 rx
  obtain ⟨e3, e4⟩ := toV_all h2 r
  exact ⟨l, xs, rfl, hq, e2, e4, by rw [e1, e3]; exact k.now ok (.bl _) p⟩
theorem oo_in {K : PySem.W.Frag} (hK : X.K = K := by rfl) : OO X (compareOp .In) (rIn K false) (oIn false) := by
  subst hK
  exact ⟨op_in_seq, s2_in⟩
theorem oo_notIn {K : PySem.W.Frag} (hK : X.K = K := by rfl) : OO X (compareOp .NotIn) (rIn K true) (oIn true) := by
  subst hK
  exact ⟨op_notIn_seq, s2_in⟩

/-! ### and, or, not, if else -/
def wAndV (wa wb : WE) : WE := fun Γ Ω P => wa Γ Ω fun s Ω1 => ∃ c, s = .bl c ∧ if c = true then wb Γ Ω1 P else P (.bl false) Ω1
def wOrV (wa wb : WE) : WE := fun Γ Ω P => wa Γ Ω fun s Ω1 => ∃ c, s = .bl c ∧ if c = true then P (.bl true) Ω1 else wb Γ Ω1 P
def wNotV (wa : WE) : WE := fun Γ Ω P => wa Γ Ω fun s Ω1 => ∃ c, s = .bl c ∧ P (.bl (!c)) Ω1
def wAnd (wa wb : WT) : WT := fun Γ Ω P => wa Γ Ω fun c Ω1 => if c = true then wb Γ Ω1 P else P false Ω1
def wOr (wa wb : WT) : WT := fun Γ Ω P => wa Γ Ω fun c Ω1 => if c = true then P true Ω1 else wb Γ Ω1 P
def wNot (wa : WT) : WT := fun Γ Ω P => wa Γ Ω fun c Ω1 => P (!c) Ω1
def wIf (wt : WT) (wa wb : WE) : WE := fun Γ Ω P => wt Γ Ω fun c Ω1 => if c = true then wa Γ Ω1 P else wb Γ Ω1 P
variable {a b c e : Expr} {rest : List Expr} {ta tb tc : TE} {wa wb wc : WE} {tt tu : TT} {wt wu : WT} {pos : Pos}
theorem oe_one {op} (h : OE X a ta wa) : OE X (.BoolOp op [a] pos) ta wa := ⟨pe_one h.pe, h.se⟩
theorem oe_and (ha : OE X a ta wa) (hb : OE X (.BoolOp .And (b :: rest) pos) tb wb) : OE X (.BoolOp .And (a :: b :: rest) pos) (tAndV ta tb) (wAndV wa wb) :=
  ⟨pe_and ha.pe hb.pe, fun Z σ H Γ Ω P Q ok e w k => ha.se Z σ H Γ Ω _ _ ok e w fun x s Ω1 H1 o1 f1 r1 ⟨c, ec, w1⟩ => by
    subst ec
    refine ⟨c, rep_bl r1, ?_⟩
    cases c with
    | true => exact hb.se Z σ H1 Γ Ω1 _ _ o1 (e.frm f1 ok) w1 (k.frm f1)
    | false => exact (k.frm f1).now o1 (.bl _) w1⟩
theorem oe_or (ha : OE X a ta wa) (hb : OE X (.BoolOp .Or (b :: rest) pos) tb wb) : OE X (.BoolOp .Or (a :: b :: rest) pos) (tOrV ta tb) (wOrV wa wb) :=
  ⟨pe_or ha.pe hb.pe, fun Z σ H Γ Ω P Q ok e w k => ha.se Z σ H Γ Ω _ _ ok e w fun x s Ω1 H1 o1 f1 r1 ⟨c, ec, w1⟩ => by
    subst ec
    refine ⟨c, rep_bl r1, ?_⟩
    cases c with
    | false => exact hb.se Z σ H1 Γ Ω1 _ _ o1 (e.frm f1 ok) w1 (k.frm f1)
    | true => exact (k.frm f1).now o1 (.bl _) w1⟩
theorem oe_not (ha : OE X a ta wa) : OE X (.UnaryOp .Not a pos) (tNotV ta) (wNotV wa) :=
  ⟨pe_not ha.pe, fun Z σ H Γ Ω P Q ok e w k => ha.se Z σ H Γ Ω _ _ ok e w fun x s Ω1 H1 o1 f1 r1 ⟨c, ec, w1⟩ => by
    subst ec
    exact ⟨c, rep_bl r1, (k.frm f1).now o1 (.bl _) w1⟩⟩
def wB (we : WE) : WT := wTest we
theorem ot_val {t : TE} {w : WE} (h : OE X e t w) (he : ∀ whole, isTrue e X.env whole = (do let v ← whole; standAt e.pos; holding [v] (truthy v)) := by intro _; rfl) : OT X e (tB t) (wTest w) :=
  ⟨pt_val h.pe he, st_test h.se⟩
theorem ot_not (h : OT X a tt wt) : OT X (.UnaryOp .Not a pos) (tNot tt) (wNot wt) :=
  ⟨pt_not h.pe, fun Z σ H Γ Ω P Q ok e w k => h.se Z σ H Γ Ω _ _ ok e w fun b Ω1 H1 o1 f1 p => k _ _ _ o1 f1 p⟩
structure OW (X : Cx) (e : Expr) (t : TT) (w : WT) : Prop where
  pe : PW X e t
  se : ST X.K t w
theorem OW.ot (h : OW X e tt wt) : OT X e tt wt := ⟨h.pe.pt, h.se⟩
theorem ow_and1 (h : OT X a tt wt) : OW X (.BoolOp .And [a] pos) tt wt := ⟨pw_and1 h.pe, h.se⟩
theorem ow_or1 (h : OT X a tt wt) : OW X (.BoolOp .Or [a] pos) tt wt := ⟨pw_or1 h.pe, h.se⟩
theorem st_ite {K : PySem.W.Frag} {Z : Addr → Prop} {σ : L2.St} {H : Hp} {Γ : Ga} {Ω : Om} {P : Bool → Om → Prop} {Q : Bool → Hp → Prop} (h : ST K tu wu) (o : Ok K Z Ω H) (e : Env K Z Ω H σ Γ) (w : wu Γ Ω P) (k : ∀ b Ω' H', Ok K Z Ω' H' → Frm Ω H Ω' H' → P b Ω' → Q b H') : tu σ H Q := h Z σ H Γ Ω P Q o e w k
theorem ow_and (ha : OT X a tt wt) (hb : OW X (.BoolOp .And (b :: rest) pos) tu wu) : OW X (.BoolOp .And (a :: b :: rest) pos) (tAnd tt tu) (wAnd wt wu) :=
  ⟨pw_and ha.pe hb.pe, fun Z σ H Γ Ω P Q ok e w k => ha.se Z σ H Γ Ω _ _ ok e w fun c Ω1 H1 o1 f1 w1 => by
    cases c with
    | true => exact st_ite hb.se o1 (e.frm f1 ok) w1 fun b Ω' H' o g p => k b Ω' H' o (f1.trans g) p
    | false => exact k false Ω1 H1 o1 f1 w1⟩
theorem ow_or (ha : OT X a tt wt) (hb : OW X (.BoolOp .Or (b :: rest) pos) tu wu) : OW X (.BoolOp .Or (a :: b :: rest) pos) (tOr tt tu) (wOr wt wu) :=
  ⟨pw_or ha.pe hb.pe, fun Z σ H Γ Ω P Q ok e w k => ha.se Z σ H Γ Ω _ _ ok e w fun c Ω1 H1 o1 f1 w1 => by
    cases c with
    | false => exact st_ite hb.se o1 (e.frm f1 ok) w1 fun b Ω' H' o g p => k b Ω' H' o (f1.trans g) p
    | true => exact k true Ω1 H1 o1 f1 w1⟩
theorem oe_if (hc : OT X c tt wt) (ha : OE X a ta wa) (hb : OE X b tb wb) : OE X (.IfExp c a b pos) (tIf tt ta tb) (wIf wt wa wb) :=
  ⟨pe_ifExp hc.pe ha.pe hb.pe, fun Z σ H Γ Ω P Q ok e w k => hc.se Z σ H Γ Ω _ _ ok e w fun c Ω1 H1 o1 f1 w1 => by
    cases c with
    | true => exact ha.se Z σ H1 Γ Ω1 _ _ o1 (e.frm f1 ok) w1 (k.frm f1)
    | false => exact hb.se Z σ H1 Γ Ω1 _ _ o1 (e.frm f1 ok) w1 (k.frm f1)⟩

/-! ### items and slices -/
def oIx : W2 := fun a b Ω P => (∃ xs i s, asQ Ω a = some xs ∧ b = .int i ∧ atI xs i = some s ∧ P s Ω) ∨ (∃ z i c, a = .str z ∧ b = .int i ∧ z.length ≤ sizeLine ∧ atI z.cps.toList i = some c ∧ P (.str ⟨#[c]⟩) Ω)
theorem atI_len {α β : Type} {xs : List α} {ys : List β} {i : Int} {y : β} (h : atI ys i = some y) (e : xs.length = ys.length) : ∃ j : Nat, ys[j]? = some y ∧ ∀ x, xs[j]? = some x → atI xs i = some x := by
  unfold atI at h
  cases q : ixN ys.length i with
  | none => rw [q] at h; cases h
  | some j =>
    rw [q] at h
    refine ⟨j, h, fun x hx => ?_⟩
    unfold atI
    rw [e, q]
    exact hx
theorem repL_at {K : PySem.W.Frag} {N : Addr → Prop} {H : Hp} {vs : List V} {ss : List S} {i : Int} {s : S} (r : RepL K N H vs ss) (h : atI ss i = some s) : ∃ v, atI vs i = some v ∧ Rep K N H v s := by
  obtain ⟨j, h1, h2⟩ := atI_len (xs := vs) h r.length
  obtain ⟨v, h3, h4⟩ := r.get h1
  exact ⟨v, h2 v h3, h4⟩
theorem s2_ix {K : PySem.W.Frag} : S2 K (rIx K) oIx := fun Z H Ω x y a b P Q ok rx ry w k => by
  rcases w with ⟨ss, i, s, e, eb, h, p⟩ | ⟨z, i, c, ea, eb, hz, h, p⟩
  · subst eb
    obtain ⟨l, xs, rfl, hq, r⟩ := rep_Q ok rx e
    obtain ⟨v, h1, h2⟩ := repL_at r h
    rcases hq with hq | hq
    · exact .inl ⟨l, xs, i, v, rfl, rep_int ry, hq, h1, k.now ok h2 p⟩
    · exact .inr (.inl ⟨l, xs, i, v, rfl, rep_int ry, hq, h1, k.now ok h2 p⟩)
  · subst ea; subst eb
    exact .inr (.inr ⟨z, i, c, rep_str rx, rep_int ry, hz, h, k.now ok (.str _) p⟩)
theorem oe_ix {K : PySem.W.Frag} (ha : OE X a ta wa) (hb : OE X b tb wb) (hs : PlainIx b) (hK : X.K = K := by rfl) : OE X (.Subscript a b pos) (tOp (rIx K) ta tb) (wOp oIx wa wb) := by
  subst hK
  exact ⟨pe_ix ix_seq ha.pe hb.pe hs, se_op s2_ix ha.se hb.se⟩
abbrev WO := Ga → Om → (Option Int → Om → Prop) → Prop
structure OP (X : Cx) (e : Option Expr) (t : TO) (w : WO) : Prop where
  pe : PO X e t
  se : ∀ Z σ H Γ Ω (P : Option Int → Om → Prop) (Q : Option Int → Hp → Prop), Ok X.K Z Ω H → Env X.K Z Ω H σ Γ → w Γ Ω P → (∀ b Ω' H', Ok X.K Z Ω' H' → Frm Ω H Ω' H' → P b Ω' → Q b H') → t σ H Q
def wNoP : WO := fun _ Ω P => P none Ω
def wPart (we : WE) : WO := fun Γ Ω P => we Γ Ω fun s Ω1 => ∃ i, s = .int i ∧ P (some i) Ω1
theorem op_none : OP X none tNoPart wNoP := ⟨po_none, fun Z σ H Γ Ω P Q ok e w k => k none Ω H ok .refl w⟩
theorem op_some (h : OE X e ta wa) : OP X (some e) (tPart ta) (wPart wa) := ⟨po_some h.pe, fun Z σ H Γ Ω P Q ok e w k => h.se Z σ H Γ Ω _ _ ok e w fun x s Ω1 H1 o1 f1 r1 ⟨i, es, w1⟩ => by
  subst es
  exact ⟨i, rep_int r1, k _ _ _ o1 f1 w1⟩⟩
def cutL {α : Type} (xs : List α) (lo hi : Option Int) : List α := (xs.drop (HT.sIx xs.length 0 lo)).take (HT.sIx xs.length xs.length hi - HT.sIx xs.length 0 lo)
theorem repL_cut {K : PySem.W.Frag} {N : Addr → Prop} {H : Hp} {vs : List V} {ss : List S} {lo hi : Option Int} (r : RepL K N H vs ss) : RepL K N H (cutV vs lo hi) (cutL ss lo hi) := by
  unfold cutV cutL
  rw [r.length]
  exact (r.drop _).take _
def oSl (a : S) (lo hi : Option Int) (Ω : Om) (P : WP) : Prop := (∃ xs, asL Ω a = some xs ∧ nw (cutL xs lo hi) Ω P) ∨ (∃ xs, a = .tup xs ∧ P (.tup (cutL xs lo hi)) Ω) ∨ (∃ z, a = .str z ∧ z.length ≤ sizeLine ∧ P (.str (cutS z lo hi)) Ω)
def wSl (wa : WE) (wl wh : WO) : WE := fun Γ Ω P => wa Γ Ω fun s Ω1 => wl Γ Ω1 fun lo Ω2 => wh Γ Ω2 fun hi Ω3 => oSl s lo hi Ω3 P
abbrev rSlU (K : PySem.W.Frag) : V → Option Int → Option Int → Hp → VK → Prop := fun x lo hi H Q => rSlL K x lo hi H Q ∨ (rSlA K x lo hi H Q ∨ rSlS x lo hi H Q)
theorem cut_all {xs : List V} {lo hi : Option Int} (h : HT.sIx xs.length 0 lo = 0 ∧ HT.sIx xs.length xs.length hi = xs.length) : cutV xs lo hi = xs := by
  unfold cutV
  rw [h.1, h.2, List.drop_zero, Nat.sub_zero, List.take_length]
theorem oe_sl {K : PySem.W.Frag} {lo hi : Option Expr} {tl th : TO} {wl wh : WO} {p2 : Pos} (ha : OE X a ta wa) (hl : OP X lo tl wl) (hh : OP X hi th wh) (hK : X.K = K := by rfl) : OE X (.Subscript a (.Slice lo hi none p2) pos) (tSl (rSlU K) ta tl th) (wSl wa wl wh) := by
  subst hK
  exact ⟨pe_slice (sl_list.or (sl_tupA.or sl_str)) ha.pe hl.pe hh.pe, fun Z σ H Γ Ω P Q ok e w k => ha.se Z σ H Γ Ω _ _ ok e w fun x s Ω1 H1 o1 f1 r1 w1 =>
    hl.se Z σ H1 Γ Ω1 _ _ o1 (e.frm f1 ok) w1 fun lo Ω2 H2 o2 f2 w2 => hh.se Z σ H2 Γ Ω2 _ _ o2 ((e.frm f1 ok).frm f2 o1) w2 fun hi Ω3 H3 o3 f3 w3 => by
      have rx := f3.rep o2 (f2.rep o1 r1)
      have k3 := k.frm (f1.trans (f2.trans f3))
      rcases w3 with ⟨xs, e1, w3⟩ | ⟨xs, e1, w3⟩ | ⟨z, e1, hz, w3⟩
      · obtain ⟨l, ys, rfl, hq, r⟩ := rep_L o3 rx e1
        exact .inl ⟨l, ys, rfl, hq, fun p hp => k3.nw o3 hp (repL_cut r) w3⟩
      · subst e1
        obtain ⟨l, ys, rfl, hq, r⟩ := rep_T rx rfl
        refine .inr (.inl ⟨l, ys, rfl, hq, fun h => ?_, fun _ p hp => k3.tup o3 hp (repL_cut r) w3⟩)
        have q := repL_cut (lo := lo) (hi := hi) r
        rw [cut_all h] at q
        have e2 : cutL xs lo hi = xs := by
          unfold cutL
          rw [← r.length, h.1, h.2, List.drop_zero, Nat.sub_zero, r.length, List.take_length]
        rw [e2] at w3
        exact k3.now o3 rx w3
      · subst e1
        exact .inr (.inr ⟨z, rep_str rx, hz, k3.now o3 (.str _) w3⟩)⟩
def wRev (wa : WE) : WE := fun Γ Ω P => wa Γ Ω fun s Ω1 => ∃ xs, asL Ω1 s = some xs ∧ nw xs.reverse Ω1 P
theorem oe_rev {K : PySem.W.Frag} {k : Nat} {p1 p2 p3 : Pos} (ha : OE X a ta wa) (hK : X.K = K := by rfl) : OE X (.Subscript a (.Slice none none (some (.UnaryOp .USub (.Constant (.int 1) k p1) p2)) p3) pos) (tRevL K ta) (wRev wa) := by
  subst hK
  exact ⟨pe_revL ha.pe, fun Z σ H Γ Ω P Q ok e w k => ha.se Z σ H Γ Ω _ _ ok e w fun x s Ω1 H1 o1 f1 r1 ⟨xs, e1, w1⟩ => by
    obtain ⟨l, ys, rfl, hq, r⟩ := rep_L o1 r1 e1
    exact ⟨l, ys, rfl, hq, fun p hp => (k.frm f1).nw o1 hp r.rev w1⟩⟩

/-! ### displays -/
def wNil : WA := fun _ Ω P => P [] Ω
def wCons (we : WE) (wr : WA) : WA := fun Γ Ω P => we Γ Ω fun s Ω1 => wr Γ Ω1 fun ss Ω2 => P (s :: ss) Ω2
theorem oa_nil : OA X [] tNil wNil := ⟨pa_nil, fun Z σ H Γ Ω P Q ok e w k => k _ _ _ _ ok .refl .nil w⟩
theorem oa_cons {es : List Expr} {t : TA} {w : WA} (h : OE X e ta wa) (r : OA X es t w) (he : starEach (e :: es) X.env = (false, eval e X.env) :: starEach es X.env := by rfl) : OA X (e :: es) (tCons ta t) (wCons wa w) :=
  ⟨pa_cons h.pe r.pe he, fun Z σ H Γ Ω P Q ok en w k => h.se Z σ H Γ Ω _ _ ok en w fun x s Ω1 H1 o1 f1 r1 w1 =>
    r.se Z σ H1 Γ Ω1 _ _ o1 (en.frm f1 ok) w1 fun vs ss Ω2 H2 o2 f2 r2 w2 => k _ _ _ _ o2 (f1.trans f2) (.cons (f2.rep o1 r1) r2) w2⟩
def wTup (w : WA) : WE := fun Γ Ω P => w Γ Ω fun ss Ω1 => ss.length ≤ sizeLine ∧ P (.tup ss) Ω1
def wLst (w : WA) : WE := fun Γ Ω P => w Γ Ω fun ss Ω1 => ss.length ≤ sizeLine ∧ nw ss Ω1 P
theorem oe_tup {es : List Expr} {t : TA} {w : WA} {x1} (h : OA X es t w) : OE X (.Tuple es x1 pos) (tTup t) (wTup w) :=
  ⟨pe_tup h.pe, fun Z σ H Γ Ω P Q ok e w k => h.se Z σ H Γ Ω _ _ ok e w fun vs ss Ω1 H1 o1 f1 r1 ⟨hl, w1⟩ => ⟨by rw [r1.length]; exact hl, fun p hp => (k.frm f1).tup o1 hp r1 w1⟩⟩
theorem oe_lst {es : List Expr} {t : TA} {w : WA} (h : OA X es t w) : OE X (.List es pos) (tLst t) (wLst w) :=
  ⟨pe_lst h.pe, fun Z σ H Γ Ω P Q ok e w k => h.se Z σ H Γ Ω _ _ ok e w fun vs ss Ω1 H1 o1 f1 r1 ⟨hl, w1⟩ => ⟨by rw [r1.length]; exact hl, fun p hp => (k.frm f1).nw o1 hp r1 w1⟩⟩

/-! ### calls of built-ins -/
def wCB (o : WL) (w : WA) : WE := fun Γ Ω P => w Γ Ω fun ss Ω1 => o ss Ω1 P
theorem se_cb {K : PySem.W.Frag} {r : List V → Hp → VK → Prop} {o : WL} {t : TA} {w : WA} (h : SA K t w) (ho : SL K r o) : SE K (tCB r t) (wCB o w) := fun Z σ H Γ Ω P Q ok e w k =>
  h Z σ H Γ Ω _ _ ok e w fun vs ss Ω1 H1 o1 f1 r1 w1 => ho Z H1 Ω1 vs ss P Q o1 r1 w1 (k.frm f1)
theorem oe_callB {id : String} {r : List V → Hp → VK → Prop} {o : WL} {es : List Expr} {t : TA} {w : WA} {x : Str} {p : Pos} (hc : OC X (.builtin id) r o) (hg : Gl X x) (hm : X.mg x = none) (hv : bootBuiltins x = some (.builtin id)) (ha : OA X (e :: es) t w) (hn : x ≠ "__name__" := by decide) (hdb : (x == ("__debug__" : Str)) = false := by decide)
    (he : starEach (e :: es) X.env = (false, eval e X.env) :: starEach es X.env := by rfl) (hpl : (backTo pos (starEach es X.env)).any (·.1) = false := by rfl) : OE X (.Call (.Name x p) (e :: es) [] pos) (tCB r t) (wCB o w) :=
  ⟨pe_callB hc.pe hg hm hv ha.pe hn hdb he hpl, se_cb ha.se hc.se⟩
theorem oe_callTy {T : String} {r : List V → Hp → VK → Prop} {o : WL} {es : List Expr} {t : TA} {w : WA} {x : Str} {p : Pos} (hc : OC X (.type T) r o) (hg : Gl X x) (hm : X.mg x = none) (hv : bootBuiltins x = some (.type T)) (ha : OA X (e :: es) t w) (hn : x ≠ "__name__" := by decide) (hdb : (x == ("__debug__" : Str)) = false := by decide)
    (he : starEach (e :: es) X.env = (false, eval e X.env) :: starEach es X.env := by rfl) (hpl : (backTo pos (starEach es X.env)).any (·.1) = false := by rfl) : OE X (.Call (.Name x p) (e :: es) [] pos) (tCB r t) (wCB o w) :=
  ⟨pe_callTy hc.pe hg hm hv ha.pe hn hdb he hpl, se_cb ha.se hc.se⟩
theorem repL1 {K : PySem.W.Frag} {N : Addr → Prop} {H : Hp} {vs : List V} {s : S} (r : RepL K N H vs [s]) : ∃ v, vs = [v] ∧ Rep K N H v s := by
  cases r with | cons h q => cases q; exact ⟨_, rfl, h⟩
theorem repL2 {K : PySem.W.Frag} {N : Addr → Prop} {H : Hp} {vs : List V} {s u : S} (r : RepL K N H vs [s, u]) : ∃ v w, vs = [v, w] ∧ Rep K N H v s ∧ Rep K N H w u := by
  cases r with | cons h q => cases q with | cons h2 q2 => cases q2; exact ⟨_, _, rfl, h, h2⟩
def oLen : WL := fun ss Ω P => (∃ s xs, ss = [s] ∧ asQ Ω s = some xs ∧ P (.int xs.length) Ω) ∨ (∃ z, ss = [.str z] ∧ z.length ≤ sizeLine ∧ P (.int z.length) Ω)
theorem oc_len {K : PySem.W.Frag} (hK : X.K = K := by rfl) : OC X (.builtin "len") (fun xs H Q => (∃ p ys, xs = [.ref p] ∧ (SqL K H p ys ∨ SqT K H p ys) ∧ Q (.int ys.length) H) ∨ (∃ z, xs = [.str z] ∧ z.length ≤ sizeLine ∧ Q (.int z.length) H)) oLen := by
  subst hK
  exact ⟨call_len_seq.or call_len_str, fun Z H Ω xs ss P Q ok r w k => by
    rcases w with ⟨s, ys, e, h, p⟩ | ⟨z, e, hz, p⟩
    · subst e
      obtain ⟨v, rfl, q1⟩ := repL1 r
      obtain ⟨l, zs, rfl, hq, q2⟩ := rep_Q ok q1 h
      exact .inl ⟨l, zs, rfl, hq, by rw [q2.length]; exact k.now ok (.int _) p⟩
    · subst e
      obtain ⟨v, rfl, q1⟩ := repL1 r
      cases q1
      exact .inr ⟨z, rfl, hz, k.now ok (.int _) p⟩⟩
def oAbs : WL := fun ss Ω P => ∃ i, ss = [.int i] ∧ P (.int (if i < 0 then -i else i)) Ω
theorem oc_abs : OC X (.builtin "abs") (fun xs H Q => ∃ i, xs = [.int i] ∧ Q (.int (if i < 0 then -i else i)) H) oAbs := ⟨call_abs, fun Z H Ω xs ss P Q ok r ⟨i, e, p⟩ k => by
  subst e
  obtain ⟨v, rfl, q1⟩ := repL1 r
  cases q1
  exact ⟨i, rfl, k.now ok (.int _) p⟩⟩
def oMax : WL := fun ss Ω P => ∃ i j, ss = [.int i, .int j] ∧ P (.int (if j > i then j else i)) Ω
theorem oc_max (hc : X.calm = true) : OC X (.builtin "max") (fun xs H Q => ∃ i j, xs = [.int i, .int j] ∧ Q (.int (if j > i then j else i)) H) oMax := ⟨call_max2 hc, fun Z H Ω xs ss P Q ok r ⟨i, j, e, p⟩ k => by
  subst e
  obtain ⟨v, w, rfl, r1, r2⟩ := repL2 r
  cases r1; cases r2
  exact ⟨i, j, rfl, k.now ok (.int _) p⟩⟩
def oMin : WL := fun ss Ω P => ∃ i j, ss = [.int i, .int j] ∧ P (.int (if j < i then j else i)) Ω
theorem oc_min (hc : X.calm = true) : OC X (.builtin "min") (fun xs H Q => ∃ i j, xs = [.int i, .int j] ∧ Q (.int (if j < i then j else i)) H) oMin := ⟨call_min2 hc, fun Z H Ω xs ss P Q ok r ⟨i, j, e, p⟩ k => by
  subst e
  obtain ⟨v, w, rfl, r1, r2⟩ := repL2 r
  cases r1; cases r2
  exact ⟨i, j, rfl, k.now ok (.int _) p⟩⟩
def oDivmod : WL := fun ss Ω P => ∃ i j, ss = [.int i, .int j] ∧ CDiv i j ∧ P (.tup [.int (i / j), .int (i % j)]) Ω
theorem oc_divmod : OC X (.builtin "divmod") (fun xs H Q => ∃ i j, xs = [.int i, .int j] ∧ CDiv i j ∧ ∀ p, H p = none → Q (.ref p) (upd H p (.tup [.int (i / j), .int (i % j)]))) oDivmod := ⟨call_divmod, fun Z H Ω xs ss P Q ok r ⟨i, j, e, c, p⟩ k => by
  subst e
  obtain ⟨v, w, rfl, r1, r2⟩ := repL2 r
  cases r1; cases r2
  exact ⟨i, j, rfl, c, fun q hq => k.tup ok hq (.cons (.int _) (.cons (.int _) .nil)) p⟩⟩
def oInt : WL := fun ss Ω P => (∃ i, ss = [.int i] ∧ P (.int i) Ω) ∨ ∃ b, ss = [.bl b] ∧ P (.int (b2i b)) Ω
theorem oc_int : OC X (.type "int") (fun xs H Q => (∃ i, xs = [.int i] ∧ Q (.int i) H) ∨ ∃ k, xs = [.bl k] ∧ Q (.int (b2i k)) H) oInt := ⟨call_int1, fun Z H Ω xs ss P Q ok r w k => by
  rcases w with ⟨i, e, p⟩ | ⟨i, e, p⟩
  · subst e
    obtain ⟨v, rfl, q1⟩ := repL1 r
    cases q1
    exact .inl ⟨i, rfl, k.now ok (.int _) p⟩
  · subst e
    obtain ⟨v, rfl, q1⟩ := repL1 r
    cases q1
    exact .inr ⟨i, rfl, k.now ok (.int _) p⟩⟩
def oList : WL := fun ss Ω P => ∃ s xs, ss = [s] ∧ asQ Ω s = some xs ∧ nw xs Ω P
theorem oc_list {K : PySem.W.Frag} (hK : X.K = K := by rfl) : OC X (.type "list") (fun xs H Q => ∃ p ys, xs = [.ref p] ∧ (SqL K H p ys ∨ SqT K H p ys) ∧ ∀ l, H l = none → Q (.ref l) (upd H l (.lst ys))) oList := by
  subst hK
  exact ⟨call_list_of, fun Z H Ω xs ss P Q ok r ⟨s, ys, e, h, p⟩ k => by
  subst e
  obtain ⟨v, rfl, q1⟩ := repL1 r
  obtain ⟨l, zs, rfl, hq, q2⟩ := rep_Q ok q1 h
  exact ⟨l, zs, rfl, hq, fun q hp => k.nw ok hp q2 p⟩⟩
def oAny : WL := fun ss Ω P => ∃ (s : S) (bs : List Bool), ss = [s] ∧ asL Ω s = some (bs.map S.bl) ∧ P (.bl (bs.any id)) Ω
theorem oc_any {K : PySem.W.Frag} (hc : X.calm = true) (hK : X.K = K := by rfl) : OC X (.builtin "any") (rAny K) oAny := by
  subst hK
  exact ⟨cr_any hc, fun Z H Ω xs ss P Q ok r ⟨s, bs, e, h, p⟩ k => by
  subst e
  obtain ⟨v, rfl, q1⟩ := repL1 r
  obtain ⟨l, zs, rfl, hq, q2⟩ := rep_L ok q1 h
  rw [repL_bls q2] at hq
  exact ⟨l, bs, rfl, hq, k.now ok (.bl _) p⟩⟩
def oAll : WL := fun ss Ω P => ∃ (s : S) (bs : List Bool), ss = [s] ∧ asL Ω s = some (bs.map S.bl) ∧ P (.bl (bs.all id)) Ω
theorem oc_all {K : PySem.W.Frag} (hc : X.calm = true) (hK : X.K = K := by rfl) : OC X (.builtin "all") (rAll K) oAll := by
  subst hK
  exact ⟨cr_all hc, fun Z H Ω xs ss P Q ok r ⟨s, bs, e, h, p⟩ k => by
  subst e
  obtain ⟨v, rfl, q1⟩ := repL1 r
  obtain ⟨l, zs, rfl, hq, q2⟩ := rep_L ok q1 h
  rw [repL_bls q2] at hq
  exact ⟨l, bs, rfl, hq, k.now ok (.bl _) p⟩⟩
def oSum : WL := fun ss Ω P => ∃ (s : S) (ns : List Int), ss = [s] ∧ asL Ω s = some (ns.map S.int) ∧ P (.int ns.sum) Ω
theorem oc_sum {K : PySem.W.Frag} (hc : X.calm = true) (hK : X.K = K := by rfl) : OC X (.builtin "sum") (rSum K) oSum := by
  subst hK
  exact ⟨cr_sum hc, fun Z H Ω xs ss P Q ok r ⟨s, bs, e, h, p⟩ k => by
  subst e
  obtain ⟨v, rfl, q1⟩ := repL1 r
  obtain ⟨l, zs, rfl, hq, q2⟩ := rep_L ok q1 h
  rw [repL_ints q2] at hq
  exact ⟨l, bs, rfl, hq, k.now ok (.int _) p⟩⟩
end
end Om
/-! Om: statements, targets, walks, comprehensions, defs. -/
namespace Om
open PySem L2

structure OEnds where
  nx : Ga → Om → Prop
  rt : WP
  bk : Ga → Om → Prop := fun _ _ => False
  ct : Ga → Om → Prop := fun _ _ => False
abbrev WS := OEnds → Ga → Om → Prop
abbrev WG := S → Ga → Om → (Ga → Om → Prop) → Prop
abbrev WGs := List S → Ga → Om → (Ga → Om → Prop) → Prop
def FinG (K : PySem.W.Frag) (Z : Addr → Prop) (Ω : Om) (H : Hp) (P : Ga → Om → Prop) (Q : L2.St → Hp → Prop) : Prop :=
  ∀ σ' Γ' Ω' H', Ok K Z Ω' H' → Frm Ω H Ω' H' → Env K Z Ω' H' σ' Γ' → P Γ' Ω' → Q σ' H'
structure FinS (K : PySem.W.Frag) (Z : Addr → Prop) (Ω : Om) (H : Hp) (O : OEnds) (D : Ends) : Prop where
  nx : FinG K Z Ω H O.nx D.nx
  rt : Fin K Z Ω H O.rt D.rt
  bk : FinG K Z Ω H O.bk D.bk
  ct : FinG K Z Ω H O.ct D.ct
def SS (K : PySem.W.Frag) (t : TS) (w : WS) : Prop := ∀ Z σ H Γ Ω O D, Ok K Z Ω H → Env K Z Ω H σ Γ → w O Γ Ω → FinS K Z Ω H O D → t D σ H
structure OS (X : Cx) (e : Stmt) (t : TS) (w : WS) : Prop where
  pe : PS X e t
  se : SS X.K t w
structure OSs (X : Cx) (e : List Stmt) (t : TS) (w : WS) : Prop where
  pe : PSs X e t
  se : SS X.K t w
/-- only the slots js are stored -/
def Only (js : List Nat) (σ σ' : L2.St) : Prop := σ'.length = σ.length ∧ ∀ j, j ∉ js → σ'[j]? = σ[j]?
def SG (K : PySem.W.Frag) (js : List Nat) (g : TG) (w : WG) : Prop := ∀ Z v s σ H Γ Ω (P : Ga → Om → Prop) (Q : L2.St → Hp → Prop), Ok K Z Ω H → Env K Z Ω H σ Γ → Rep K (mu Z Ω) H v s → w s Γ Ω P →
  (∀ σ' Γ' Ω' H', Ok K Z Ω' H' → Frm Ω H Ω' H' → Env K Z Ω' H' σ' Γ' → Only js σ σ' → P Γ' Ω' → Q σ' H') → g v σ H Q
def SGs (K : PySem.W.Frag) (js : List Nat) (g : TGs) (w : WGs) : Prop := ∀ Z v s σ H Γ Ω (P : Ga → Om → Prop) (Q : L2.St → Hp → Prop), Ok K Z Ω H → Env K Z Ω H σ Γ → RepL K (mu Z Ω) H v s → w s Γ Ω P →
  (∀ σ' Γ' Ω' H', Ok K Z Ω' H' → Frm Ω H Ω' H' → Env K Z Ω' H' σ' Γ' → Only js σ σ' → P Γ' Ω' → Q σ' H') → g v σ H Q
structure OG (X : Cx) (e : Expr) (js : List Nat) (g : TG) (w : WG) : Prop where
  pe : PG X e g
  se : SG X.K js g w
structure OGs (X : Cx) (e : List Expr) (js : List Nat) (g : TGs) (w : WGs) : Prop where
  pe : PGs X e g
  se : SGs X.K js g w

section
variable {K : PySem.W.Frag} {Z : Addr → Prop} {Ω Ω1 : Om} {H H1 : Hp} {O : OEnds} {D : Ends} {P : Ga → Om → Prop} {Q : L2.St → Hp → Prop}
theorem FinG.frm (k : FinG K Z Ω H P Q) (f : Frm Ω H Ω1 H1) : FinG K Z Ω1 H1 P Q := fun σ Γ Ω' H' o g e p => k σ Γ Ω' H' o (f.trans g) e p
theorem FinS.frm (k : FinS K Z Ω H O D) (f : Frm Ω H Ω1 H1) : FinS K Z Ω1 H1 O D := ⟨k.nx.frm f, k.rt.frm f, k.bk.frm f, k.ct.frm f⟩
theorem Only.refl {js : List Nat} {σ : L2.St} : Only js σ σ := ⟨rfl, fun _ _ => rfl⟩
theorem Only.trans {js ls : List Nat} {σ τ υ : L2.St} (a : Only js σ τ) (b : Only ls τ υ) : Only (js ++ ls) σ υ :=
  ⟨b.1.trans a.1, fun j h => by
    rw [List.mem_append, not_or] at h
    exact (b.2 j h.2).trans (a.2 j h.1)⟩
theorem Only.set {i : Nat} {σ : L2.St} {v : Option V} : Only [i] σ (σ.set i v) := ⟨List.length_set, fun j h => List.getElem?_set_ne (fun e => h (by rw [e]; exact List.mem_singleton.mpr rfl))⟩
end

section
variable {X : Cx} {e a b c : Expr} {te ta tb : TE} {we wa wb : WE} {pos : Pos} {st1 : Stmt} {rest : List Stmt} {t u : TS} {w x : WS}
/-! ### plain statements -/
def wNext : WS := fun O Γ Ω => O.nx Γ Ω
def wSeq (w x : WS) : WS := fun O Γ Ω => w { O with nx := x O } Γ Ω
theorem oss_nil : OSs X [] tNext wNext := ⟨pss_nil, fun Z σ H Γ Ω O D ok e w k => k.nx _ _ _ _ ok .refl e w⟩
theorem oss_cons (h : OS X st1 t w) (r : OSs X rest u x) : OSs X (st1 :: rest) (tSeq t u) (wSeq w x) :=
  ⟨pss_cons h.pe r.pe, fun Z σ H Γ Ω O D ok e ww k => h.se Z σ H Γ Ω { O with nx := x O } { D with nx := u D } ok e ww
    ⟨fun σ' Γ' Ω' H' o f e' p => r.se Z σ' H' Γ' Ω' O D o e' p (k.frm f), k.rt, k.bk, k.ct⟩⟩
theorem oss_one (h : OS X st1 t w) : OSs X [st1] t w := ⟨pss_one h.pe, h.se⟩
theorem os_pass : OS X (.Pass pos) tNext wNext := ⟨ps_pass, oss_nil (X := X).se⟩
theorem os_doc {y j p2} : OS X (.Expr (.Constant (.str y) j p2) pos) tNext wNext := ⟨ps_doc, oss_nil (X := X).se⟩
def wBrk : WS := fun O Γ Ω => O.bk Γ Ω
def wCont : WS := fun O Γ Ω => O.ct Γ Ω
theorem os_break : OS X (.Break pos) tBreak wBrk := ⟨ps_break, fun Z σ H Γ Ω O D ok e w k => k.bk _ _ _ _ ok .refl e w⟩
theorem os_continue : OS X (.Continue pos) tCont wCont := ⟨ps_continue, fun Z σ H Γ Ω O D ok e w k => k.ct _ _ _ _ ok .refl e w⟩
def wDrop (we : WE) : WS := fun O Γ Ω => we Γ Ω fun _ Ω1 => O.nx Γ Ω1
theorem os_expr (h : OE X e te we) (hs : swapsWith e none pos.line X.env = pure false := by rfl) : OS X (.Expr e pos) (tDrop te) (wDrop we) :=
  ⟨ps_expr h.pe hs, fun Z σ H Γ Ω O D ok en w k => h.se Z σ H Γ Ω _ _ ok en w fun v s Ω1 H1 o1 f1 r1 p => k.nx _ _ _ _ o1 f1 (en.frm f1 ok) p⟩
def wRet (we : WE) : WS := fun O Γ Ω => we Γ Ω O.rt
theorem os_ret (h : OE X e te we) : OS X (.Return (some e) pos) (tRet te) (wRet we) := ⟨ps_ret h.pe, fun Z σ H Γ Ω O D ok en w k => h.se Z σ H Γ Ω _ _ ok en w k.rt⟩
def wRetN : WS := fun O _ Ω => O.rt .non Ω
theorem os_retN : OS X (.Return none pos) tRetN wRetN := ⟨ps_retN, fun Z σ H Γ Ω O D ok en w k => k.rt.now ok .non w⟩
def wIfS (c : WT) (w x : WS) : WS := fun O Γ Ω => c Γ Ω fun b Ω1 => if b = true then w O Γ Ω1 else x O Γ Ω1
theorem os_if {tc : TT} {wc : WT} {p q : List Stmt} (hc : OT X c tc wc) (ha : OSs X p t w) (hb : OSs X q u x) : OS X (.If c p q pos) (tIfS tc t u) (wIfS wc w x) :=
  ⟨ps_if hc.pe ha.pe hb.pe, fun Z σ H Γ Ω O D ok en ww k => hc.se Z σ H Γ Ω _ _ ok en ww fun b Ω1 H1 o1 f1 w1 => by
    cases b with
    | true => exact ha.se Z σ H1 Γ Ω1 O D o1 (en.frm f1 ok) w1 (k.frm f1)
    | false => exact hb.se Z σ H1 Γ Ω1 O D o1 (en.frm f1 ok) w1 (k.frm f1)⟩
def wSet (we : WE) (i : Nat) : WS := fun O Γ Ω => we Γ Ω fun s Ω1 => O.nx (st Γ i (some s)) Ω1
theorem os_set {i : Nat} {y : Str} {pos' : Pos} (hN : X.N.Nodup) (hi : X.N[i]? = some y) (hx : Loc X.env.scope y) (he : OE X e te we) (hs : swapsWith e (some (.Name y pos')) pos.line X.env = pure false := by rfl) (hf : X.fn y = true ∨ X.env.scope.names.lookup y = some .local := by first | exact .inl rfl | exact .inr rfl | assumption) :
    OS X (.Assign [.Name y pos'] e pos) (tAsg te (gName i)) (wSet we i) :=
  ⟨ps_set hN hi hx he.pe hs hf, fun Z σ H Γ Ω O D ok en w k => he.se Z σ H Γ Ω _ _ ok en w fun v s Ω1 H1 o1 f1 r1 p => k.nx _ _ _ _ o1 f1 ((en.frm f1 ok).set r1) p⟩
/-! ### targets -/
def wgName (i : Nat) : WG := fun s Γ Ω P => P (st Γ i (some s)) Ω
theorem og_name {i : Nat} {y : Str} (hN : X.N.Nodup) (hi : X.N[i]? = some y) (hx : Loc X.env.scope y) (hf : X.fn y = true ∨ X.env.scope.names.lookup y = some .local := by first | exact .inl rfl | exact .inr rfl | assumption) : OG X (.Name y pos) [i] (gName i) (wgName i) :=
  ⟨pg_name hN hi hx hf, fun Z v s σ H Γ Ω P Q ok en r w k => k _ _ _ _ ok .refl (en.set r) .set w⟩
def wgNil : WGs := fun ss Γ Ω P => ss = [] ∧ P Γ Ω
def wgCons (w : WG) (x : WGs) : WGs := fun ss Γ Ω P => ∃ s r, ss = s :: r ∧ w s Γ Ω fun Γ1 Ω1 => x r Γ1 Ω1 P
theorem ogs_nil : OGs X [] [] gNil wgNil := ⟨pgs_nil, fun Z v s σ H Γ Ω P Q ok en r w k => by
  obtain ⟨rfl, p⟩ := w
  cases r
  exact ⟨rfl, k _ _ _ _ ok .refl en .refl p⟩⟩
theorem ogs_cons {es : List Expr} {js ls : List Nat} {g : TG} {gs : TGs} {w : WG} {x : WGs} (h : OG X e js g w) (r : OGs X es ls gs x) (hpe : PGs X (e :: es) (gCons g gs)) : OGs X (e :: es) (js ++ ls) (gCons g gs) (wgCons w x) :=
  ⟨hpe, fun Z v s σ H Γ Ω P Q ok en rr ww k => by
    obtain ⟨s1, s2, rfl, p⟩ := ww
    cases rr with
    | cons r1 r2 =>
      refine ⟨_, _, rfl, h.se Z _ _ σ H Γ Ω _ _ ok en r1 p fun σ1 Γ1 Ω1 H1 o1 f1 e1 n1 p1 => ?_⟩
      exact r.se Z _ _ σ1 H1 Γ1 Ω1 _ _ o1 e1 (f1.repL ok r2) p1 fun σ2 Γ2 Ω2 H2 o2 f2 e2 n2 p2 => k _ _ _ _ o2 (f1.trans f2) e2 (n1.trans n2) p2⟩
def wgTup (n : Nat) (w : WGs) : WG := fun s Γ Ω P => ∃ ss, s = .tup ss ∧ ss.length = n ∧ w ss Γ Ω P
theorem og_tup {K : PySem.W.Frag} {es : List Expr} {k n : Nat} {js : List Nat} {g : TGs} {w : WGs} (hc : X.calm = true) (h : OGs X es js g w)
    (hn : (assignEach es X.env).length = n := by rfl) (hst : (assignEach es X.env).findIdx? (·.1) = none := by rfl) (hK : X.K = K := by rfl) : OG X (.Tuple es k pos) js (gTup K n g) (wgTup n w) := by
  subst hK
  exact ⟨pg_tup hc h.pe hn hst, fun Z v s σ H Γ Ω P Q ok en r ww k => by
    obtain ⟨ss, rfl, hl, p⟩ := ww
    obtain ⟨l, xs, rfl, hq, rr⟩ := rep_T r rfl
    exact ⟨l, xs, rfl, hq, rr.length.trans hl, h.se Z _ _ σ H Γ Ω _ _ ok en rr p k⟩⟩
/-- o[i] = v, o a list of the store -/
def subAt (P : Ga → Om → Prop) (s : S) (Γ : Ga) (o i : S) (Ω2 : Om) : Prop := ∃ p xs k j, o = .adr p ∧ i = .int k ∧ Ω2 p = some (.lst xs) ∧ ixN xs.length k = some j ∧ P Γ (put Ω2 p (.lst (xs.set j s)))
def wgSub (wo wi : WE) : WG := fun s Γ Ω P => wo Γ Ω fun o Ω1 => wi Γ Ω1 fun i Ω2 => subAt P s Γ o i Ω2
theorem og_sub {o i : Expr} {to ti : TE} {wo wi : WE} (ho : OE X o to wo) (hi : OE X i ti wi)
    (ha : ∀ v, assign (.Subscript o i pos) X.env v = (do
      let ov ← holding [v] (eval o X.env)
      let iv ← holding [v, ov] (eval i X.env)
      standAt pos
      holding [v, ov, iv] (setItem ov iv v)
      release [v, ov, iv] []) := by intro _; rfl) : OG X (.Subscript o i pos) [] (gSub to ti rSetL) (wgSub wo wi) :=
  ⟨pg_sub ho.pe hi.pe set_list ha, fun Z v s σ H Γ Ω P Q ok en r w k => ho.se Z σ H Γ Ω _ _ ok en w fun x sx Ω1 H1 o1 f1 r1 w1 => hi.se Z σ H1 Γ Ω1 _ _ o1 (en.frm f1 ok) w1 fun y sy Ω2 H2 o2 f2 r2 w2 => by
    obtain ⟨p, xs, n, j, rfl, rfl, hp, hj, q⟩ := w2
    have r1' := f2.rep o1 r1
    have rv := (f1.trans f2).rep ok r
    cases r1'
    cases r2
    obtain ⟨ys, h1, h2⟩ := o2.cells p _ hp
    refine ⟨p, ys, n, j, rfl, rfl, h1, by rw [h2.length]; exact hj, ?_⟩
    have fm : Frm Ω2 H2 (put Ω2 p (.lst (xs.set j s))) (upd H2 p (.lst (ys.set j v))) := frm_mut hp
    have om : Ok X.K Z (put Ω2 p (.lst (xs.set j s))) (upd H2 p (.lst (ys.set j v))) := o2.mut (d := .lst (xs.set j s)) hp ⟨_, upd_same, repL_upd hp (h2.set rv j)⟩
    exact k _ _ _ _ om ((f1.trans f2).trans fm) (((en.frm f1 ok).frm f2 o1).frm fm o2) .refl q⟩
def wAsg (we : WE) (g : WG) : WS := fun O Γ Ω => we Γ Ω fun s Ω1 => g s Γ Ω1 O.nx
theorem os_asg {tg : Expr} {js : List Nat} {g : TG} {wg : WG} (he : OE X e te we) (hg : OG X tg js g wg) (hs : swapsWithSole [tg] e pos.line X.env = pure false := by rfl) (hw : swappedStores [tg] e X.env = pure none := by rfl)
    (h1 : (assignEach [tg] X.env).map (·.2) = [assign tg X.env] := by rfl) : OS X (.Assign [tg] e pos) (tAsg te g) (wAsg we wg) :=
  ⟨ps_asg he.pe hg.pe hs hw h1, fun Z σ H Γ Ω O D ok en w k => he.se Z σ H Γ Ω _ _ ok en w fun v s Ω1 H1 o1 f1 r1 p => hg.se Z v s σ H1 Γ Ω1 _ _ o1 (en.frm f1 ok) r1 p fun σ' Γ' Ω' H' o' f' e' _ p' => k.nx _ _ _ _ o' (f1.trans f') e' p'⟩
def wPar (i j : Nat) (wa : WA) : WS := fun O Γ Ω => wa Γ Ω fun ss Ω1 => ∃ s u, ss = [s, u] ∧ O.nx (st (st Γ i (some s)) j (some u)) Ω1
theorem os_par {i j : Nat} {y z : Str} {ta : TA} {wa : WA} {px py pt : Pos} {kt k2 pt2} (hc : X.calm = true) (hN : X.N.Nodup) (hi : X.N[i]? = some y) (hj : X.N[j]? = some z) (hij : i ≠ j)
    (hx : X.env.scope.names.lookup y = some .local) (hy : X.env.scope.names.lookup z = some .local) (ha : OA X [a, b] ta wa)
    (hw : swappedStores [.Tuple [.Name y px, .Name z py] kt pt] (.Tuple [a, b] k2 pt2) X.env = pure (some [y, z]))
    (hs : swapsWithSole [.Tuple [.Name y px, .Name z py] kt pt] (.Tuple [a, b] k2 pt2) pos.line X.env = pure false := by rfl) :
    OS X (.Assign [.Tuple [.Name y px, .Name z py] kt pt] (.Tuple [a, b] k2 pt2) pos) (tPar i j ta) (wPar i j wa) :=
  ⟨ps_par hc hN hi hj hij hx hy ha.pe hw hs, fun Z σ H Γ Ω O D ok en w k => ha.se Z σ H Γ Ω _ _ ok en w fun vs ss Ω1 H1 o1 f1 r1 ⟨s, u, es, p⟩ => by
    subst es
    obtain ⟨v, x, rfl, ra, rb⟩ := repL2 r1
    exact ⟨v, x, rfl, k.nx _ _ _ _ o1 f1 (((en.frm f1 ok).set ra).set rb) p⟩⟩
theorem repL3 {K : PySem.W.Frag} {N : Addr → Prop} {H : Hp} {vs : List V} {s u r : S} (q : RepL K N H vs [s, u, r]) : ∃ v w x, vs = [v, w, x] ∧ Rep K N H v s ∧ Rep K N H w u ∧ Rep K N H x r := by
  cases q with | cons h q => cases q with | cons h2 q2 => cases q2 with | cons h3 q3 => cases q3; exact ⟨_, _, _, rfl, h, h2, h3⟩
def wPar3 (i j l : Nat) (wa : WA) : WS := fun O Γ Ω => wa Γ Ω fun ss Ω1 => ∃ s u r, ss = [s, u, r] ∧ O.nx (st (st (st Γ i (some s)) j (some u)) l (some r)) Ω1
theorem os_par3 {i j l : Nat} {y z y3 : Str} {ta : TA} {wa : WA} {px py pz pt : Pos} {kt k2 pt2} (hc : X.calm = true) (hN : X.N.Nodup) (hi : X.N[i]? = some y) (hj : X.N[j]? = some z) (hl : X.N[l]? = some y3) (hij : i ≠ j) (hil : i ≠ l) (hjl : j ≠ l)
    (hx : X.env.scope.names.lookup y = some .local) (hy : X.env.scope.names.lookup z = some .local) (hz : X.env.scope.names.lookup y3 = some .local) (ha : OA X [a, b, c] ta wa)
    (hw : swappedStores [.Tuple [.Name y px, .Name z py, .Name y3 pz] kt pt] (.Tuple [a, b, c] k2 pt2) X.env = pure (some [y, z, y3]))
    (hs : swapsWithSole [.Tuple [.Name y px, .Name z py, .Name y3 pz] kt pt] (.Tuple [a, b, c] k2 pt2) pos.line X.env = pure false := by rfl) :
    OS X (.Assign [.Tuple [.Name y px, .Name z py, .Name y3 pz] kt pt] (.Tuple [a, b, c] k2 pt2) pos) (tPar3 i j l ta) (wPar3 i j l wa) :=
  ⟨ps_par3 hc hN hi hj hl hij hil hjl hx hy hz ha.pe hw hs, fun Z σ H Γ Ω O D ok en w k => ha.se Z σ H Γ Ω _ _ ok en w fun vs ss Ω1 H1 o1 f1 r1 ⟨s, u, r, es, p⟩ => by
    subst es
    obtain ⟨v, x, q, rfl, ra, rb, rc⟩ := repL3 r1
    exact ⟨v, x, q, rfl, k.nx _ _ _ _ o1 f1 ((((en.frm f1 ok).set ra).set rb).set rc) p⟩⟩
/-- x += e, x -= e of ups -/
def wAug (i : Nat) (f : Int → Int → Int) (we : WE) : WS := fun O Γ Ω => ∃ m, gt Γ i = some (.int m) ∧ we Γ Ω fun s Ω1 => ∃ n, s = .int n ∧ O.nx (st Γ i (some (.int (f m n)))) Ω1
theorem os_aug {i : Nat} {y : Str} {op : Operator} {f : Int → Int → Int} {pos' : Pos} (hN : X.N.Nodup) (hi : X.N[i]? = some y) (hx : Loc X.env.scope y) (he : OE X e te we) (ho : PIp X op (ipI f)) (hf : X.fn y = true ∨ X.env.scope.names.lookup y = some .local := by first | exact .inl rfl | exact .inr rfl | assumption) :
    OS X (.AugAssign (.Name y pos') op e pos) (tAug i te (ipI f)) (wAug i f we) :=
  ⟨ps_aug hN hi hx he.pe ho hf, fun Z σ H Γ Ω O D ok en w k => by
    obtain ⟨m, hm, w⟩ := w
    obtain ⟨v, h1, h2⟩ := en.at_ i _ hm
    cases h2
    exact ⟨_, h1, he.se Z σ H Γ Ω _ _ ok en w fun v s Ω1 H1 o1 f1 r1 ⟨n, es, p⟩ => by
      subst es
      cases r1
      exact ⟨m, n, rfl, rfl, k.nx _ _ _ _ o1 f1 ((en.frm f1 ok).set (.int _)) p⟩⟩⟩
end

/-! ### what a for walks -/
abbrev WI := Ga → Om → (List S → (Om → Prop) → Om → Prop) → Prop
/-- while G holds of the store: ss, one at each turn -/
def Wk (K : PySem.W.Frag) (Z : Addr → Prop) (J : It) (ss : List S) (G : Om → Prop) (Ω1 : Om) (H1 : Hp) : Prop :=
  ∀ Z2 Ω' H', (∀ a, Z2 a → Z a ∨ H1 a = none) → Ok K Z2 Ω' H' → Frm Ω1 H1 Ω' H' → G Ω' → (∀ i, i < ss.length → J.go i H') ∧ J.stop ss.length H' ∧
    ∀ i x H2, i < ss.length → J.yld i H' x H2 → ∃ s, ss[i]? = some s ∧ Ok K Z2 Ω' H2 ∧ Frm Ω' H' Ω' H2 ∧ Rep K (mu Z2 Ω') H2 x s
def SI (K : PySem.W.Frag) (wi : TI) (ww : WI) : Prop := ∀ Z σ H Γ Ω P R, Ok K Z Ω H → Env K Z Ω H σ Γ → ww Γ Ω P → (∀ J ss G Ω1 H1, Ok K Z Ω1 H1 → Frm Ω H Ω1 H1 → Wk K Z J ss G Ω1 H1 → P ss G Ω1 → R J H1) → wi σ H R
structure OI (X : Cx) (tg iter : Expr) (wi : TI) (ww : WI) : Prop where
  pe : PI X tg iter wi
  se : SI X.K wi ww
section
variable {K : PySem.W.Frag} {Z Z2 : Addr → Prop} {Ω Ω1 Ω2 : Om} {H H1 H2 : Hp}
theorem repL_later {vs : List V} {ss : List S} (hz : ∀ a, Z2 a → Z a ∨ H1 a = none) (f : Frm Ω1 H1 Ω2 H2) (r : RepL K (mu Z Ω1) H1 vs ss) : RepL K (mu Z2 Ω2) H2 vs ss :=
  r.keep (fun a o e h => f.keep a o e (no_some fun q => h (.inr q))) fun a o e h q => by
    rcases q with q | q
    · rcases hz a q with q | q
      · exact h (.inl q)
      · rw [q] at e; cases e
    · rcases f.dom a q with q | q
      · exact h (.inr q)
      · rw [q] at e; cases e
/-- a list, a tuple: as it stands when the walk begins -/
def seqG (s : S) (ss : List S) : Om → Prop := fun Ω' => ∀ a, s = .adr a → Ω' a = some (.lst ss)
theorem wk_list {v : V} {s : S} {ss : List S} {a : Addr} (o : Ok K Z Ω1 H1) (r : Rep K (mu Z Ω1) H1 v s) (e : asL Ω1 s = some ss) (ea : v = .ref a) : Wk K Z (Itl K a) ss (seqG s ss) Ω1 H1 := by
  subst ea
  intro Z2 Ω' H' hz o' f g
  obtain ⟨xs, hq, rr⟩ : ∃ xs, SqL K H' a xs ∧ RepL K (mu Z2 Ω') H' xs ss := by
    cases r with
    | lst h0 h r =>
      cases e
      exact ⟨_, .inl (.inl (f.keep _ _ h (no_some fun q => h0 (.inr q)))), repL_later hz f r⟩
    | sc h0 h r =>
      cases e
      exact ⟨_, .inl (rd_keep (fun o e => f.keep _ _ e (no_some fun q => h0 (.inr q))) h), repL_later hz f r⟩
    | wl h r =>
      cases e
      exact ⟨_, h H', repL_later hz f r⟩
    | adr =>
      obtain ⟨xs, h1, h2⟩ := o'.cells a _ (g a rfl)
      exact ⟨xs, .inl (.inl h1), h2⟩
    | _ => cases e
  refine ⟨fun i hi => ?_, ⟨xs, hq, by rw [rr.length]; exact Nat.le_refl _⟩, fun i x H2 hi y => ?_⟩
  · obtain ⟨v, h1, _⟩ := rr.get (List.getElem?_eq_getElem hi)
    exact ⟨xs, v, hq, h1⟩
  · obtain ⟨rfl, y⟩ := y
    obtain ⟨s, h1, h2⟩ := rr.getV (y xs hq)
    exact ⟨s, h1, o', .refl, h2⟩
theorem wk_tup {v : V} {ss : List S} {a : Addr} (o : Ok K Z Ω1 H1) (r : Rep K (mu Z Ω1) H1 v (.tup ss)) (ea : v = .ref a) : Wk K Z (Itt K a) ss (fun _ => True) Ω1 H1 := by
  subst ea
  intro Z2 Ω' H' hz o' f g
  obtain ⟨xs, hq, rr⟩ : ∃ xs, SqT K H' a xs ∧ RepL K (mu Z2 Ω') H' xs ss := by
    cases r with
    | tup h0 h r => exact ⟨_, .inl (.inl (f.keep _ _ h (no_some fun q => h0 (.inr q)))), repL_later hz f r⟩
    | wt h r => exact ⟨_, h H', repL_later hz f r⟩
  refine ⟨fun i hi => ?_, ⟨xs, hq, by rw [rr.length]; exact Nat.le_refl _⟩, fun i x H2 hi y => ?_⟩
  · obtain ⟨v, h1, _⟩ := rr.get (List.getElem?_eq_getElem hi)
    exact ⟨xs, v, hq, h1⟩
  · obtain ⟨rfl, y⟩ := y
    obtain ⟨s, h1, h2⟩ := rr.getV (y xs hq)
    exact ⟨s, h1, o', .refl, h2⟩
end
section
variable {X : Cx} {tg e a b : Expr} {te ta tb : TE} {we wa wb : WE} {pos p : Pos}
/-- a list or a tuple -/
abbrev WQ := List S → (Om → Prop) → Om → Prop
def seqAt (P : WQ) (s : S) (Ω1 : Om) : Prop := (∃ ss, asL Ω1 s = some ss ∧ P ss (seqG s ss) Ω1) ∨ (∃ ss, s = .tup ss ∧ P ss (fun _ => True) Ω1)
def wiSeq (we : WE) : WI := fun Γ Ω P => we Γ Ω fun s Ω1 => seqAt P s Ω1
/-- a list or a tuple, walked -/
def iAny (K : PySem.W.Frag) (tl : TE) : TI := fun σ H R => tl σ H fun x H1 => ∃ a, x = .ref a ∧ (((∃ xs, SqL K H1 a xs) ∧ R (Itl K a) H1) ∨ ((∃ xs, SqT K H1 a xs) ∧ R (Itt K a) H1))
theorem pi_any (hl : PE X e te) : PI X tg e (iAny X.K te) := by
  refine ⟨fun pins s σ H R I w => thn (hl.run pins s σ H _ I w) fun v s1 hv => ?_⟩
  obtain ⟨x, H1, J, rx, q⟩ := hv
  obtain ⟨l, rfl, q⟩ := q
  cases rx
  have fp : ∀ b ∈ [s1.heap.objs.size], FpOk X pins H1 b := fun b hb => by
    rw [List.mem_singleton.mp hb]
    exact J.fpOk (Nat.le_refl _) (J.hok.fresh (Nat.le_refl _))
  rcases q with ⟨⟨xs, hq⟩, q⟩ | ⟨⟨xs, hq⟩, q⟩
  · obtain ⟨is_, _, hp, _⟩ := J.list hq
    exact wpAny_pyIter_list hp.isList ⟨_, [s1.heap.objs.size], _, _, H1, rfl, J.kept (t' := s1.toks) fun b o z => Heap.get?_push_of_some _ z, turn_list l _, ⟨_, Heap.get?_push_size _ rfl, rfl, rfl⟩, fp, q⟩
  · obtain ⟨is_, _, hp, _⟩ := J.tuple hq
    exact wpAny_pyIter_tuple (show s1.heap.IsTuple l is_.toArray from hp) ⟨_, [s1.heap.objs.size], _, _, H1, rfl, J.kept (t' := s1.toks) fun b o z => Heap.get?_push_of_some _ z, turn_tuple l _, ⟨_, Heap.get?_push_size _ rfl, rfl, rfl⟩, fp, q⟩
theorem oi_seq {K : PySem.W.Frag} (h : OE X e te we) (hK : X.K = K := by rfl) : OI X tg e (iAny K te) (wiSeq we) := by
  subst hK
  exact ⟨pi_any h.pe, fun Z σ H Γ Ω P R ok en w k => h.se Z σ H Γ Ω _ _ ok en w fun v s Ω1 H1 o1 f1 r1 q => by
    rcases q with ⟨ss, e1, q⟩ | ⟨ss, e1, q⟩
    · obtain ⟨l, xs, rfl, hq, r⟩ := rep_L o1 r1 e1
      exact ⟨l, rfl, .inl ⟨⟨xs, hq⟩, k _ _ _ _ _ o1 f1 (wk_list o1 r1 e1 rfl) q⟩⟩
    · subst e1
      obtain ⟨l, xs, rfl, hq, r⟩ := rep_T r1 rfl
      exact ⟨l, rfl, .inr ⟨⟨xs, hq⟩, k _ _ _ _ _ o1 f1 (wk_tup o1 r1 rfl) q⟩⟩⟩
/-- lo, lo + 1, .. -/
def ups (lo : Int) (n : Nat) : List S := (List.range n).map fun i => .int (lo + (i : Nat))
theorem ups_len {lo : Int} {n : Nat} : (ups lo n).length = n := by unfold ups; rw [List.length_map, List.length_range]
theorem ups_at {lo : Int} {n i : Nat} (h : i < n) : (ups lo n)[i]? = some (.int (lo + (i : Nat))) := by
  unfold ups
  rw [List.getElem?_map, List.getElem?_range h]
  rfl
theorem wk_range {K : PySem.W.Frag} {Z : Addr → Prop} {lo : Int} {n : Nat} {Ω1 : Om} {H1 : Hp} : Wk K Z (Itr lo n) (ups lo n) (fun _ => True) Ω1 H1 := fun Z2 Ω' H' hz o f g =>
  ⟨fun i hi => by rw [ups_len] at hi; exact hi, Nat.le_of_eq ups_len.symm, fun i x H2 hi y => by
    obtain ⟨rfl, rfl⟩ := y
    rw [ups_len] at hi
    exact ⟨_, ups_at hi, o, .refl, .int _⟩⟩
def rngAt1 (P : WQ) (ss : List S) (Ω1 : Om) : Prop := ∃ n : Int, ss = [.int n] ∧ -(2 ^ 62) ≤ n ∧ n < 2 ^ 62 ∧ P (ups 0 n.toNat) (fun _ => True) Ω1
def wiRng1 (wa : WA) : WI := fun Γ Ω P => wa Γ Ω fun ss Ω1 => rngAt1 P ss Ω1
theorem oi_rng1 {ta : TA} {wa : WA} (hg : Gl X "range") (hm : X.mg "range" = none) (h : OA X [e] ta wa) (hs : starEach [e] X.env = [(false, eval e X.env)] := by rfl) : OI X tg (.Call (.Name "range" p) [e] [] pos) (iRng1 ta) (wiRng1 wa) :=
  ⟨pi_range1 hg hm h.pe hs, fun Z σ H Γ Ω P R ok en w k => h.se Z σ H Γ Ω _ _ ok en w fun v s Ω1 H1 o1 f1 r1 ⟨n, e1, h1, h2, q⟩ => by
    subst e1
    obtain ⟨x, rfl, r⟩ := repL1 r1
    cases r
    exact ⟨n, rfl, h1, h2, k _ _ _ _ _ o1 f1 wk_range q⟩⟩
def rngAt2 (P : WQ) (ss : List S) (Ω1 : Om) : Prop := ∃ m n : Int, ss = [.int m, .int n] ∧ (-(2 ^ 62) ≤ m ∧ m < 2 ^ 62 ∧ -(2 ^ 62) ≤ n ∧ n < 2 ^ 62) ∧ P (ups m (n - m).toNat) (fun _ => True) Ω1
def wiRng2 (wa : WA) : WI := fun Γ Ω P => wa Γ Ω fun ss Ω1 => rngAt2 P ss Ω1
theorem oi_rng2 {ta : TA} {wa : WA} (hg : Gl X "range") (hm : X.mg "range" = none) (h : OA X [a, b] ta wa) (hs : starEach [a, b] X.env = [(false, eval a X.env), (false, eval b X.env)] := by rfl) (hs2 : starEach [b] X.env = [(false, eval b X.env)] := by rfl) :
    OI X tg (.Call (.Name "range" p) [a, b] [] pos) (iRng2 ta) (wiRng2 wa) :=
  ⟨pi_range2 hg hm h.pe hs hs2, fun Z σ H Γ Ω P R ok en w k => h.se Z σ H Γ Ω _ _ ok en w fun v s Ω1 H1 o1 f1 r1 ⟨m, n, e1, h1, q⟩ => by
    subst e1
    obtain ⟨x, y, rfl, r, r'⟩ := repL2 r1
    cases r; cases r'
    exact ⟨m, n, rfl, h1, k _ _ _ _ _ o1 f1 wk_range q⟩⟩
/-- n - 1, .., 0 -/
def downs (n : Nat) : List S := (List.range n).map fun i => .int ((n : Int) - 1 - (i : Nat))
theorem downs_len {n : Nat} : (downs n).length = n := by unfold downs; rw [List.length_map, List.length_range]
theorem downs_at {n i : Nat} (h : i < n) : (downs n)[i]? = some (.int ((n : Int) - 1 - (i : Nat))) := by
  unfold downs
  rw [List.getElem?_map, List.getElem?_range h]
  rfl
def downAt (P : WQ) (s : S) (Ω1 : Om) : Prop := ∃ n : Int, s = .int n ∧ -(2 ^ 62) ≤ n ∧ n < 2 ^ 62 ∧ P (downs n.toNat) (fun _ => True) Ω1
def wiDown (we : WE) : WI := fun Γ Ω P => we Γ Ω fun s Ω1 => downAt P s Ω1
theorem wk_down {K : PySem.W.Frag} {Z : Addr → Prop} {n : Nat} {lo : Int} {Ω1 : Om} {H1 : Hp} (h : lo = (n : Int) - 1) : Wk K Z (Itc lo (-1) n) (downs n) (fun _ => True) Ω1 H1 := fun Z2 Ω' H' hz o f g =>
  ⟨fun i hi => by rw [downs_len] at hi; exact hi, Nat.le_of_eq downs_len.symm, fun i x H2 hi y => by
    obtain ⟨rfl, rfl⟩ := y
    rw [downs_len] at hi
    refine ⟨_, downs_at hi, o, .refl, ?_⟩
    have e : lo + (i : Nat) * (-1) = (n : Int) - 1 - (i : Nat) := by omega
    rw [e]
    exact .int _⟩
theorem oi_down {p1 p2 : Pos} (hg : Gl X "reversed") (hm : X.mg "reversed" = none) (hg2 : Gl X "range") (hm2 : X.mg "range" = none) (h : OE X e te we) (na : starEach [e] X.env = (false, eval e X.env) :: starEach [] X.env := by rfl)
    (hs : starEach [.Call (.Name "range" p1) [e] [] p2] X.env = (false, eval (.Call (.Name "range" p1) [e] [] p2) X.env) :: starEach [] X.env := by rfl) :
    OI X tg (.Call (.Name "reversed" p) [.Call (.Name "range" p1) [e] [] p2] [] pos) (iRevR (tRg1 te)) (wiDown we) :=
  ⟨pi_revR hg hm (prg_1 hg2 hm2 h.pe na) hs, fun Z σ H Γ Ω P R ok en w k => h.se Z σ H Γ Ω _ _ ok en w fun v s Ω1 H1 o1 f1 r1 ⟨n, e1, h1, h2, q⟩ => by
    subst e1
    cases r1
    refine ⟨n, rfl, by decide, by decide, h1, h2, ?_⟩
    have e2 : (n - 0).toNat = n.toNat := by rw [Int.sub_zero]
    rw [e2]
    exact k _ _ _ _ _ o1 f1 (wk_down (by omega)) q⟩
/-- pairs that are made as the walk goes -/
theorem wk_pairs {K : PySem.W.Frag} {Z2 : Addr → Prop} {Ω' : Om} {H' : Hp} {T : Addr} {x y : V} {sx sy : S} (o : Ok K Z2 Ω' H') (hT : H' T = none) (rx : Rep K (mu Z2 Ω') H' x sx) (ry : Rep K (mu Z2 Ω') H' y sy) :
    Ok K Z2 Ω' (upd H' T (.tup [x, y])) ∧ Frm Ω' H' Ω' (upd H' T (.tup [x, y])) ∧ Rep K (mu Z2 Ω') (upd H' T (.tup [x, y])) (.ref T) (.tup [sx, sy]) :=
  ⟨o.new hT, frm_new hT, .tup (o.fresh hT) upd_same ((frm_new hT).repL o (.cons rx (.cons ry .nil)))⟩
theorem seq_at {K : PySem.W.Frag} {Z Z2 : Addr → Prop} {Ω1 Ω' : Om} {H1 H' : Hp} {v : V} {s : S} {ss : List S} {l : Addr} (o : Ok K Z Ω1 H1) (r : Rep K (mu Z Ω1) H1 v s) (e : asL Ω1 s = some ss) (ea : v = .ref l)
    (hz : ∀ a, Z2 a → Z a ∨ H1 a = none) (o' : Ok K Z2 Ω' H') (f : Frm Ω1 H1 Ω' H') (g : seqG s ss Ω') : ∃ xs, SqL K H' l xs ∧ RepL K (mu Z2 Ω') H' xs ss := by
  subst ea
  cases r with
  | lst h0 h r =>
    cases e
    exact ⟨_, .inl (.inl (f.keep _ _ h (no_some fun q => h0 (.inr q)))), repL_later hz f r⟩
  | sc h0 h r =>
    cases e
    exact ⟨_, .inl (rd_keep (fun o e => f.keep _ _ e (no_some fun q => h0 (.inr q))) h), repL_later hz f r⟩
  | wl h r =>
    cases e
    exact ⟨_, h H', repL_later hz f r⟩
  | adr =>
    obtain ⟨xs, h1, h2⟩ := o'.cells _ _ (g _ rfl)
    exact ⟨xs, .inl (.inl h1), h2⟩
  | _ => cases e
def enumL (k : Nat) : List S → List S
  | [] => []
  | s :: r => .tup [.int (k : Nat), s] :: enumL (k + 1) r
theorem enumL_len : ∀ {k : Nat} {ss : List S}, (enumL k ss).length = ss.length
  | _, [] => rfl
  | k, s :: r => congrArg (· + 1) (enumL_len (k := k + 1) (ss := r))
theorem enumL_at : ∀ {k i : Nat} {ss : List S} {s : S}, ss[i]? = some s → (enumL k ss)[i]? = some (.tup [.int ((k + i : Nat) : Int), s])
  | _, _, [], _, h => by simp at h
  | k, 0, x :: r, s, h => by
    simp at h
    subst h
    rfl
  | k, i + 1, x :: r, s, h => by
    have q := enumL_at (k := k + 1) (i := i) (ss := r) (s := s) (by simpa using h)
    have e : k + 1 + i = k + (i + 1) := by omega
    rw [e] at q
    simpa [enumL] using q
def enumAt (P : WQ) (as : List S) (Ω1 : Om) : Prop := ∃ s ss, as = [s] ∧ asL Ω1 s = some ss ∧ P (enumL 0 ss) (seqG s ss) Ω1
def wiEnum (wa : WA) : WI := fun Γ Ω P => wa Γ Ω fun as Ω1 => enumAt P as Ω1
theorem oi_enum {K : PySem.W.Frag} {ta : TA} {wa : WA} {tpos : Pos} {elts : List Expr} {kk : Nat} (hg : Gl X "enumerate") (hm : X.mg "enumerate" = none) (h : OA X [e] ta wa) (hs : starEach [e] X.env = [(false, eval e X.env)] := by rfl) (hK : X.K = K := by rfl) :
    OI X (.Tuple elts kk tpos) (.Call (.Name "enumerate" p) [e] [] pos) (iEnum K ta) (wiEnum wa) := by
  subst hK
  exact ⟨pi_enum hg hm h.pe hs, fun Z σ H Γ Ω P R ok en w k => h.se Z σ H Γ Ω _ _ ok en w fun v as Ω1 H1 o1 f1 r1 ⟨s, ss, e1, e2, q⟩ => by
    subst e1
    obtain ⟨x, rfl, r⟩ := repL1 r1
    obtain ⟨l, xs, rfl, hq, _⟩ := rep_L o1 r e2
    refine ⟨l, xs, rfl, hq, k _ _ _ _ _ o1 f1 (fun Z2 Ω' H' hz o' f' g => ?_) q⟩
    obtain ⟨ys, hy, ry⟩ := seq_at o1 r e2 rfl hz o' f' g
    rw [enumL_len]
    refine ⟨fun i hi => ?_, ⟨ys, hy, Nat.le_of_eq ry.length⟩, fun i x H2 hi y => ?_⟩
    · obtain ⟨v, h1, _⟩ := ry.get (List.getElem?_eq_getElem hi)
      exact ⟨ys, v, hy, h1⟩
    · obtain ⟨T, z, rfl, hT, rfl, hx⟩ := y
      obtain ⟨u, h1, h2⟩ := ry.getV (hx ys hy)
      obtain ⟨p1, p2, p3⟩ := wk_pairs o' hT (.int (i : Nat)) h2
      refine ⟨_, enumL_at h1, p1, p2, ?_⟩
      rw [Nat.zero_add]
      exact p3⟩
def zipL : List S → List S → List S
  | s :: r, u :: q => .tup [s, u] :: zipL r q
  | _, _ => []
theorem zipL_len : ∀ {a b : List S}, (zipL a b).length = min a.length b.length
  | [], _ => by simp [zipL]
  | _ :: _, [] => by simp [zipL]
  | s :: r, u :: q => by
    show (zipL r q).length + 1 = min (r.length + 1) (q.length + 1)
    rw [zipL_len (a := r) (b := q)]
    omega
theorem zipL_at : ∀ {i : Nat} {a b : List S} {s u : S}, a[i]? = some s → b[i]? = some u → (zipL a b)[i]? = some (.tup [s, u])
  | _, [], _, _, _, h, _ => by simp at h
  | _, _ :: _, [], _, _, _, h => by simp at h
  | 0, x :: a, y :: b, s, u, h, h' => by
    simp at h h'
    subst h h'
    rfl
  | i + 1, x :: a, y :: b, s, u, h, h' => by
    have q := zipL_at (i := i) (a := a) (b := b) (s := s) (u := u) (by simpa using h) (by simpa using h')
    simpa [zipL] using q
def zipAt (P : WQ) (as : List S) (Ω1 : Om) : Prop := ∃ s u ss us, as = [s, u] ∧ asL Ω1 s = some ss ∧ asL Ω1 u = some us ∧ P (zipL ss us) (fun Ω' => seqG s ss Ω' ∧ seqG u us Ω') Ω1
def wiZip (wa : WA) : WI := fun Γ Ω P => wa Γ Ω fun as Ω1 => zipAt P as Ω1
theorem oi_zip {K : PySem.W.Frag} {ta : TA} {wa : WA} {tpos : Pos} {elts : List Expr} {kk : Nat} (hg : Gl X "zip") (hm : X.mg "zip" = none) (h : OA X [a, b] ta wa)
    (hs : starEach [a, b] X.env = (false, eval a X.env) :: starEach [b] X.env := by rfl) (hpl : (backTo pos (starEach [b] X.env)).any (·.1) = false := by rfl) (hK : X.K = K := by rfl) :
    OI X (.Tuple elts kk tpos) (.Call (.Name "zip" p) [a, b] [] pos) (iZip K ta) (wiZip wa) := by
  subst hK
  exact ⟨pi_zip hg hm h.pe hs hpl, fun Z σ H Γ Ω P R ok en w k => h.se Z σ H Γ Ω _ _ ok en w fun v as Ω1 H1 o1 f1 r1 ⟨s, u, ss, us, e1, e2, e3, q⟩ => by
    subst e1
    obtain ⟨x, y, rfl, r, r'⟩ := repL2 r1
    obtain ⟨l, xs, rfl, hq, _⟩ := rep_L o1 r e2
    obtain ⟨m, ys, rfl, hq', _⟩ := rep_L o1 r' e3
    refine ⟨l, m, xs, ys, rfl, hq, hq', k _ _ _ _ _ o1 f1 (fun Z2 Ω' H' hz o' f' g => ?_) q⟩
    obtain ⟨xs2, hx, rx⟩ := seq_at o1 r e2 rfl hz o' f' g.1
    obtain ⟨ys2, hy, ry⟩ := seq_at o1 r' e3 rfl hz o' f' g.2
    rw [zipL_len]
    refine ⟨fun i hi => ?_, ⟨xs2, ys2, hx, hy, by rw [rx.length, ry.length]; omega⟩, fun i x H2 hi y => ?_⟩
    · obtain ⟨v, h1, _⟩ := rx.get (List.getElem?_eq_getElem (show i < ss.length by omega))
      obtain ⟨v', h1', _⟩ := ry.get (List.getElem?_eq_getElem (show i < us.length by omega))
      exact ⟨xs2, ys2, v, v', hx, hy, h1, h1'⟩
    · obtain ⟨T, z, z', rfl, hT, rfl, h1, h2⟩ := y
      obtain ⟨c, c1, c2⟩ := rx.getV (h1 xs2 hx)
      obtain ⟨d, d1, d2⟩ := ry.getV (h2 ys2 hy)
      obtain ⟨p1, p2, p3⟩ := wk_pairs o' hT c2 d2
      exact ⟨_, zipL_at c1 d1, p1, p2, p3⟩⟩

/-! ### for -/
def forAt (wg : WG) (wb : WS) (O : OEnds) (Γ : Ga) (ss : List S) (G : Om → Prop) (Ω1 : Om) : Prop := ∃ Pv : Nat → Ga → Om → Prop, Pv 0 Γ Ω1 ∧ (∀ i Γ' Ω', i ≤ ss.length → Pv i Γ' Ω' → G Ω') ∧
  (∀ i s Γ' Ω', ss[i]? = some s → Pv i Γ' Ω' → wg s Γ' Ω' fun Γ2 Ω2 => wb { O with nx := Pv (i + 1), ct := Pv (i + 1), bk := O.nx } Γ2 Ω2) ∧ ∀ Γ' Ω', Pv ss.length Γ' Ω' → O.nx Γ' Ω'
def wFor (ww : WI) (wg : WG) (wb : WS) : WS := fun O Γ Ω => ww Γ Ω fun ss G Ω1 => forAt wg wb O Γ ss G Ω1
theorem os_for {iter : Expr} {body : List Stmt} {wi : TI} {ww : WI} {js : List Nat} {g : TG} {wg : WG} {tb : TS} {wb : WS} (hp : PassesOwn (model X.prog X.w) X.A X.env X.xe) (hc : X.calm = true) (hi : OI X tg iter wi ww) (hg : OG X tg js g wg) (hb : OSs X body tb wb)
    (hs : ∀ x, foldedSetIterable iter X.env x = pure x := by intro _; rfl) : OS X (.For tg iter body [] pos) (tFor wi g tb) (wFor ww wg wb) :=
  ⟨ps_for hp hc hi.pe hg.pe hb.pe hs, fun Z σ H Γ Ω O D ok en w k => hi.se Z σ H Γ Ω _ _ ok en w fun J ss G Ω1 H1 o1 f1 wk q => by
    obtain ⟨Pv, h0, hG, hst, hd⟩ := q
    refine ⟨fun i m σ' H' => m = ss.length - i ∧ i ≤ ss.length ∧ ∃ Γ' Ω', Ok X.K Z Ω' H' ∧ Frm Ω1 H1 Ω' H' ∧ Env X.K Z Ω' H' σ' Γ' ∧ Pv i Γ' Ω', ⟨_, rfl, Nat.zero_le _, Γ, Ω1, o1, .refl, en.frm f1 ok, h0⟩, ?_⟩
    rintro i m σ' H' ⟨rfl, hi, Γ', Ω', o', f', e', p⟩
    obtain ⟨w1, w2, w3⟩ := wk Z Ω' H' (fun a h => .inl h) o' f' (hG i Γ' Ω' hi p)
    by_cases hl : i < ss.length
    · refine .inr ⟨w1 i hl, fun σ2 H2 => i < ss.length ∧ ∃ Γ2 Ω2, Ok X.K Z Ω2 H2 ∧ Frm Ω1 H1 Ω2 H2 ∧ Env X.K Z Ω2 H2 σ2 Γ2 ∧ Pv (i + 1) Γ2 Ω2, fun σ2 H2 ⟨_, n⟩ => ⟨ss.length - (i + 1), by omega, rfl, hl, n⟩, fun x H2 y => ?_⟩
      obtain ⟨s, hs, o2, f2, r2⟩ := w3 i x H2 hl y
      refine hg.se Z x s σ' H2 Γ' Ω' _ _ o2 (e'.frm f2 o') r2 (hst i s Γ' Ω' hs p) fun σ3 Γ3 Ω3 H3 o3 f3 e3 _ p3 => ?_
      have F : Frm Ω1 H1 Ω3 H3 := f'.trans (f2.trans f3)
      have kk := k.frm (f1.trans F)
      exact hb.se Z σ3 H3 Γ3 Ω3 _ _ o3 e3 p3 ⟨fun σ4 Γ4 Ω4 H4 o4 f4 e4 p4 => ⟨hl, Γ4, Ω4, o4, F.trans f4, e4, p4⟩, kk.rt, kk.nx, fun σ4 Γ4 Ω4 H4 o4 f4 e4 p4 => ⟨hl, Γ4, Ω4, o4, F.trans f4, e4, p4⟩⟩
    · have ei : i = ss.length := by omega
      subst ei
      exact .inl ⟨w2, (k.frm (f1.trans f')).nx _ _ _ _ o' .refl e' (hd _ _ p)⟩⟩
def wWhile (c : WT) (wb : WS) : WS := fun O Γ Ω => ∃ W : Nat → Ga → Om → Prop, (∃ m, W m Γ Ω) ∧ ∀ m Γ Ω, W m Γ Ω →
  c Γ Ω fun b Ω1 => if b = true then wb { O with nx := fun Γ' Ω' => ∃ m', m' < m ∧ W m' Γ' Ω', ct := fun Γ' Ω' => ∃ m', m' < m ∧ W m' Γ' Ω', bk := O.nx } Γ Ω1 else O.nx Γ Ω1
theorem os_while {c : Expr} {body : List Stmt} {tc : TT} {wc : WT} {tb : TS} {wb : WS} (hp : PassesOwn (model X.prog X.w) X.A X.env X.xe) (hc : OT X c tc wc) (hb : OSs X body tb wb) : OS X (.While c body [] pos) (tWhile tc tb) (wWhile wc wb) :=
  ⟨ps_while hp hc.pe hb.pe, fun Z σ H Γ Ω O D ok en w k => by
    obtain ⟨W, ⟨m0, w0⟩, hst⟩ := w
    refine ⟨fun m σ' H' => ∃ Γ' Ω', Ok X.K Z Ω' H' ∧ Frm Ω H Ω' H' ∧ Env X.K Z Ω' H' σ' Γ' ∧ W m Γ' Ω', ⟨m0, Γ, Ω, ok, .refl, en, w0⟩, ?_⟩
    rintro m σ' H' ⟨Γ', Ω', o', f', e', p⟩
    refine hc.se Z σ' H' Γ' Ω' _ _ o' e' (hst m Γ' Ω' p) fun b Ω1 H1 o1 f1 p1 => ?_
    have kk := k.frm (f'.trans f1)
    cases b with
    | true =>
      refine ⟨fun σ2 H2 => ∃ m', m' < m ∧ ∃ Γ2 Ω2, Ok X.K Z Ω2 H2 ∧ Frm Ω H Ω2 H2 ∧ Env X.K Z Ω2 H2 σ2 Γ2 ∧ W m' Γ2 Ω2, fun σ2 H2 n => n, ?_⟩
      exact hb.se Z σ' H1 Γ' Ω1 _ _ o1 (e'.frm f1 o') p1 ⟨fun σ4 Γ4 Ω4 H4 o4 f4 e4 ⟨m', l, p4⟩ => ⟨m', l, Γ4, Ω4, o4, (f'.trans f1).trans f4, e4, p4⟩, kk.rt, kk.nx, fun σ4 Γ4 Ω4 H4 o4 f4 e4 ⟨m', l, p4⟩ => ⟨m', l, Γ4, Ω4, o4, (f'.trans f1).trans f4, e4, p4⟩⟩
    | false => exact kk.nx _ _ _ _ o1 .refl (e'.frm f1 o') p1⟩
end
end Om
/-! Om: comprehensions, defs and their calls, ways of seeing. -/
namespace Om
open PySem L2

/-! ### comprehensions -/
def wipeG (Γ : Ga) : List Nat → Ga
  | [] => Γ
  | v :: vs => st (wipeG Γ vs) v none
section
variable {K : PySem.W.Frag} {Z Z2 : Addr → Prop} {Ω Ω1 Ω2 : Om} {H H1 H2 : Hp} {σ σ' : L2.St} {Γ : Ga}
theorem Env.wipe (e : Env K Z Ω H σ Γ) : ∀ vs : List Nat, Env K Z Ω H (wipe σ vs) (wipeG Γ vs)
  | [] => e
  | _ :: vs => (Env.wipe e vs).unset
theorem Only.wipe {js vs : List Nat} (h : Only js (wipe σ vs) σ') (hj : ∀ j ∈ js, j ∈ vs) : wipe σ' vs = wipe σ vs := by
  have hw : ∀ (τ : L2.St) (ws : List Nat) (j : Nat), (L2.wipe τ ws)[j]? = if j ∈ ws ∧ j < τ.length then some none else τ[j]? := by
    intro τ ws
    induction ws with
    | nil => intro j; simp [L2.wipe]
    | cons v ws ih =>
      intro j
      unfold L2.wipe
      by_cases e : v = j
      · subst e
        by_cases hl : v < τ.length
        · rw [List.getElem?_set_self (by rw [wipe_length]; exact hl)]
          simp [hl]
        · rw [List.getElem?_eq_none (by rw [List.length_set, wipe_length]; omega)]
          rw [if_neg (fun q => hl q.2), List.getElem?_eq_none (by omega)]
      · rw [List.getElem?_set_ne e, ih j]
        have q : (j ∈ v :: ws) ↔ j ∈ ws := by simp [List.mem_cons, show ¬ j = v from fun z => e z.symm]
        by_cases h1 : j ∈ ws ∧ j < τ.length
        · rw [if_pos h1, if_pos ⟨q.mpr h1.1, h1.2⟩]
        · rw [if_neg h1, if_neg (fun z => h1 ⟨q.mp z.1, z.2⟩)]
  apply List.ext_getElem?
  intro j
  rw [hw, hw]
  have hl : σ'.length = σ.length := by rw [h.1, wipe_length]
  rw [hl]
  by_cases h1 : j ∈ vs ∧ j < σ.length
  · rw [if_pos h1, if_pos h1]
  · rw [if_neg h1, if_neg h1]
    by_cases h2 : j ∈ vs
    · have h3 : ¬ j < σ.length := fun z => h1 ⟨h2, z⟩
      rw [List.getElem?_eq_none (by omega), List.getElem?_eq_none (by omega)]
    · rw [h.2 j (fun z => h2 (hj j z)), hw, if_neg (fun z => h2 z.1)]
/-- a thing that stands apart is hidden -/
def hide (Z : Addr → Prop) (D : Addr) : Addr → Prop := fun a => Z a ∨ a = D
theorem mu_hide {D a : Addr} (h : ¬ mu Z Ω a) (ne : a ≠ D) : ¬ mu (hide Z D) Ω a := by
  rintro ((q | q) | q)
  · exact h (.inl q)
  · exact ne q
  · exact h (.inr q)
theorem mu_show {D a : Addr} (h : ¬ mu (hide Z D) Ω a) : ¬ mu Z Ω a ∧ a ≠ D := ⟨fun q => h (q.elim (fun z => .inl (.inl z)) .inr), fun q => h (.inl (.inr q))⟩
theorem ok_hide {D : Addr} {u : HO} (o : Ok K Z Ω H) (hD : H D = none) : Ok K (hide Z D) Ω (upd H D u) := by
  refine ⟨fun a c h => ?_, fun a h => ?_⟩
  · exact CellRep.keep (o.cells a c h) (fun x e => by rw [upd_ne (ne_of_none e hD)]; exact e) (fun b x e _ => by rw [upd_ne (ne_of_none e hD)]; exact e) fun b x e q => mu_hide q (ne_of_none e hD)
  · rcases h with h | h
    · obtain ⟨h1, x, e⟩ := o.hid a h
      exact ⟨h1, x, by rw [upd_ne (ne_of_none e hD)]; exact e⟩
    · subst h
      exact ⟨o.freshO hD, u, upd_same⟩
theorem env_hide {D : Addr} {u : HO} (e : Env K Z Ω H σ Γ) (hD : H D = none) : Env K (hide Z D) Ω (upd H D u) σ Γ :=
  ⟨e.len, fun i s h => let ⟨v, h1, h2⟩ := e.at_ i s h; ⟨v, h1, h2.keep (fun a o q _ => by rw [upd_ne (ne_of_none q hD)]; exact q) fun a o q n => mu_hide n (ne_of_none q hD)⟩⟩
/-- the hidden thing changes -/
theorem ok_upd {D : Addr} {u : HO} (o : Ok K (hide Z D) Ω H) : Ok K (hide Z D) Ω (upd H D u) := by
  have hne : ∀ a, Ω a ≠ none → a ≠ D := fun a h e => h (by rw [e]; exact (o.hid D (.inr rfl)).1)
  refine ⟨fun a c h => ?_, fun a h => ?_⟩
  · have ne := hne a (by rw [h]; simp)
    exact CellRep.keep (o.cells a c h) (fun x e => by rw [upd_ne ne]; exact e) (fun b x e n => by rw [upd_ne (mu_show n).2]; exact e) fun _ _ _ n => n
  · obtain ⟨h1, x, e⟩ := o.hid a h
    refine ⟨h1, ?_⟩
    by_cases q : a = D
    · subst q; exact ⟨u, upd_same⟩
    · exact ⟨x, by rw [upd_ne q]; exact e⟩
theorem repL_updD {D : Addr} {u : HO} {vs : List V} {ss : List S} (r : RepL K (mu (hide Z D) Ω) H vs ss) : RepL K (mu (hide Z D) Ω) (upd H D u) vs ss :=
  r.keep (fun a x e n => by rw [upd_ne (mu_show n).2]; exact e) fun _ _ _ n => n
theorem repL_show {D : Addr} {vs : List V} {ss : List S} (r : RepL K (mu (hide Z D) Ω) H vs ss) : RepL K (mu Z Ω) H vs ss := r.keep (fun _ _ e _ => e) fun _ _ _ n => (mu_show n).1
theorem ok_show {D : Addr} (o : Ok K (hide Z D) Ω H) : Ok K Z Ω H :=
  ⟨fun a c h => CellRep.keep (o.cells a c h) (fun _ e => e) (fun _ _ e _ => e) fun _ _ _ n => (mu_show n).1, fun a h => o.hid a (.inl h)⟩
end
structure OTs (X : Cx) (ifs : List Expr) (t : TT) (w : WT) : Prop where
  pe : PTs X ifs t
  se : ST X.K t w
def wYes : WT := fun _ Ω P => P true Ω
def lcAt (wg : WG) (wt : WT) (we : WE) (Γw : Ga) (P : WP) (ss : List S) (G : Om → Prop) (Ω1 : Om) : Prop := ∃ Pv : Nat → List S → Om → Prop, Pv 0 [] Ω1 ∧ (∀ i acc Ω', i ≤ ss.length → Pv i acc Ω' → G Ω') ∧
  (∀ i s acc Ω', ss[i]? = some s → Pv i acc Ω' → wg s Γw Ω' fun Γ2 Ω2 => wt Γ2 Ω2 fun b Ω3 => if b = true then we Γ2 Ω3 fun y Ω4 => acc.length < sizeLine ∧ Pv (i + 1) (acc ++ [y]) Ω4 else Pv (i + 1) acc Ω3) ∧
  ∀ acc Ω', Pv ss.length acc Ω' → nw acc Ω' P
def wLc (ww : WI) (wg : WG) (wt : WT) (we : WE) (vs : List Nat) : WE := fun Γ Ω P => ww Γ Ω fun ss G Ω1 => lcAt wg wt we (wipeG Γ vs) P ss G Ω1
section
variable {X : Cx}
theorem ots_nil : OTs X [] tYes wYes := ⟨pts_nil, fun Z σ H Γ Ω P Q ok en w k => k _ _ _ ok .refl w⟩
theorem ots_one {c : Expr} {t : TT} {w : WT} (h : OT X c t w) : OTs X [c] t w := ⟨pts_one h.pe, h.se⟩
theorem se_lc {K : PySem.W.Frag} {wi : TI} {ww : WI} {js vs : List Nat} {g : TG} {wg : WG} {tt : TT} {wt : WT} {te : TE} {we : WE} (hi : SI K wi ww) (hg : SG K js g wg) (ht : ST K tt wt) (he : SE K te we) (hj : ∀ j ∈ js, j ∈ vs) : SE K (tLc wi g tt te vs) (wLc ww wg wt we vs) := by
  intro Z σ H Γ Ω P Q ok en w k
  refine hi Z σ H Γ Ω _ _ ok en w fun J ss G Ω1 H1 o1 f1 wk q => ?_
  obtain ⟨Pv, h0, hG, hst, hd⟩ := q
  intro D hD
  have e1 := en.frm f1 ok
  refine ⟨fun i m H' => m = ss.length - i ∧ i ≤ ss.length ∧ ∃ acc xs Ω', Ok K (hide Z D) Ω' H' ∧ Frm Ω1 H1 Ω' H' ∧ Env K (hide Z D) Ω' H' (wipe σ vs) (wipeG Γ vs) ∧ H' D = some (.lst xs) ∧ RepL K (mu (hide Z D) Ω') H' xs acc ∧ Pv i acc Ω',
    ⟨_, rfl, Nat.zero_le _, [], [], Ω1, ok_hide o1 hD, frm_new hD, (env_hide e1 hD).wipe vs, upd_same, .nil, h0⟩, ?_⟩
  rintro i m H' ⟨rfl, hi, acc, xs, Ω', o', f', e', hd', ra, p⟩
  obtain ⟨w1, w2, w3⟩ := wk (hide Z D) Ω' H' (fun a h => h.elim .inl fun e => .inr (by rw [e]; exact hD)) o' f' (hG i acc Ω' hi p)
  by_cases hl : i < ss.length
  · refine .inr ⟨w1 i hl, fun H2 => i < ss.length ∧ ∃ acc xs Ω', Ok K (hide Z D) Ω' H2 ∧ Frm Ω1 H1 Ω' H2 ∧ Env K (hide Z D) Ω' H2 (wipe σ vs) (wipeG Γ vs) ∧ H2 D = some (.lst xs) ∧ RepL K (mu (hide Z D) Ω') H2 xs acc ∧ Pv (i + 1) acc Ω',
      fun H2 ⟨_, n⟩ => ⟨ss.length - (i + 1), by omega, rfl, hl, n⟩, fun x H2 y => ?_⟩
    obtain ⟨s, hs, o2, f2, r2⟩ := w3 i x H2 hl y
    have zD : ∀ {Ωa : Om} {Ha : Hp}, Ok K (hide Z D) Ωa Ha → Ωa D = none := fun o => (o.hid D (.inr rfl)).1
    refine hg (hide Z D) x s (wipe σ vs) H2 (wipeG Γ vs) Ω' _ _ o2 (e'.frm f2 o') r2 (hst i s acc Ω' hs p) fun σ3 Γ3 Ω3 H3 o3 f3 e3 n3 p3 => ?_
    refine ⟨n3.wipe hj, ht (hide Z D) σ3 H3 Γ3 Ω3 _ _ o3 e3 p3 fun b Ω4 H4 o4 f4 p4 => ?_⟩
    cases b with
    | false =>
      have F := f2.trans (f3.trans f4)
      exact ⟨hl, acc, xs, Ω4, o4, f'.trans F, e'.frm F o', F.keep _ _ hd' (zD o'), F.repL o' ra, p4⟩
    | true =>
      refine he (hide Z D) σ3 H4 Γ3 Ω4 _ _ o4 (e3.frm f4 o3) p4 fun v y Ω5 H5 o5 f5 r5 p5 => ?_
      have F := f2.trans (f3.trans (f4.trans f5))
      have ra5 := F.repL o' ra
      refine ⟨xs, F.keep _ _ hd' (zD o'), by rw [ra5.length]; exact p5.1, hl, acc ++ [y], xs ++ [v], Ω5, ok_upd o5, ⟨fun a o e h => ?_, (f'.trans F).dom⟩, ?_, upd_same, repL_updD (ra5.append (.cons r5 .nil)), p5.2⟩
      · rw [upd_ne (ne_of_none e hD)]
        exact (f'.trans F).keep a o e h
      · exact ⟨e'.len, fun j s h => let ⟨v, h1, h2⟩ := (e'.frm F o').at_ j s h; ⟨v, h1, h2.keep (fun a x e n => by rw [upd_ne (mu_show n).2]; exact e) fun _ _ _ n => n⟩⟩
  · have ei : i = ss.length := by omega
    subst ei
    have nD : ¬ mu Z Ω' D := by
      rintro (q | q)
      · obtain ⟨_, x, e⟩ := o1.hid D q
        rw [hD] at e; cases e
      · exact q ((o'.hid D (.inr rfl)).1)
    have F := f1.trans f'
    have os := ok_show o'
    refine .inl ⟨w2, ?_⟩
    rcases hd _ _ p with q | q
    · exact k _ _ Ω' H' os F (.lst nD hd' (repL_show ra)) q
    · have zd := (o'.hid D (.inr rfl)).1
      refine k _ _ (put Ω' D (.lst acc)) H' ?_ ?_ (.adr D) (q D zd)
      · refine ⟨fun a c h => ?_, fun a h => ?_⟩
        · by_cases e : a = D
          · subst e
            rw [put_same] at h
            cases h
            exact ⟨xs, hd', ra.keep (fun _ _ e _ => e) fun b _ _ n => mu_put (mu_show n).1 (mu_show n).2⟩
          · rw [put_ne e] at h
            exact CellRep.keep (o'.cells a c h) (fun _ e => e) (fun _ _ e _ => e) fun b _ _ n => mu_put (mu_show n).1 (mu_show n).2
        · obtain ⟨h1, x⟩ := os.hid a h
          exact ⟨by rw [put_ne (fun e => nD (.inl (by rw [← e]; exact h)))]; exact h1, x⟩
      · refine ⟨F.keep, fun a h => ?_⟩
        by_cases e : a = D
        · subst e
          cases z : H a with
          | none => exact .inr rfl
          | some o =>
            by_cases zo : Ω a = none
            · rw [f1.keep a o z zo] at hD; cases hD
            · exact .inl zo
        · rw [put_ne e] at h
          exact F.dom a h
theorem oe_lc {elt tg iter : Expr} {ifs : List Expr} {scope : Scope} {own : List (Str × Nat)} {pos : Pos} {wi : TI} {ww : WI} {js : List Nat} {g : TG} {wg : WG} {tt : TT} {wt : WT} {te : TE} {we : WE} (hc : X.calm = true) (hN : X.N.Nodup) (hi : OI X tg iter wi ww) (ok : BlkOk X.N X.env.scope scope own)
    (hg : ∀ (s : Shared) (H : Hp) (C : Addr) (cl : List (Str × Addr)) (fp : List Addr), OG (X.blk s H scope (compEnvC scope cl C X.env) fp) tg js g wg) (ht : ∀ (s : Shared) (H : Hp) (C : Addr) (cl : List (Str × Addr)) (fp : List Addr), OTs (X.blk s H scope (compEnvC scope cl C X.env) fp) ifs tt wt)
    (he : ∀ (s : Shared) (H : Hp) (C : Addr) (cl : List (Str × Addr)) (fp : List Addr), OE (X.blk s H scope (compEnvC scope cl C X.env) fp) elt te we) (hj : ∀ j ∈ js, j ∈ own.map (·.2)) (hs : ∀ x, foldedSetIterable iter X.env x = pure x := by intro _; rfl) :
    OE X (.ListComp elt [⟨tg, iter, ifs, 0⟩] scope pos) (tLc wi g tt te (own.map (·.2))) (wLc ww wg wt we (own.map (·.2))) :=
  ⟨pe_lc hc hN hi.pe ok (fun s H C cl fp => (hg s H C cl fp).pe) (fun s H C cl fp => (ht s H C cl fp).pe) (fun s H C cl fp => (he s H C cl fp).pe) hs,
    se_lc hi.se (hg X.s_0 X.H_0 0 [] []).se (ht X.s_0 X.H_0 0 [] []).se (he X.s_0 X.H_0 0 [] []).se hj⟩
theorem os_setLc {i : Nat} {y : Str} {py : Pos} {elt tg iter : Expr} {ifs : List Expr} {scope : Scope} {own : List (Str × Nat)} {pos spos : Pos} {wi : TI} {ww : WI} {js : List Nat} {g : TG} {wg : WG} {tt : TT} {wt : WT} {te : TE} {we : WE} (hc : X.calm = true) (hN : X.N.Nodup) (hy : X.N[i]? = some y) (hyl : X.env.scope.names.lookup y = some .local)
    (hsw : swapsWith (.ListComp elt [⟨tg, iter, ifs, 0⟩] scope pos) (some (.Name y py)) spos.line X.env = pure true) (hi : OI X tg iter wi ww) (ok : BlkOk X.N X.env.scope scope own)
    (hg : ∀ (s : Shared) (H : Hp) (C : Addr) (cl : List (Str × Addr)) (fp : List Addr), OG (X.blk s H scope (compEnvC scope cl C X.env) fp) tg js g wg) (ht : ∀ (s : Shared) (H : Hp) (C : Addr) (cl : List (Str × Addr)) (fp : List Addr), OTs (X.blk s H scope (compEnvC scope cl C X.env) fp) ifs tt wt)
    (he : ∀ (s : Shared) (H : Hp) (C : Addr) (cl : List (Str × Addr)) (fp : List Addr), OE (X.blk s H scope (compEnvC scope cl C X.env) fp) elt te we) (hj : ∀ j ∈ js, j ∈ own.map (·.2)) (hs : ∀ x, foldedSetIterable iter X.env x = pure x := by intro _; rfl) :
    OS X (.Assign [.Name y py] (.ListComp elt [⟨tg, iter, ifs, 0⟩] scope pos) spos) (tAsg (tLc wi g tt te (own.map (·.2))) (gName i)) (wSet (wLc ww wg wt we (own.map (·.2))) i) :=
  ⟨ps_setLc hc hN hy hyl hsw hi.pe ok (fun s H C cl fp => (hg s H C cl fp).pe) (fun s H C cl fp => (ht s H C cl fp).pe) (fun s H C cl fp => (he s H C cl fp).pe) hs,
    fun Z σ H Γ Ω O D okk en w k => se_lc hi.se (hg X.s_0 X.H_0 0 [] []).se (ht X.s_0 X.H_0 0 [] []).se (he X.s_0 X.H_0 0 [] []).se hj Z σ H Γ Ω _ _ okk en w fun v s Ω1 H1 o1 f1 r1 p => k.nx _ _ _ _ o1 f1 ((en.frm f1 okk).set r1) p⟩
end

/-! ### seeing things another way: a thing of the store as data from now on; a thing let go -/
def Vw (s : S) (Ω : Om) (s' : S) (Ω' : Om) : Prop := ∀ K Z H v, Ok K Z Ω H → Rep K (mu Z Ω) H v s → Ok K Z Ω' H ∧ Frm Ω H Ω' H ∧ Rep K (mu Z Ω') H v s'
theorem Vw.refl {s : S} {Ω : Om} : Vw s Ω s Ω := fun K Z H v o r => ⟨o, .refl, r⟩
theorem Vw.trans {s s1 s2 : S} {Ω Ω1 Ω2 : Om} (a : Vw s Ω s1 Ω1) (b : Vw s1 Ω1 s2 Ω2) : Vw s Ω s2 Ω2 := fun K Z H v o r => by
  obtain ⟨o1, f1, r1⟩ := a K Z H v o r
  obtain ⟨o2, f2, r2⟩ := b K Z H v o1 r1
  exact ⟨o2, f1.trans f2, r2⟩
theorem Vw.drop {s : S} {Ω : Om} {a : Addr} : Vw s Ω s (drp Ω a) := fun K Z H v o r => ⟨o.drp, frm_drp, frm_drp.rep o r⟩
theorem rep_frz {K : PySem.W.Frag} {Z : Addr → Prop} {Ω : Om} {H : Hp} {a : Addr} {ss : List S} (o : Ok K Z Ω H) (h : Ω a = some (.lst ss)) : Rep K (mu Z (drp Ω a)) H (.ref a) (.lst ss) := by
  obtain ⟨xs, h1, h2⟩ := o.cells a _ h
  refine .lst ?_ h1 (frm_drp.repL o h2)
  rintro (q | q)
  · rw [(o.hid a q).1] at h; cases h
  · rw [drp_same] at q; exact q rfl
theorem Vw.freeze {Ω : Om} {a : Addr} {ss : List S} (h : Ω a = some (.lst ss)) : Vw (.adr a) Ω (.lst ss) (drp Ω a) := fun K Z H v o r => by
  cases r
  exact ⟨o.drp, frm_drp, rep_frz o h⟩
/-- behind a return -/
def seen (P : WP) : WP := fun s Ω => ∃ s' Ω', Vw s Ω s' Ω' ∧ P s' Ω'
theorem Fin.seen {K : PySem.W.Frag} {Z : Addr → Prop} {Ω : Om} {H : Hp} {P : WP} {Q : VK} (k : Fin K Z Ω H P Q) : Fin K Z Ω H (seen P) Q := fun v s Ω' H' o f r ⟨s2, Ω2, vw, p⟩ => by
  obtain ⟨o2, f2, r2⟩ := vw K Z H' v o r
  exact k v s2 Ω2 H' o2 (f.trans f2) r2 p
/-- a block begun with another way of seeing -/
def VwE (Γ : Ga) (Ω : Om) (Γ' : Ga) (Ω' : Om) : Prop := ∀ K Z H σ, Ok K Z Ω H → Env K Z Ω H σ Γ → Ok K Z Ω' H ∧ Frm Ω H Ω' H ∧ Env K Z Ω' H σ Γ'
theorem VwE.refl {Γ : Ga} {Ω : Om} : VwE Γ Ω Γ Ω := fun K Z H σ o e => ⟨o, .refl, e⟩
theorem VwE.trans {Γ Γ1 Γ2 : Ga} {Ω Ω1 Ω2 : Om} (a : VwE Γ Ω Γ1 Ω1) (b : VwE Γ1 Ω1 Γ2 Ω2) : VwE Γ Ω Γ2 Ω2 := fun K Z H σ o e => by
  obtain ⟨o1, f1, e1⟩ := a K Z H σ o e
  obtain ⟨o2, f2, e2⟩ := b K Z H σ o1 e1
  exact ⟨o2, f1.trans f2, e2⟩
theorem VwE.drop {Γ : Ga} {Ω : Om} {a : Addr} : VwE Γ Ω Γ (drp Ω a) := fun K Z H σ o e => ⟨o.drp, frm_drp, e.frm frm_drp o⟩
theorem VwE.freeze {Γ : Ga} {Ω : Om} {i : Nat} {a : Addr} {ss : List S} (hi : gt Γ i = some (.adr a)) (h : Ω a = some (.lst ss)) : VwE Γ Ω (st Γ i (some (.lst ss))) (drp Ω a) := fun K Z H σ o e => by
  refine ⟨o.drp, frm_drp, ?_⟩
  have e2 := e.frm (frm_drp (a := a)) o
  obtain ⟨v, h1, h2⟩ := e.at_ i _ hi
  cases h2
  refine ⟨by rw [st_len]; exact e2.len, fun j u hj => ?_⟩
  rcases gt_st hj with ⟨rfl, e3⟩ | ⟨ne, e3⟩
  · cases e3
    exact ⟨_, h1, rep_frz o h⟩
  · exact e2.at_ j u e3
def wView (w : WS) : WS := fun O Γ Ω => ∃ Γ' Ω', VwE Γ Ω Γ' Ω' ∧ w O Γ' Ω'
theorem oss_view {X : Cx} {sts : List Stmt} {t : TS} {w : WS} (h : OSs X sts t w) : OSs X sts t (wView w) := ⟨h.pe, fun Z σ H Γ Ω O D ok en ⟨Γ', Ω', v, w⟩ k => by
  obtain ⟨o1, f1, e1⟩ := v X.K Z H σ ok en
  exact h.se Z σ H Γ' Ω' O D o1 e1 w (k.frm f1)⟩

/-! ### cuts: what is wanted of a part, and what follows from that alone -/
def wCutS (w : WS) : WS := fun O Γ Ω => ∃ O' : OEnds, w O' Γ Ω ∧ (∀ Γ Ω, O'.nx Γ Ω → O.nx Γ Ω) ∧ (∀ s Ω, O'.rt s Ω → O.rt s Ω) ∧ (∀ Γ Ω, O'.bk Γ Ω → O.bk Γ Ω) ∧ (∀ Γ Ω, O'.ct Γ Ω → O.ct Γ Ω)
theorem os_cut {X : Cx} {s : Stmt} {t : TS} {w : WS} (h : OS X s t w) : OS X s t (wCutS w) := ⟨h.pe, fun Z σ H Γ Ω O D ok en ⟨O', w, h1, h2, h3, h4⟩ k =>
  h.se Z σ H Γ Ω O' D ok en w ⟨fun σ' Γ' Ω' H' o f e p => k.nx σ' Γ' Ω' H' o f e (h1 _ _ p), fun v s Ω' H' o f r p => k.rt v s Ω' H' o f r (h2 _ _ p), fun σ' Γ' Ω' H' o f e p => k.bk σ' Γ' Ω' H' o f e (h3 _ _ p), fun σ' Γ' Ω' H' o f e p => k.ct σ' Γ' Ω' H' o f e (h4 _ _ p)⟩⟩
def wCut (w : WE) : WE := fun Γ Ω P => ∃ P' : WP, w Γ Ω P' ∧ ∀ s Ω, P' s Ω → P s Ω
theorem oe_cut {X : Cx} {e : Expr} {t : TE} {w : WE} (h : OE X e t w) : OE X e t (wCut w) := ⟨h.pe, fun Z σ H Γ Ω P Q ok en ⟨P', w, h1⟩ k => h.se Z σ H Γ Ω P' Q ok en w fun v s Ω' H' o f r p => k v s Ω' H' o f r (h1 _ _ p)⟩
def wCutT (w : WT) : WT := fun Γ Ω P => ∃ P' : Bool → Om → Prop, w Γ Ω P' ∧ ∀ s Ω, P' s Ω → P s Ω
theorem ot_cut {X : Cx} {e : Expr} {t : TT} {w : WT} (h : OT X e t w) : OT X e t (wCutT w) := ⟨h.pe, fun Z σ H Γ Ω P Q ok en ⟨P', w, h1⟩ k => h.se Z σ H Γ Ω P' Q ok en w fun b Ω' H' o f p => k b Ω' H' o f (h1 _ _ p)⟩

/-! ### defs -/
abbrev WF := List S → Om → WP → Prop
def spO (K : PySem.W.Frag) (W : WF) : Sp := fun vs H Q _ => ∃ Z Ω ss P, Ok K Z Ω H ∧ RepL K (mu Z Ω) H vs ss ∧ W ss Ω P ∧ Fin K Z Ω H P Q
def startG (N : List Str) (ss : List S) : Ga := ss.map some ++ List.replicate (N.length - ss.length) none
theorem gt_app : ∀ {ss : List S} {n i : Nat} {s : S}, gt (ss.map some ++ List.replicate n none) i = some s → ss[i]? = some s
  | [], 0, _, _, h => by cases h
  | [], n + 1, 0, _, h => by cases h
  | [], n + 1, i + 1, s, h => gt_app (ss := []) (n := n) (i := i) (s := s) h
  | x :: r, n, 0, s, h => by
    have h : some x = some s := h
    simpa using h
  | x :: r, n, i + 1, s, h => by
    have q := gt_app (ss := r) (n := n) (i := i) (s := s) h
    simpa using q
theorem env_start {K : PySem.W.Frag} {Z : Addr → Prop} {Ω : Om} {H : Hp} {N : List Str} {vs : List V} {ss : List S} (r : RepL K (mu Z Ω) H vs ss) : Env K Z Ω H (L2.start N vs) (startG N ss) := by
  refine ⟨?_, fun i s h => ?_⟩
  · unfold L2.start startG
    rw [List.length_append, List.length_append, List.length_map, List.length_map, List.length_replicate, List.length_replicate, r.length]
  · have h1 := gt_app h
    obtain ⟨v, h2, h3⟩ := r.get h1
    refine ⟨v, ?_, h3⟩
    have hl := (List.getElem?_eq_some_iff.mp h2).1
    unfold L2.start
    rw [List.getElem?_append_left (by rw [List.length_map]; exact hl), List.getElem?_map, h2]
    rfl
section
variable {P : Program} {w : World} {K : PySem.W.Frag} {mg : Str → Option Value} {base : Heap} {x qual : Str} {params : Arguments} {body : List Stmt} {scope : Scope} {dvs : List V} {kws : List (Str × V)} {f : Addr} {fd : FuncData}
/-- a def keeps its promise -/
theorem fnO {CX : CXT} {N ps : List Str} {k : Nat} {W : WF} {v : WS} (F : FunD K x qual params body scope dvs kws f fd) (S0 : FnScope N ps scope) (len : ∀ ss Ω P, W ss Ω P → ss.length = ps.length)
    (hb : ∀ (cdv : Value) (A : Around) (outer : List PySem.Env) (s : Shared) (H : Hp) (E : XK), Room k (A.deeper (PyProof.Rows.envOfC qual scope s.heap.objs.size f cdv)) → ∃ t, OSs (cxOf CX P w K mg base N qual scope f cdv A outer s H E) body t v)
    (hv : ∀ ss Ω P, W ss Ω P → v { nx := fun _ Ω' => seen P .non Ω', rt := seen P } (startG N ss) Ω) : FnOk P w K mg base CX (k + 1) f fd ps (spO K W) := by
  refine F.ok S0 (fun vs H Q E h => ?_) (fun cdv A outer s H vs Q E hr h => ?_)
  · obtain ⟨Z, Ω, ss, PP, _, r, h, _⟩ := h
    exact r.length.trans (len _ _ _ h)
  · obtain ⟨t, ht⟩ := hb cdv A outer s H E hr
    obtain ⟨Z, Ω, ss, PP, o, r, h, kk⟩ := h
    refine ⟨t, ht.pe, ht.se Z _ H _ Ω _ _ o (env_start r) (hv ss Ω PP h) ⟨fun σ' Γ' Ω' H' o' f' e' p => kk.seen .non .non Ω' H' o' f' .non p, kk.seen, fun _ _ _ _ _ _ _ z => z.elim, fun _ _ _ _ _ _ _ z => z.elim⟩⟩
end
def wCall (W : WF) (w : WA) : WE := fun Γ Ω P => w Γ Ω fun ss Ω1 => W ss Ω1 P
section
variable {X : Cx} {CX : CXT} {k : Nat} {f : Addr} {fd : FuncData} {ps : List Str} {W : WF} {E : XK} {x : Str} {p pos : Pos} {e : Expr} {es : List Expr} {t : TA} {w : WA}
theorem se_call {K : PySem.W.Frag} {t : TA} {w : WA} (h : SA K t w) : SE K (tCall (spO K W) [] E t) (wCall W w) := fun Z σ H Γ Ω P Q ok en ww k => h Z σ H Γ Ω _ _ ok en ww fun vs ss Ω1 H1 o1 f1 r1 w1 =>
  ⟨Z, Ω1, ss, P, o1, by rw [List.append_nil]; exact r1, w1, k.frm f1⟩
theorem oe_call (F : FnOk X.prog X.w X.K X.mg X.base CX k f fd ps (spO X.K W)) (hr : Room k X.A) (hg : Gl X x) (hm : X.mg x = some (.ref f)) (hk : PySem.W.keepIn X.K (.ref f) = true) (hb : Binds X.K fd ps []) (hx : Passes CX X E)
    (ha : OA X (e :: es) t w) (hdb : (x == ("__debug__" : Str)) = false := by decide) (he : starEach (e :: es) X.env = (false, eval e X.env) :: starEach es X.env := by rfl) (hpl : (backTo pos (starEach es X.env)).any (·.1) = false := by rfl) :
    OE X (.Call (.Name x p) (e :: es) [] pos) (tCall (spO X.K W) [] E t) (wCall W w) :=
  ⟨pe_call F hr hg hm hk hb .nil hx ha.pe hdb he hpl, se_call ha.se⟩
end
end Om
/-! Om: defs by name; the steps of a walk. -/
namespace Om
open PySem L2
open PyProof.Rows (b2i)

/-! ### the joined operators -/
def oAddI : W2 := oI (fun _ _ => True) fun i j => .int (i + j)
def oSubI : W2 := oI (fun _ _ => True) fun i j => .int (i - j)
def oMulI : W2 := oI CMul fun i j => .int (i * j)
def oDivI : W2 := oI CDiv fun i j => .int (i / j)
def oModI : W2 := oI (fun _ j => 0 < j) fun i j => .int (i % j)
def oPowI : W2 := oI CPow fun i j => .int (i ^ j.toNat)
def oAdd : W2 := fun a b Ω P => oAddI a b Ω P ∨ (oAddS a b Ω P ∨ (oCatL a b Ω P ∨ (oCatT a b Ω P ∨ oAddB a b Ω P)))
def oMulS : W2 := fun a b Ω P => ∃ x i, a = .str x ∧ b = .int i ∧ i ≤ 1000 ∧ -1000 ≤ i ∧ x.length ≤ 1000 ∧ P (.str ⟨(List.replicate i.toNat x.cps.toList).flatten.toArray⟩) Ω
def oMul : W2 := fun a b Ω P => oMulI a b Ω P ∨ (oRepL a b Ω P ∨ oMulS a b Ω P)
def oLt : W2 := fun a b Ω P => oB (fun i j => decide (i < j)) a b Ω P ∨ oLtS a b Ω P
def oLe : W2 := oB fun i j => decide (i ≤ j)
def oGt : W2 := oB fun i j => decide (j < i)
def oGe : W2 := oB fun i j => decide (j ≤ i)
section
variable {X : Cx}
abbrev rAddU (K : PySem.W.Frag) : R2 := fun x y H Q => rI0 (fun i j => .int (i + j)) x y H Q ∨ ((∃ i j, x = .str i ∧ y = .str j ∧ i.length + j.length ≤ sizeLine ∧ Q (.str (i ++ j)) H) ∨ (rCat x y H Q ∨ (rCatA K x y H Q ∨ ∃ i k, x = .int i ∧ y = .bl k ∧ Q (.int (i + b2i k)) H)))
theorem oo_add {K : PySem.W.Frag} (hK : X.K = K := by rfl) : OO X (binaryOp .Add) (rAddU K) oAdd := by
  subst hK
  exact OO.or oo_addI (OO.or oo_addS (OO.or oo_cat (OO.or oo_catT oo_addB)))
theorem foldl_app (x : List Nat) : ∀ (n : Nat) (a : Array Nat), ((List.replicate n (Array.mk x)).foldl (· ++ ·) a) = ⟨a.toList ++ (List.replicate n x).flatten⟩
  | 0, a => by simp
  | n + 1, a => by
    rw [List.replicate_succ, List.foldl_cons, foldl_app x n, List.replicate_succ, List.flatten_cons]
    simp
theorem op_mulS : OpR X (binaryOp .Mult) (fun x y H Q => ∃ z i, x = .str z ∧ y = .int i ∧ i ≤ 1000 ∧ -1000 ≤ i ∧ z.length ≤ 1000 ∧ Q (.str ⟨(List.replicate i.toNat z.cps.toList).flatten.toArray⟩) H) := by
  intro pins s σ H x y v u Q I rx ry h
  obtain ⟨z, i, rfl, rfl, h1, h2, h3, q⟩ := h
  obtain ⟨t, rfl⟩ := rx
  obtain ⟨t', rfl⟩ := ry
  refine PySem.P.mul_str ?_ ?_ ?_ ?_
  · rw [decide_eq_false (by omega), decide_eq_false (by omega)]; rfl
  · intro h4 h5 h6
    have h7 : (9223372036854775 : Int) ≤ (2 ^ 63 - 1 : Int) / i := Int.le_ediv_of_mul_le (by omega) (by omega)
    omega
  · intro h4 h5
    have h9 : z.length * i.toNat ≤ 1000 * 1000 := Nat.mul_le_mul h3 (by omega)
    have := (by decide : (1000 * 1000 : Nat) ≤ sizeLine)
    show decide (z.length * i.toNat > sizeLine) = false
    exact decide_eq_false (by omega)
  · by_cases h4 : i < 1
    · rw [if_pos h4]
      have e : i.toNat = 0 := by omega
      rw [e] at q
      exact ⟨by decide, .str _, H, I.tok _, ⟨_, rfl⟩, q⟩
    · rw [if_neg h4]
      by_cases h5 : (i == 1 || z.length == 0) = true
      · rw [if_pos h5]
        have e : (⟨(List.replicate i.toNat z.cps.toList).flatten.toArray⟩ : Str) = z := by
          rw [Bool.or_eq_true, beq_iff_eq, beq_iff_eq] at h5
          rcases h5 with h5 | h5
          · subst h5
            simp
          · have e0 : z.cps = #[] := Array.eq_empty_of_size_eq_zero h5
            obtain ⟨c⟩ := z
            simp only at e0
            subst e0
            simp
        rw [e] at q
        exact ⟨.str _, H, I, ⟨_, rfl⟩, q⟩
      · rw [if_neg h5]
        have e : (List.replicate i.toNat z.cps).foldl (· ++ ·) #[] = (List.replicate i.toNat z.cps.toList).flatten.toArray := by
          have q := foldl_app z.cps.toList i.toNat #[]
          simpa using q
        have hl : (⟨(List.replicate i.toNat z.cps.toList).flatten.toArray⟩ : Str).length ≤ sizeLine := by
          show (List.replicate i.toNat z.cps.toList).flatten.toArray.size ≤ sizeLine
          rw [List.size_toArray, List.length_flatten, List.map_replicate, List.sum_replicate_nat]
          have h9 : i.toNat * z.length ≤ 1000 * 1000 := Nat.mul_le_mul (by omega) h3
          have := (by decide : (1000 * 1000 : Nat) ≤ sizeLine)
          have h10 : z.cps.toList.length = z.length := by simp [Str.length]
          rw [h10]
          omega
        rw [e]
        exact ⟨hl, .str _, H, I.tok _, ⟨_, rfl⟩, q⟩
theorem oo_mulS : OO X (binaryOp .Mult) (fun x y H Q => ∃ z i, x = .str z ∧ y = .int i ∧ i ≤ 1000 ∧ -1000 ≤ i ∧ z.length ≤ 1000 ∧ Q (.str ⟨(List.replicate i.toNat z.cps.toList).flatten.toArray⟩) H) oMulS := ⟨op_mulS, fun Z H Ω x y a b P Q ok rx ry ⟨i, j, ea, eb, c1, c2, c3, p⟩ k => by
  subst ea; subst eb
  exact ⟨i, j, rep_str rx, rep_int ry, c1, c2, c3, k.now ok (.str _) p⟩⟩
abbrev rMulU : R2 := fun x y H Q => rI CMul (fun i j => .int (i * j)) x y H Q ∨ (rRep x y H Q ∨ (∃ z i, x = .str z ∧ y = .int i ∧ i ≤ 1000 ∧ -1000 ≤ i ∧ z.length ≤ 1000 ∧ Q (.str ⟨(List.replicate i.toNat z.cps.toList).flatten.toArray⟩) H))
theorem oo_mul : OO X (binaryOp .Mult) rMulU oMul := oo_mulI.or (oo_rep.or oo_mulS)
abbrev rLtU : R2 := fun x y H Q => rI0 (fun i j => .bl (decide (i < j))) x y H Q ∨ ∃ i j, x = .str i ∧ y = .str j ∧ Q (.bl (decide (i.cps.toList < j.cps.toList))) H
theorem oo_ltU : OO X (compareOp .Lt) rLtU oLt := oo_lt.or oo_ltS
end
end Om
/-! Om: defs by name; the steps of a walk. -/
namespace Om
open PySem L2
open PyProof.Rows (b2i)

/-! ### what the top has left, by names -/
structure Top (fa : List He.Fa) (fn : List He.DefD) (K : PySem.W.Frag) (mg : Str → Option Value) : Prop where
  says : He.SaysD fa fn K
  hp : ∃ h : Heap, K.In h ∧ h.Ns mainGlobals mg
section
variable {fa : List He.Fa} {fn : List He.DefD} {K : PySem.W.Frag} {mg : Str → Option Value}
theorem Top.free (T : Top fa fn K mg) (i : Nat) {x : Str} (h : fa[i]? = some (.free x) := by rfl) : mg x = none := by
  obtain ⟨h0, X, G⟩ := T.hp
  exact He.free_ok X G (T.says.fact i h)
theorem Top.glo (T : Top fa fn K mg) (i : Nat) {x : Str} (h : fa[i]? = some (.glo x) := by rfl) : mg x = some (.ref (He.ga K x)) := by
  obtain ⟨h0, X, G⟩ := T.hp
  exact He.glo_ok X G (T.says.fact i h)
/-- a def known by its name -/
structure Kn (P : Program) (w : World) (K : PySem.W.Frag) (mg : Str → Option Value) (base : Heap) (CX : CXT) (k : Nat) (x : Str) (ps : List Str) (W : WF) : Prop where
  ex : ∃ f fd, FnOk P w K mg base CX k f fd ps (spO K W) ∧ mg x = some (.ref f) ∧ PySem.W.keepIn K (.ref f) = true ∧ Binds K fd ps []
theorem kn_of {P : Program} {w : World} {base : Heap} {CX : CXT} {k : Nat} {x : Str} {N ps : List Str} {W : WF} {v : WS} {args : Arguments} {body : List Stmt} {scope : Scope} (T : Top fa fn K mg) (i j : Nat) (hd : fn[i]? = some ⟨(x, none), x, x, args, body, scope, [], []⟩) (hg : fa[j]? = some (.glo x))
    (hbind : ∀ (kV doc pm : Value) (an : Option Addr) (cdv ct : Value) (us : List Value), us.length = ps.length → bindArgs (PySem.W.fnOf x x args body scope .none kV doc pm an cdv ct) ⟨us, []⟩ = pure (ps.zip us))
    (S0 : FnScope N ps scope) (len : ∀ ss Ω P, W ss Ω P → ss.length = ps.length)
    (hb : ∀ (f : Addr) (cdv : Value) (A : Around) (outer : List PySem.Env) (s : Shared) (H : Hp) (E : XK), Room k (A.deeper (PyProof.Rows.envOfC x scope s.heap.objs.size f cdv)) → ∃ t, OSs (cxOf CX P w K mg base N x scope f cdv A outer s H E) body t v)
    (hv : ∀ ss Ω P, W ss Ω P → v { nx := fun _ Ω' => seen P .non Ω', rt := seen P } (startG N ss) Ω) : Kn P w K mg base CX (k + 1) x ps W := by
  obtain ⟨fd, F⟩ := T.says.def_ i hd
  exact ⟨_, fd, fnO F S0 len (fun cdv A outer s H E hr => hb _ cdv A outer s H E hr) hv, T.glo j hg, F.kp, FunD.bindsN F hbind⟩
/-- the same of a def that lets no exception out -/
theorem fnO0 {P : Program} {w : World} {base : Heap} {x qual : Str} {params : Arguments} {body : List Stmt} {scope : Scope} {dvs : List V} {kws : List (Str × V)} {f : Addr} {fd : FuncData} {N ps : List Str} {k : Nat} {W : WF} {v : WS} (F : FunD K x qual params body scope dvs kws f fd) (S0 : FnScope N ps scope) (len : ∀ ss Ω P, W ss Ω P → ss.length = ps.length)
    (hb : ∀ (cdv : Value) (A : Around) (outer : List PySem.Env) (s : Shared) (H : Hp) (E : XK), Room k (A.deeper (PyProof.Rows.envOfC qual scope s.heap.objs.size f cdv)) → ∃ t, OSs (cxOf CX0 P w K mg base N qual scope f cdv A outer s H E).nox body t v)
    (hv : ∀ ss Ω P, W ss Ω P → v { nx := fun _ Ω' => seen P .non Ω', rt := seen P } (startG N ss) Ω) : FnOk P w K mg base CX0 (k + 1) f fd ps (spO K W) :=
  fnO F S0 len (fun cdv A outer s H E hr => by
    obtain ⟨t, ht⟩ := hb cdv A outer s H E hr
    exact ⟨t, ⟨ht.pe.nox, ht.se⟩⟩) hv
theorem kn_of0 {P : Program} {w : World} {base : Heap} {k : Nat} {x : Str} {N ps : List Str} {W : WF} {v : WS} {args : Arguments} {body : List Stmt} {scope : Scope} (T : Top fa fn K mg) (i j : Nat) (hd : fn[i]? = some ⟨(x, none), x, x, args, body, scope, [], []⟩) (hg : fa[j]? = some (.glo x))
    (hbind : ∀ (kV doc pm : Value) (an : Option Addr) (cdv ct : Value) (us : List Value), us.length = ps.length → bindArgs (PySem.W.fnOf x x args body scope .none kV doc pm an cdv ct) ⟨us, []⟩ = pure (ps.zip us))
    (S0 : FnScope N ps scope) (len : ∀ ss Ω P, W ss Ω P → ss.length = ps.length)
    (hb : ∀ (f : Addr) (cdv : Value) (A : Around) (outer : List PySem.Env) (s : Shared) (H : Hp) (E : XK), Room k (A.deeper (PyProof.Rows.envOfC x scope s.heap.objs.size f cdv)) → ∃ t, OSs (cxOf CX0 P w K mg base N x scope f cdv A outer s H E).nox body t v)
    (hv : ∀ ss Ω P, W ss Ω P → v { nx := fun _ Ω' => seen P .non Ω', rt := seen P } (startG N ss) Ω) : Kn P w K mg base CX0 (k + 1) x ps W := by
  obtain ⟨fd, F⟩ := T.says.def_ i hd
  exact ⟨_, fd, fnO0 F S0 len (fun cdv A outer s H E hr => hb _ cdv A outer s H E hr) hv, T.glo j hg, F.kp, FunD.bindsN F hbind⟩
end
section
variable {X : Cx} {CX : CXT} {k : Nat} {ps : List Str} {W : WF} {x : Str} {p pos : Pos} {e : Expr} {es : List Expr} {t : TA} {w : WA}
theorem oe_callK {P : Program} {w0 : World} {K : PySem.W.Frag} {mg : Str → Option Value} {base : Heap} (B : Kn P w0 K mg base CX k x ps W) (hr : Room k X.A) (hg : Gl X x) (hx : Passes CX X E0)
    (ha : OA X (e :: es) t w) (h1 : X.prog = P := by rfl) (h2 : X.w = w0 := by rfl) (h3 : X.K = K := by rfl) (h4 : X.mg = mg := by rfl) (h5 : X.base = base := by rfl)
    (hdb : (x == ("__debug__" : Str)) = false := by decide) (he : starEach (e :: es) X.env = (false, eval e X.env) :: starEach es X.env := by rfl) (hpl : (backTo pos (starEach es X.env)).any (·.1) = false := by rfl) :
    OE X (.Call (.Name x p) (e :: es) [] pos) (tCall (spO K W) [] E0 t) (wCall W w) := by
  subst h1 h2 h3 h4 h5
  obtain ⟨f, fd, F, hm, hk, hb⟩ := B.ex
  exact oe_call F hr hg hm hk hb hx ha hdb he hpl
end

/-! ### steps -/
section
variable {Γ : Ga} {Ω : Om} {P : WP} {s u : S} {wa wb : WE} {wt wu : WT} {o : W2} {i j : Int} {x y : Str} {O : OEnds} {PB : Bool → Om → Prop}
theorem g_var {n : Nat} (h : gt Γ n = some s) (p : P s Ω) : wVar n Γ Ω P := ⟨s, h, p⟩
theorem g_c (p : P s Ω) : wC s Γ Ω P := p
theorem g_op (p : wa Γ Ω fun s Ω1 => wb Γ Ω1 fun s2 Ω2 => o s s2 Ω2 P) : wOp o wa wb Γ Ω P := p
theorem g_test (p : wa Γ Ω fun s Ω1 => ∃ b, s = .bl b ∧ PB b Ω1) : wTest wa Γ Ω PB := p
theorem g_andV (p : wa Γ Ω fun s Ω1 => ∃ c, s = .bl c ∧ if c = true then wb Γ Ω1 P else P (.bl false) Ω1) : wAndV wa wb Γ Ω P := p
theorem g_orV (p : wa Γ Ω fun s Ω1 => ∃ c, s = .bl c ∧ if c = true then P (.bl true) Ω1 else wb Γ Ω1 P) : wOrV wa wb Γ Ω P := p
theorem g_notV (p : wa Γ Ω fun s Ω1 => ∃ c, s = .bl c ∧ P (.bl (!c)) Ω1) : wNotV wa Γ Ω P := p
theorem g_and (p : wt Γ Ω fun c Ω1 => if c = true then wu Γ Ω1 PB else PB false Ω1) : wAnd wt wu Γ Ω PB := p
theorem g_or (p : wt Γ Ω fun c Ω1 => if c = true then PB true Ω1 else wu Γ Ω1 PB) : wOr wt wu Γ Ω PB := p
theorem g_not (p : wt Γ Ω fun c Ω1 => PB (!c) Ω1) : wNot wt Γ Ω PB := p
theorem g_if (p : wt Γ Ω fun c Ω1 => if c = true then wa Γ Ω1 P else wb Γ Ω1 P) : wIf wt wa wb Γ Ω P := p
theorem g_sl {wl wh : WO} (p : wa Γ Ω fun s Ω1 => wl Γ Ω1 fun lo Ω2 => wh Γ Ω2 fun hi Ω3 => oSl s lo hi Ω3 P) : wSl wa wl wh Γ Ω P := p
theorem g_noP {Q : Option Int → Om → Prop} (p : Q none Ω) : wNoP Γ Ω Q := p
theorem g_part {Q : Option Int → Om → Prop} (p : wa Γ Ω fun s Ω1 => ∃ i, s = .int i ∧ Q (some i) Ω1) : wPart wa Γ Ω Q := p
theorem g_nil {Q : List S → Om → Prop} (p : Q [] Ω) : wNil Γ Ω Q := p
theorem g_cons {Q : List S → Om → Prop} {wr : WA} (p : wa Γ Ω fun s Ω1 => wr Γ Ω1 fun ss Ω2 => Q (s :: ss) Ω2) : wCons wa wr Γ Ω Q := p
theorem g_tup {w : WA} (p : w Γ Ω fun ss Ω1 => ss.length ≤ sizeLine ∧ P (.tup ss) Ω1) : wTup w Γ Ω P := p
theorem g_lst {w : WA} (p : w Γ Ω fun ss Ω1 => ss.length ≤ sizeLine ∧ nw ss Ω1 P) : wLst w Γ Ω P := p
theorem g_cb {o : WL} {w : WA} (p : w Γ Ω fun ss Ω1 => o ss Ω1 P) : wCB o w Γ Ω P := p
theorem g_call {W : WF} {w : WA} (p : w Γ Ω fun ss Ω1 => W ss Ω1 P) : wCall W w Γ Ω P := p
theorem g_seq {w v : WS} (p : w { O with nx := v O } Γ Ω) : wSeq w v O Γ Ω := p
theorem g_next (p : O.nx Γ Ω) : wNext O Γ Ω := p
theorem g_brk (p : O.bk Γ Ω) : wBrk O Γ Ω := p
theorem g_cont (p : O.ct Γ Ω) : wCont O Γ Ω := p
theorem g_drop (p : wa Γ Ω fun _ Ω1 => O.nx Γ Ω1) : wDrop wa O Γ Ω := p
theorem g_ret (p : wa Γ Ω O.rt) : wRet wa O Γ Ω := p
theorem g_retN (p : O.rt .non Ω) : wRetN O Γ Ω := p
theorem g_ifS {w v : WS} (p : wt Γ Ω fun b Ω1 => if b = true then w O Γ Ω1 else v O Γ Ω1) : wIfS wt w v O Γ Ω := p
theorem g_set {n : Nat} (p : wa Γ Ω fun s Ω1 => O.nx (st Γ n (some s)) Ω1) : wSet wa n O Γ Ω := p
theorem g_asg {g : WG} (p : wa Γ Ω fun s Ω1 => g s Γ Ω1 O.nx) : wAsg wa g O Γ Ω := p
theorem g_par {m n : Nat} {w : WA} (p : w Γ Ω fun ss Ω1 => ∃ s u, ss = [s, u] ∧ O.nx (st (st Γ m (some s)) n (some u)) Ω1) : wPar m n w O Γ Ω := p
theorem g_par3 {m n l : Nat} {w : WA} (p : w Γ Ω fun ss Ω1 => ∃ s u r, ss = [s, u, r] ∧ O.nx (st (st (st Γ m (some s)) n (some u)) l (some r)) Ω1) : wPar3 m n l w O Γ Ω := p
theorem g_aug {n : Nat} {f : Int → Int → Int} (h : gt Γ n = some (.int i)) (p : wa Γ Ω fun s Ω1 => ∃ m, s = .int m ∧ O.nx (st Γ n (some (.int (f i m)))) Ω1) : wAug n f wa O Γ Ω := ⟨i, h, p⟩
theorem g_name {n : Nat} {Q : Ga → Om → Prop} (p : Q (st Γ n (some s)) Ω) : wgName n s Γ Ω Q := p
theorem g_gtup {n : Nat} {w : WGs} {ss : List S} {Q : Ga → Om → Prop} (h : ss.length = n) (p : w ss Γ Ω Q) : wgTup n w (.tup ss) Γ Ω Q := ⟨ss, rfl, h, p⟩
theorem g_gcons {w : WG} {v : WGs} {ss : List S} {Q : Ga → Om → Prop} (p : w s Γ Ω fun Γ1 Ω1 => v ss Γ1 Ω1 Q) : wgCons w v (s :: ss) Γ Ω Q := ⟨s, ss, rfl, p⟩
theorem g_gnil {Q : Ga → Om → Prop} (p : Q Γ Ω) : wgNil [] Γ Ω Q := ⟨rfl, p⟩
theorem g_gsub {wo wi : WE} {Q : Ga → Om → Prop} (p : wo Γ Ω fun o Ω1 => wi Γ Ω1 fun i Ω2 => subAt Q s Γ o i Ω2) : wgSub wo wi s Γ Ω Q := p
theorem g_at {p : Addr} {xs : List S} {k : Int} {j : Nat} {Q : Ga → Om → Prop} (hp : Ω p = some (.lst xs)) (hj : ixN xs.length k = some j) (q : Q Γ (put Ω p (.lst (xs.set j s)))) : subAt Q s Γ (.adr p) (.int k) Ω := ⟨p, xs, k, j, rfl, rfl, hp, hj, q⟩
theorem g_yes {Q : Bool → Om → Prop} (p : Q true Ω) : wYes Γ Ω Q := p
theorem g_for {ww : WI} {wg : WG} {w : WS} (p : ww Γ Ω fun ss G Ω1 => forAt wg w O Γ ss G Ω1) : wFor ww wg w O Γ Ω := p
theorem g_forP {ss : List S} {G : Om → Prop} {wg : WG} {w : WS} (Pv : Nat → Ga → Om → Prop) (hG : ∀ i Γ' Ω', i ≤ ss.length → Pv i Γ' Ω' → G Ω') (h0 : Pv 0 Γ Ω)
  (hs : ∀ (i : Nat) s Γ' Ω', ss[i]? = some s → Pv i Γ' Ω' → wg s Γ' Ω' fun Γ2 Ω2 => w { O with nx := Pv (i + 1), ct := Pv (i + 1), bk := O.nx } Γ2 Ω2) (hd : ∀ Γ' Ω', Pv ss.length Γ' Ω' → O.nx Γ' Ω') : forAt wg w O Γ ss G Ω := ⟨Pv, h0, hG, hs, hd⟩
theorem g_lc {ww : WI} {wg : WG} {wt : WT} {we : WE} {vs : List Nat} (p : ww Γ Ω fun ss G Ω1 => lcAt wg wt we (wipeG Γ vs) P ss G Ω1) : wLc ww wg wt we vs Γ Ω P := p
theorem g_lcP {ss : List S} {G : Om → Prop} {wg : WG} {wt : WT} {we : WE} (Pv : Nat → List S → Om → Prop) (hG : ∀ i acc Ω', i ≤ ss.length → Pv i acc Ω' → G Ω') (h0 : Pv 0 [] Ω)
  (hs : ∀ (i : Nat) s acc Ω', ss[i]? = some s → Pv i acc Ω' → wg s Γ Ω' fun Γ2 Ω2 => wt Γ2 Ω2 fun b Ω3 => if b = true then we Γ2 Ω3 fun y Ω4 => acc.length < sizeLine ∧ Pv (i + 1) (acc ++ [y]) Ω4 else Pv (i + 1) acc Ω3) (hd : ∀ acc Ω', Pv ss.length acc Ω' → nw acc Ω' P) : lcAt wg wt we Γ P ss G Ω := ⟨Pv, h0, hG, hs, hd⟩
/-- no test, each element one value, the store as it was: a map -/
theorem g_map {ss : List S} {G : Om → Prop} {wg : WG} {we : WE} (f : S → S) (hG : G Ω) (hl : ss.length < sizeLine) (hs : ∀ (i : Nat) s, ss[i]? = some s → ∀ Q : WP, Q (f s) Ω → wg s Γ Ω fun Γ2 Ω2 => we Γ2 Ω2 Q) (hd : nw (ss.map f) Ω P) : lcAt wg wYes we Γ P ss G Ω := by
  refine ⟨fun n acc Ω' => n ≤ ss.length ∧ acc = (ss.take n).map f ∧ Ω' = Ω, ⟨Nat.zero_le _, rfl, rfl⟩, fun n acc Ω' _ h => by rw [h.2.2]; exact hG, ?_, ?_⟩
  · rintro n s acc Ω' hi ⟨h0, rfl, rfl⟩
    have hlt := (List.getElem?_eq_some_iff.mp hi).1
    have e2 : (ss.take n).map f ++ [f s] = (ss.take (n + 1)).map f := by
      rw [List.take_succ, hi, List.map_append]
      rfl
    refine hs n s hi (fun y Ω4 => ((ss.take n).map f).length < sizeLine ∧ n + 1 ≤ ss.length ∧ (ss.take n).map f ++ [y] = (ss.take (n + 1)).map f ∧ Ω4 = Ω') ⟨?_, hlt, e2, rfl⟩
    rw [List.length_map, List.length_take]
    omega
  · rintro acc Ω' ⟨_, rfl, rfl⟩
    rw [List.take_length]
    exact hd
theorem g_rng1 {w : WA} {Q : WQ} (p : w Γ Ω fun ss Ω1 => rngAt1 Q ss Ω1) : wiRng1 w Γ Ω Q := p
theorem g_rng1P {Q : WQ} (h1 : -(2 ^ 62) ≤ i) (h2 : i < 2 ^ 62) (p : Q (ups 0 i.toNat) (fun _ => True) Ω) : rngAt1 Q [.int i] Ω := ⟨i, rfl, h1, h2, p⟩
theorem g_rng2 {w : WA} {Q : WQ} (p : w Γ Ω fun ss Ω1 => rngAt2 Q ss Ω1) : wiRng2 w Γ Ω Q := p
theorem g_rng2P {Q : WQ} (h : -(2 ^ 62) ≤ i ∧ i < 2 ^ 62 ∧ -(2 ^ 62) ≤ j ∧ j < 2 ^ 62) (p : Q (ups i (j - i).toNat) (fun _ => True) Ω) : rngAt2 Q [.int i, .int j] Ω := ⟨i, j, rfl, h, p⟩
theorem g_down {Q : WQ} (p : wa Γ Ω fun s Ω1 => downAt Q s Ω1) : wiDown wa Γ Ω Q := p
theorem g_downP {Q : WQ} (h1 : -(2 ^ 62) ≤ i) (h2 : i < 2 ^ 62) (p : Q (downs i.toNat) (fun _ => True) Ω) : downAt Q (.int i) Ω := ⟨i, rfl, h1, h2, p⟩
theorem g_seqI {Q : WQ} (p : wa Γ Ω fun s Ω1 => seqAt Q s Ω1) : wiSeq wa Γ Ω Q := p
theorem g_seqL {xs : List S} {Q : WQ} (h : asL Ω s = some xs) (p : Q xs (seqG s xs) Ω) : seqAt Q s Ω := .inl ⟨xs, h, p⟩
theorem g_seqT {xs : List S} {Q : WQ} (p : Q xs (fun _ => True) Ω) : seqAt Q (.tup xs) Ω := .inr ⟨xs, rfl, p⟩
theorem g_enumI {w : WA} {Q : WQ} (p : w Γ Ω fun as Ω1 => enumAt Q as Ω1) : wiEnum w Γ Ω Q := p
theorem g_enumP {xs : List S} {Q : WQ} (h : asL Ω s = some xs) (p : Q (enumL 0 xs) (seqG s xs) Ω) : enumAt Q [s] Ω := ⟨s, xs, rfl, h, p⟩
theorem g_zipI {w : WA} {Q : WQ} (p : w Γ Ω fun as Ω1 => zipAt Q as Ω1) : wiZip w Γ Ω Q := p
theorem g_zipP {xs ys : List S} {Q : WQ} (h : asL Ω s = some xs) (h2 : asL Ω u = some ys) (p : Q (zipL xs ys) (fun Ω' => seqG s xs Ω' ∧ seqG u ys Ω') Ω) : zipAt Q [s, u] Ω := ⟨s, u, xs, ys, rfl, h, h2, p⟩
theorem seqG_lst {xs ys : List S} : seqG (.lst xs) ys Ω := fun a h => nomatch h
theorem seqG_wls {xs ys : List S} : seqG (.wls xs) ys Ω := fun a h => nomatch h
theorem seqG_adr {a : Addr} {ys : List S} (h : Ω a = some (.lst ys)) : seqG (.adr a) ys Ω := fun b e => by cases e; exact h

theorem g_ite {c : Prop} [Decidable c] {A B : Prop} (h1 : c → A) (h2 : ¬ c → B) : if decide c = true then A else B := by
  by_cases h : c
  · rw [decide_eq_true h, if_pos rfl]; exact h1 h
  · rw [decide_eq_false h, if_neg Bool.false_ne_true]; exact h2 h
theorem g_iteN {c : Prop} [Decidable c] {A B : Prop} (h1 : ¬ c → A) (h2 : c → B) : if (!decide c) = true then A else B := by
  by_cases h : c
  · rw [decide_eq_true h]; exact h2 h
  · rw [decide_eq_false h]; exact h1 h
theorem g_ifT {c : Bool} {A B : Prop} (h : c = true) (a : A) : if c = true then A else B := by rw [if_pos h]; exact a
theorem g_ifF {c : Bool} {A B : Prop} (h : c = false) (b : B) : if c = true then A else B := by rw [h]; exact b
theorem g_T {A B : Prop} (h : A) : if true = true then A else B := h
theorem g_F {A B : Prop} (h : B) : if false = true then A else B := h

/-! operators by the kinds of their values -/
theorem g_addI (p : P (.int (i + j)) Ω) : oAdd (.int i) (.int j) Ω P := .inl ⟨i, j, rfl, rfl, trivial, p⟩
theorem g_addS (h : x.length + y.length ≤ sizeLine) (p : P (.str (x ++ y)) Ω) : oAdd (.str x) (.str y) Ω P := .inr (.inl ⟨x, y, rfl, rfl, h, p⟩)
theorem g_addL {xs ys : List S} (h1 : asK Ω s = some xs) (h2 : asK Ω u = some ys) (h : xs.length + ys.length ≤ sizeLine) (p : nw (xs ++ ys) Ω P) : oAdd s u Ω P := .inr (.inr (.inl ⟨xs, ys, h1, h2, h, p⟩))
theorem g_addT {xs ys : List S} (h : xs.length + ys.length ≤ sizeLine) (p : P (.tup (xs ++ ys)) Ω) : oAdd (.tup xs) (.tup ys) Ω P := .inr (.inr (.inr (.inl ⟨xs, ys, rfl, rfl, h, p⟩)))
theorem g_addB {b : Bool} (p : P (.int (i + b2i b)) Ω) : oAdd (.int i) (.bl b) Ω P := .inr (.inr (.inr (.inr ⟨i, b, rfl, rfl, p⟩)))
theorem g_subI (p : P (.int (i - j)) Ω) : oSubI (.int i) (.int j) Ω P := ⟨i, j, rfl, rfl, trivial, p⟩
theorem g_mulI (h : (-(2 ^ 64) < i ∧ i < 2 ^ 64) ∨ (-(2 ^ 64) < j ∧ j < 2 ^ 64)) (p : P (.int (i * j)) Ω) : oMul (.int i) (.int j) Ω P := .inl ⟨i, j, rfl, rfl, h, p⟩
theorem g_divI (h : 0 < j ∧ j < 1073741824) (p : P (.int (i / j)) Ω) : oDivI (.int i) (.int j) Ω P := ⟨i, j, rfl, rfl, h, p⟩
theorem g_modI (h : 0 < j) (p : P (.int (i % j)) Ω) : oModI (.int i) (.int j) Ω P := ⟨i, j, rfl, rfl, h, p⟩
theorem g_powI (h : 0 ≤ j ∧ j ≤ 1000000 ∧ i.natAbs < 2 ^ 64) (p : P (.int (i ^ j.toNat)) Ω) : oPowI (.int i) (.int j) Ω P := ⟨i, j, rfl, rfl, h, p⟩
theorem g_ltI (p : P (.bl (decide (i < j))) Ω) : oLt (.int i) (.int j) Ω P := .inl ⟨i, j, rfl, rfl, trivial, p⟩
theorem g_ltS (p : P (.bl (decide (x.cps.toList < y.cps.toList))) Ω) : oLt (.str x) (.str y) Ω P := .inr ⟨x, y, rfl, rfl, p⟩
theorem g_leI (p : P (.bl (decide (i ≤ j))) Ω) : oLe (.int i) (.int j) Ω P := ⟨i, j, rfl, rfl, trivial, p⟩
theorem g_gtI (p : P (.bl (decide (j < i))) Ω) : oGt (.int i) (.int j) Ω P := ⟨i, j, rfl, rfl, trivial, p⟩
theorem g_geI (p : P (.bl (decide (j ≤ i))) Ω) : oGe (.int i) (.int j) Ω P := ⟨i, j, rfl, rfl, trivial, p⟩
theorem g_eqI (p : P (.bl (decide (i = j))) Ω) : oEq (.int i) (.int j) Ω P := .inl ⟨_, .ii i j, p⟩
theorem g_eqS (p : P (.bl (decide (x = y))) Ω) : oEq (.str x) (.str y) Ω P := .inl ⟨_, .ss x y, p⟩
theorem g_eqB {b c : Bool} (p : P (.bl (decide (b = c))) Ω) : oEq (.bl b) (.bl c) Ω P := .inl ⟨_, .bb b c, p⟩
theorem g_neI (p : P (.bl (!decide (i = j))) Ω) : oNe (.int i) (.int j) Ω P := .inl ⟨_, .ii i j, p⟩
theorem g_neS (p : P (.bl (!decide (x = y))) Ω) : oNe (.str x) (.str y) Ω P := .inl ⟨_, .ss x y, p⟩
theorem g_neB {b c : Bool} (p : P (.bl (!decide (b = c))) Ω) : oNe (.bl b) (.bl c) Ω P := .inl ⟨_, .bb b c, p⟩
theorem g_eqD (h1 : eqOk s) (h2 : eqOk u) (p : P (.bl (PyData.eqv (toD s) (toD u))) Ω) : oEq s u Ω P := .inr ⟨h1, h2, p⟩
theorem g_neD (h1 : eqOk s) (h2 : eqOk u) (p : P (.bl (!PyData.eqv (toD s) (toD u))) Ω) : oNe s u Ω P := .inr ⟨h1, h2, p⟩
theorem asQ_adr {a : Addr} {xs : List S} (h : Ω a = some (.lst xs)) : asQ Ω (.adr a) = some xs := asL_adr h
theorem asK_adr {a : Addr} {xs : List S} (h : Ω a = some (.lst xs)) : asK Ω (.adr a) = some xs := asL_adr h
theorem g_ix {xs : List S} (h : asQ Ω s = some xs) (h2 : atI xs i = some u) (p : P u Ω) : oIx s (.int i) Ω P := .inl ⟨xs, i, u, h, rfl, h2, p⟩
theorem g_ixS {c : Nat} (h : x.length ≤ sizeLine) (h2 : atI x.cps.toList i = some c) (p : P (.str ⟨#[c]⟩) Ω) : oIx (.str x) (.int i) Ω P := .inr ⟨x, i, c, rfl, rfl, h, h2, p⟩
theorem g_slL {xs : List S} {lo hi : Option Int} (h : asL Ω s = some xs) (p : nw (cutL xs lo hi) Ω P) : oSl s lo hi Ω P := .inl ⟨xs, h, p⟩
theorem g_slT {xs : List S} {lo hi : Option Int} (p : P (.tup (cutL xs lo hi)) Ω) : oSl (.tup xs) lo hi Ω P := .inr (.inl ⟨xs, rfl, p⟩)
theorem g_rev (p : wa Γ Ω fun s Ω1 => ∃ xs, asL Ω1 s = some xs ∧ nw xs.reverse Ω1 P) : wRev wa Γ Ω P := p
theorem g_len {xs : List S} (h : asQ Ω s = some xs) (p : P (.int xs.length) Ω) : oLen [s] Ω P := .inl ⟨s, xs, rfl, h, p⟩
theorem g_lenS (h : x.length ≤ sizeLine) (p : P (.int x.length) Ω) : oLen [.str x] Ω P := .inr ⟨x, rfl, h, p⟩
theorem g_abs (p : P (.int (if i < 0 then -i else i)) Ω) : oAbs [.int i] Ω P := ⟨i, rfl, p⟩
theorem g_max (p : P (.int (if j > i then j else i)) Ω) : oMax [.int i, .int j] Ω P := ⟨i, j, rfl, p⟩
theorem g_min (p : P (.int (if j < i then j else i)) Ω) : oMin [.int i, .int j] Ω P := ⟨i, j, rfl, p⟩
theorem g_divmod (h : 0 < j ∧ j < 1073741824) (p : P (.tup [.int (i / j), .int (i % j)]) Ω) : oDivmod [.int i, .int j] Ω P := ⟨i, j, rfl, h, p⟩
theorem g_intI (p : P (.int i) Ω) : oInt [.int i] Ω P := .inl ⟨i, rfl, p⟩
theorem g_intB {b : Bool} (p : P (.int (b2i b)) Ω) : oInt [.bl b] Ω P := .inr ⟨b, rfl, p⟩
theorem g_list {xs : List S} (h : asQ Ω s = some xs) (p : nw xs Ω P) : oList [s] Ω P := ⟨s, xs, rfl, h, p⟩
theorem g_any {bs : List Bool} (h : asL Ω s = some (bs.map S.bl)) (p : P (.bl (bs.any id)) Ω) : oAny [s] Ω P := ⟨s, bs, rfl, h, p⟩
theorem g_all {bs : List Bool} (h : asL Ω s = some (bs.map S.bl)) (p : P (.bl (bs.all id)) Ω) : oAll [s] Ω P := ⟨s, bs, rfl, h, p⟩
theorem g_data {ss : List S} (p : P (.lst ss) Ω) : nw ss Ω P := .inl p
theorem g_cell {ss : List S} (p : ∀ a, Ω a = none → P (.adr a) (put Ω a (.lst ss))) : nw ss Ω P := .inr p
end
end Om
/-! Om: more rules. -/
namespace Om
open PySem L2
open PyProof.Rows (b2i)
section
variable {X : Cx}
theorem ogs_c {e : Expr} {es : List Expr} {js ls : List Nat} {g : TG} {gs : TGs} {w : WG} {x : WGs} (h : OG X e js g w) (r : OGs X es ls gs x) (hs : (assignEach (e :: es) X.env).map (·.2) = assign e X.env :: (assignEach es X.env).map (·.2) := by rfl) :
    OGs X (e :: es) (js ++ ls) (gCons g gs) (wgCons w x) := ogs_cons h r (pgs_cons h.pe r.pe hs)
def appAt2 (O : OEnds) (Γ : Ga) (p : Addr) (y : S) (Ω2 : Om) : Prop := ∃ xs, Ω2 p = some (.lst xs) ∧ xs.length < sizeLine ∧ O.nx Γ (put Ω2 p (.lst (xs ++ [y])))
def appAt1 (we : WE) (O : OEnds) (Γ : Ga) (o : S) (Ω1 : Om) : Prop := ∃ p zs, o = .adr p ∧ Ω1 p = some (.lst zs) ∧ we Γ Ω1 fun y Ω2 => appAt2 O Γ p y Ω2
def wAppend (wo we : WE) : WS := fun O Γ Ω => wo Γ Ω fun o Ω1 => appAt1 we O Γ o Ω1
theorem os_append {K : PySem.W.Frag} {o e : Expr} {to te : TE} {wo we : WE} {apos cpos pos : Pos} (ho : OE X o to wo) (he : OE X e te we)
    (hbase : attributeBase o "append" X.env (eval o X.env) = eval o X.env := by rfl)
    (hfew : ((backTo cpos (starEach [e] X.env)).all (fun x => !x.1) && (backToKw cpos (keywordEach [] X.env)).all (fun x => x.1.isSome)
      && decide ([e].length + ([] : List Keyword).length + (if ([] : List Keyword).isEmpty then 0 else 1) < 30)) = true := by rfl)
    (hline : (apos.endLine == cpos.line) = true := by rfl) (hst : starEach [e] X.env = (false, eval e X.env) :: starEach [] X.env := by rfl) (hplain : (backTo cpos (starEach [] X.env)).any (·.1) = false := by rfl)
    (hs : swapsWith (.Call (.Attribute o "append" apos) [e] [] cpos) none pos.line X.env = pure false := by rfl) (hK : X.K = K := by rfl) : OS X (.Expr (.Call (.Attribute o "append" apos) [e] [] cpos) pos) (tDrop (tBM K "list" rAppend to (tCons te tNil))) (wAppend wo we) := by
  subst hK
  exact ⟨ps_expr (pe_bm PySem.F.plainAttrs_list PySem.F.slot_list_append PySem.F.type_list_append mt_append ho.pe (pa_cons he.pe pa_nil hst) hbase hfew hline hst hplain) hs, fun Z σ H Γ Ω O D ok en w k => ho.se Z σ H Γ Ω _ _ ok en w fun v s Ω1 H1 o1 f1 r1 ⟨p, zs, es, hz, w1⟩ => by
    subst es
    cases r1
    obtain ⟨ys, h2, r2⟩ := o1.cells p _ hz
    refine ⟨.inl ⟨rfl, ys, .inl (.inl h2)⟩, he.se Z σ H1 Γ Ω1 _ _ o1 (en.frm f1 ok) w1 fun y u Ω2 H2 o2 f2 r3 ⟨xs, hx, hl, q⟩ => ?_⟩
    obtain ⟨us, h4, r4⟩ := o2.cells p _ hx
    refine ⟨p, us, y, rfl, rfl, h4, by rw [r4.length]; exact hl, ?_⟩
    have fm : Frm Ω2 H2 (put Ω2 p (.lst (xs ++ [u]))) (upd H2 p (.lst (us ++ [y]))) := frm_mut hx
    have om : Ok X.K Z (put Ω2 p (.lst (xs ++ [u]))) (upd H2 p (.lst (us ++ [y]))) := o2.mut (d := .lst (xs ++ [u])) hx ⟨_, upd_same, repL_upd hx (r4.append (.cons r3 .nil))⟩
    exact k.nx _ _ _ _ om ((f1.trans f2).trans fm) (((en.frm f1 ok).frm f2 o1).frm fm o2) q⟩
theorem g_append {Γ : Ga} {Ω : Om} {O : OEnds} {wo we : WE} (p : wo Γ Ω fun o Ω1 => appAt1 we O Γ o Ω1) : wAppend wo we O Γ Ω := p
theorem g_app1 {Γ : Ga} {Ω : Om} {O : OEnds} {we : WE} {p : Addr} {zs : List S} (hp : Ω p = some (.lst zs)) (q : we Γ Ω fun y Ω2 => appAt2 O Γ p y Ω2) : appAt1 we O Γ (.adr p) Ω := ⟨p, zs, rfl, hp, q⟩
theorem g_app2 {Γ : Ga} {Ω : Om} {O : OEnds} {p : Addr} {xs : List S} {y : S} (hp : Ω p = some (.lst xs)) (hl : xs.length < sizeLine) (q : O.nx Γ (put Ω p (.lst (xs ++ [y])))) : appAt2 O Γ p y Ω := ⟨xs, hp, hl, q⟩

/-! ### isinstance -/
/-- the built-in class of a thing that is data, or of the store -/
inductive TyS (Ω : Om) : S → String → Prop
  | non : TyS Ω .non "NoneType"
  | bl (b : Bool) : TyS Ω (.bl b) "bool"
  | int (i : Int) : TyS Ω (.int i) "int"
  | str (x : Str) : TyS Ω (.str x) "str"
  | lst (xs : List S) : TyS Ω (.lst xs) "list"
  | adr {a : Addr} {xs : List S} (h : Ω a = some (.lst xs)) : TyS Ω (.adr a) "list"
  | tup (xs : List S) : TyS Ω (.tup xs) "tuple"
theorem TyS.x {K : PySem.W.Frag} {Z : Addr → Prop} {Ω : Om} {H : Hp} {v : V} {s : S} {n : String} (h : TyS Ω s n) (o : Ok K Z Ω H) (r : Rep K (mu Z Ω) H v s) : TyX K H v (.type n) := by
  cases h with
  | non => cases r; exact .base .non
  | bl b => cases r; exact .base (.bl b)
  | int b => cases r; exact .base (.int b)
  | str b => cases r; exact .base (.str b)
  | lst b => cases r with | lst _ h _ => exact .base (.lst h)
  | adr h =>
    cases r
    obtain ⟨xs, h1, _⟩ := o.cells _ _ h
    exact .base (.lst h1)
  | tup b =>
    cases r with
    | tup _ h _ => exact .base (.tup h)
    | wt h _ =>
      rcases h (fun _ => none) with (q | ⟨_, q⟩) | ⟨o, _, _, h1, h2, _⟩
      · cases q
      · cases q
      · exact .kTuple h1 h2
def oIsi : WL := fun ss Ω P => (∃ s n m b, ss = [s, .ty m] ∧ TyS Ω s n ∧ kitB n m = some b ∧ P (.bl b) Ω) ∨
  (∃ s n m l b c, ss = [s, .tup [.ty m, .ty l]] ∧ TyS Ω s n ∧ kitB n m = some b ∧ kitB n l = some c ∧ P (.bl (b || c)) Ω)
theorem oc_isi {K : PySem.W.Frag} (hK : X.K = K := by rfl) : OC X (.builtin "isinstance") (fun xs H Q => rIsi K xs H Q ∨ (rIsiT K xs H Q ∨ rIsiK K xs H Q)) oIsi := by
  subst hK
  exact ⟨call_isi.or (call_isiT.or call_isiK), fun Z H Ω xs ss P Q ok r w k => by
  rcases w with ⟨s, n, m, b, e, t, h, p⟩ | ⟨s, n, m, l, b, c, e, t, h, h', p⟩
  · subst e
    obtain ⟨v, w, rfl, r1, r2⟩ := repL2 r
    cases r2
    exact .inl ⟨v, .ty m, .type n, .type m, b, rfl, .ty m, t.x ok r1, kit_ty h, k.now ok (.bl _) p⟩
  · subst e
    obtain ⟨v, w, rfl, r1, r2⟩ := repL2 r
    have kt : PySem.W.kitAny X.K (.type n) [.type m, .type l] = some (b || c) := by
      refine kitAny_cons (kit_ty h) (fun e => ?_) (fun e => by rw [e]; rfl)
      subst e
      refine kitAny_cons (kit_ty h') (fun e => ?_) (fun e => by rw [e]; rfl)
      subst e
      exact kitAny_nil
    cases r2 with
    | tup h0 hh rr =>
      obtain ⟨x, y, rfl, q1, q2⟩ := repL2 rr
      cases q1; cases q2
      exact .inr (.inl ⟨v, _, [.ty m, .ty l], .type n, [.type m, .type l], b || c, rfl, hh, .cons (.ty m) (.cons (.ty l) .nil), t.x ok r1, kt, k.now ok (.bl _) p⟩)
    | wt hh rr =>
      obtain ⟨x, y, rfl, q1, q2⟩ := repL2 rr
      cases q1; cases q2
      rcases hh (fun _ => none) with (q | ⟨_, q⟩) | ⟨o, its, nn, h1, h2, h3, _, h5⟩
      · cases q
      · cases q
      · obtain ⟨oc, od, dt, osl⟩ := o
        have e1 : oc = .type "tuple" := h2
        have e2 : dt = .seq its nn := h3
        have e3 : its = [Value.type m, Value.type l].toArray := by
          have e4 : its.toList = [Value.type m, Value.type l] := by
            generalize its.toList = zs at h5
            cases h5 with
            | cons q1 q2 =>
              cases q2 with
              | cons q3 q4 =>
                cases q4
                rw [show _ = Value.type m from q1, show _ = Value.type l from q3]
          rw [← e4]
        subst e1 e2 e3
        exact .inr (.inr ⟨v, _, od, [.type m, .type l], nn, osl, .type n, b || c, rfl, h1, t.x ok r1, kt, k.now ok (.bl _) p⟩)⟩
theorem kb_NoneType_int : kitB "NoneType" "int" = some false := by decide +kernel
theorem kb_NoneType_bool : kitB "NoneType" "bool" = some false := by decide +kernel
theorem kb_NoneType_str : kitB "NoneType" "str" = some false := by decide +kernel
theorem kb_NoneType_list : kitB "NoneType" "list" = some false := by decide +kernel
theorem kb_NoneType_tuple : kitB "NoneType" "tuple" = some false := by decide +kernel
theorem kb_bool_int : kitB "bool" "int" = some true := by decide +kernel
theorem kb_bool_bool : kitB "bool" "bool" = some true := by decide +kernel
theorem kb_bool_str : kitB "bool" "str" = some false := by decide +kernel
theorem kb_bool_list : kitB "bool" "list" = some false := by decide +kernel
theorem kb_bool_tuple : kitB "bool" "tuple" = some false := by decide +kernel
theorem kb_int_int : kitB "int" "int" = some true := by decide +kernel
theorem kb_int_bool : kitB "int" "bool" = some false := by decide +kernel
theorem kb_int_str : kitB "int" "str" = some false := by decide +kernel
theorem kb_int_list : kitB "int" "list" = some false := by decide +kernel
theorem kb_int_tuple : kitB "int" "tuple" = some false := by decide +kernel
theorem kb_str_int : kitB "str" "int" = some false := by decide +kernel
theorem kb_str_bool : kitB "str" "bool" = some false := by decide +kernel
theorem kb_str_str : kitB "str" "str" = some true := by decide +kernel
theorem kb_str_list : kitB "str" "list" = some false := by decide +kernel
theorem kb_str_tuple : kitB "str" "tuple" = some false := by decide +kernel
theorem kb_list_int : kitB "list" "int" = some false := by decide +kernel
theorem kb_list_bool : kitB "list" "bool" = some false := by decide +kernel
theorem kb_list_str : kitB "list" "str" = some false := by decide +kernel
theorem kb_list_list : kitB "list" "list" = some true := by decide +kernel
theorem kb_list_tuple : kitB "list" "tuple" = some false := by decide +kernel
theorem kb_tuple_int : kitB "tuple" "int" = some false := by decide +kernel
theorem kb_tuple_bool : kitB "tuple" "bool" = some false := by decide +kernel
theorem kb_tuple_str : kitB "tuple" "str" = some false := by decide +kernel
theorem kb_tuple_list : kitB "tuple" "list" = some false := by decide +kernel
theorem kb_tuple_tuple : kitB "tuple" "tuple" = some true := by decide +kernel
theorem g_isi {Ω : Om} {P : WP} {s : S} {n m : String} {b : Bool} (t : TyS Ω s n) (h : kitB n m = some b) (p : P (.bl b) Ω) : oIsi [s, .ty m] Ω P := .inl ⟨s, n, m, b, rfl, t, h, p⟩
theorem g_isi2 {Ω : Om} {P : WP} {s : S} {n m l : String} {b c : Bool} (t : TyS Ω s n) (h : kitB n m = some b) (h2 : kitB n l = some c) (p : P (.bl (b || c)) Ω) : oIsi [s, .tup [.ty m, .ty l]] Ω P := .inr ⟨s, n, m, l, b, c, rfl, t, h, h2, p⟩
end
end Om
/-! Om: the built-ins' names; what changes; the law's own box of draws. -/
namespace Om
open PySem L2
open PyProof.Rows (b2i)
theorem small_le {n : Nat} (h : n ≤ 100) : n ≤ sizeLine := Nat.le_trans h (by decide)
theorem small_lt : 100000 < sizeLine := by decide
theorem bt_len : bootBuiltins "len" = some (.builtin "len") := by decide +kernel
theorem bt_abs : bootBuiltins "abs" = some (.builtin "abs") := by decide +kernel
theorem bt_max : bootBuiltins "max" = some (.builtin "max") := by decide +kernel
theorem bt_min : bootBuiltins "min" = some (.builtin "min") := by decide +kernel
theorem bt_divmod : bootBuiltins "divmod" = some (.builtin "divmod") := by decide +kernel
theorem bt_any : bootBuiltins "any" = some (.builtin "any") := by decide +kernel
theorem bt_all : bootBuiltins "all" = some (.builtin "all") := by decide +kernel
theorem bt_sum : bootBuiltins "sum" = some (.builtin "sum") := by decide +kernel
theorem bt_isinstance : bootBuiltins "isinstance" = some (.builtin "isinstance") := by decide +kernel
theorem bt_int : bootBuiltins "int" = some (.type "int") := by decide +kernel
theorem bt_bool : bootBuiltins "bool" = some (.type "bool") := by decide +kernel
theorem bt_str : bootBuiltins "str" = some (.type "str") := by decide +kernel
theorem bt_list : bootBuiltins "list" = some (.type "list") := by decide +kernel
theorem bt_tuple : bootBuiltins "tuple" = some (.type "tuple") := by decide +kernel

/-- the store is another one at these addresses alone -/
def Chg (L : List Addr) (Ω Ω' : Om) : Prop := ∀ a, a ∉ L → Ω' a = Ω a
theorem Chg.refl {L : List Addr} {Ω : Om} : Chg L Ω Ω := fun _ _ => rfl
theorem Chg.trans {L : List Addr} {Ω Ω1 Ω2 : Om} (a : Chg L Ω Ω1) (b : Chg L Ω1 Ω2) : Chg L Ω Ω2 := fun x h => (b x h).trans (a x h)
theorem Chg.put {L : List Addr} {Ω Ω1 : Om} {a : Addr} {c : Cell} (h : Chg L Ω Ω1) (ha : a ∈ L) : Chg L Ω (put Ω1 a c) := fun x hx => (put_ne (fun e => hx (by rw [e]; exact ha))).trans (h x hx)
theorem Chg.sub {L L' : List Addr} {Ω Ω1 : Om} (h : Chg L Ω Ω1) (s : ∀ a, a ∈ L → a ∈ L') : Chg L' Ω Ω1 := fun x hx => h x fun q => hx (s x q)
theorem Chg.at_ {L : List Addr} {Ω Ω1 : Om} {a : Addr} {c : Option Cell} (h : Chg L Ω Ω1) (ha : a ∉ L) (e : Ω a = c) : Ω1 a = c := (h a ha).trans e
theorem put_chg {Ω : Om} {a : Addr} {c : Cell} : Chg [a] Ω (put Ω a c) := Chg.put .refl (List.mem_singleton.mpr rfl)
/-- a thing of the store that was new is let go -/
theorem Chg.drp {L : List Addr} {Ω Ω1 : Om} {p : Addr} (h : Chg (p :: L) Ω Ω1) (hp : Ω p = none) : Chg L Ω (drp Ω1 p) := fun x hx => by
  by_cases e : x = p
  · subst e; rw [drp_same, hp]
  · rw [drp_ne e]
    exact h x fun q => by
      rcases List.mem_cons.mp q with q | q
      · exact e q
      · exact hx q
theorem ne1 {a b : Addr} (h : a ≠ b) : a ∉ [b] := fun q => h (List.mem_singleton.mp q)

theorem enumL_out : ∀ {k i : Nat} {ss : List S} {s : S}, (enumL k ss)[i]? = some s → ∃ u, ss[i]? = some u ∧ s = .tup [.int ((k + i : Nat) : Int), u]
  | _, _, [], _, h => by simp [enumL] at h
  | k, 0, x :: r, s, h => by
    simp [enumL] at h
    exact ⟨x, rfl, h.symm⟩
  | k, i + 1, x :: r, s, h => by
    obtain ⟨u, h1, h2⟩ := enumL_out (k := k + 1) (i := i) (ss := r) (s := s) (by simpa [enumL] using h)
    refine ⟨u, by simpa using h1, ?_⟩
    rw [h2]
    have e : k + 1 + i = k + (i + 1) := by omega
    rw [e]
theorem cut_map {α β : Type} (f : α → β) (l : List α) (lo hi : Option Int) : cutL (l.map f) lo hi = (cutL l lo hi).map f := by
  unfold cutL
  rw [List.length_map, List.map_take, List.map_drop]
theorem map_out {α : Type} {f : α → S} {l : List α} {i : Nat} {s : S} (h : (l.map f)[i]? = some s) : ∃ x, l[i]? = some x ∧ s = f x := by
  rw [List.getElem?_map] at h
  cases e : l[i]? with
  | none => rw [e] at h; cases h
  | some x => rw [e] at h; cases h; exact ⟨x, rfl, rfl⟩
theorem cut_le {α : Type} (l : List α) (lo hi : Option Int) : (cutL l lo hi).length ≤ l.length := by
  unfold cutL
  rw [List.length_take, List.length_drop]
  omega
theorem atI_n {α : Type} {xs : List α} {j : Nat} {x : α} (h : xs[j]? = some x) : atI xs (j : Int) = some x := atI_nat h
theorem atI_i {α : Type} {xs : List α} {i : Int} {x : α} (h0 : 0 ≤ i) (h : xs[i.toNat]? = some x) : atI xs i = some x := by
  have e : i = (i.toNat : Int) := by omega
  rw [e]
  exact atI_nat h
theorem atI_map {α β : Type} (f : α → β) {xs : List α} {i : Int} {x : α} (h : atI xs i = some x) : atI (xs.map f) i = some (f x) := by
  unfold atI at h ⊢
  rw [List.length_map]
  cases e : ixN xs.length i with
  | none => rw [e] at h; cases h
  | some j =>
    rw [e] at h
    show (xs.map f)[j]? = some (f x)
    rw [List.getElem?_map, show xs[j]? = some x from h]
    rfl
theorem atI_m1 {α : Type} {xs : List α} {x : α} (h : xs.getLast? = some x) : atI xs (-1) = some x := by
  have hl : 0 < xs.length := by
    cases xs with
    | nil => simp at h
    | cons a r => simp
  unfold atI ixN
  rw [if_neg (by decide), if_pos (by omega)]
  show xs[(-1 + (xs.length : Int)).toNat]? = some x
  have e : (-1 + (xs.length : Int)).toNat = xs.length - 1 := by omega
  rw [e, ← h, List.getLast?_eq_getElem?]
theorem at_some {α : Type} {xs : List α} {j : Nat} (h : j < xs.length) : ∃ x, xs[j]? = some x := ⟨_, List.getElem?_eq_getElem h⟩

/-! ### a store within another one: what is not asked of is let go -/
theorem Ok.less {K : PySem.W.Frag} {Z : Addr → Prop} {Ω Ω' : Om} {H : Hp} (o : Ok K Z Ω H) (h : ∀ a, Ω' a = none ∨ Ω' a = Ω a) : Ok K Z Ω' H ∧ Frm Ω H Ω' H := by
  have hm : ∀ a, ¬ mu Z Ω a → ¬ mu Z Ω' a := fun a n q => by
    rcases q with q | q
    · exact n (.inl q)
    · rcases h a with e | e
      · exact q e
      · exact n (.inr (by rw [← e]; exact q))
  refine ⟨⟨fun a c e => ?_, fun a z => ?_⟩, ⟨fun _ _ e _ => e, fun a q => .inl ?_⟩⟩
  · rcases h a with e2 | e2
    · rw [e2] at e; cases e
    · exact CellRep.keep (o.cells a c (by rw [← e2]; exact e)) (fun _ e => e) (fun _ _ e _ => e) fun b _ _ n => hm b n
  · obtain ⟨h1, x⟩ := o.hid a z
    refine ⟨?_, x⟩
    rcases h a with e | e
    · exact e
    · rw [e, h1]
  · rcases h a with e | e
    · exact absurd e q
    · rw [← e]; exact q
theorem Vw.less {s : S} {Ω Ω' : Om} (h : ∀ a, Ω' a = none ∨ Ω' a = Ω a) : Vw s Ω s Ω' := fun K Z H v o r => ⟨(o.less h).1, (o.less h).2, (o.less h).2.rep o r⟩
theorem VwE.less {Γ : Ga} {Ω Ω' : Om} (h : ∀ a, Ω' a = none ∨ Ω' a = Ω a) : VwE Γ Ω Γ Ω' := fun K Z H σ o e => ⟨(o.less h).1, (o.less h).2, e.frm (o.less h).2 o⟩
/-- Ω' where Ω has something -/
def cutO (Ω Ω' : Om) : Om := fun a => match Ω a with
  | none => none
  | some _ => Ω' a
theorem cutO_no {Ω Ω' : Om} {a : Addr} (h : Ω a = none) : cutO Ω Ω' a = none := by unfold cutO; rw [h]
theorem cutO_yes {Ω Ω' : Om} {a : Addr} (h : Ω a ≠ none) : cutO Ω Ω' a = Ω' a := by
  unfold cutO
  cases e : Ω a with
  | none => exact absurd e h
  | some c => rfl
theorem cutO_or {Ω Ω' : Om} (a : Addr) : cutO Ω Ω' a = none ∨ cutO Ω Ω' a = Ω' a := by
  by_cases h : Ω a = none
  · exact .inl (cutO_no h)
  · exact .inr (cutO_yes h)
theorem Vw.back {s : S} {Ω Ω' : Om} : Vw s Ω' s (cutO Ω Ω') := .less cutO_or
theorem Vw.backF {Ω Ω' : Om} {p : Addr} {ss : List S} (h : Ω' p = some (.lst ss)) (hp : Ω p = none) : Vw (.adr p) Ω' (.lst ss) (cutO Ω Ω') :=
  (Vw.freeze h).trans (.less fun a => by
    by_cases e : a = p
    · exact .inl (by rw [e]; exact cutO_no hp)
    · rw [drp_ne e]; exact cutO_or a)
/-- what stood stands as it did but at these -/
def Chw (L : List Addr) (Ω Ω' : Om) : Prop := ∀ a, a ∉ L → Ω a ≠ none → Ω' a = Ω a
theorem Chw.refl {L : List Addr} {Ω : Om} : Chw L Ω Ω := fun _ _ _ => rfl
theorem Chg.w {L : List Addr} {Ω Ω1 : Om} (h : Chg L Ω Ω1) : Chw L Ω Ω1 := fun a ha _ => h a ha
theorem Chw.trans {L : List Addr} {Ω Ω1 Ω2 : Om} (a : Chw L Ω Ω1) (b : Chw L Ω1 Ω2) : Chw L Ω Ω2 := fun x h n => (b x h (by rw [a x h n]; exact n)).trans (a x h n)
theorem Chw.chg {L : List Addr} {Ω Ω1 Ω2 : Om} (a : Chw L Ω Ω1) (b : Chg L Ω1 Ω2) : Chw L Ω Ω2 := a.trans b.w
theorem Chw.put {L : List Addr} {Ω Ω1 : Om} {a : Addr} {c : Cell} (h : Chw L Ω Ω1) (ha : a ∈ L ∨ Ω a = none) : Chw L Ω (put Ω1 a c) := fun x hx n => (put_ne (fun e => by
  rcases ha with ha | ha
  · exact hx (by rw [e]; exact ha)
  · exact n (by rw [e]; exact ha))).trans (h x hx n)
theorem Chw.cut {L : List Addr} {Ω Ω1 : Om} (h : Chw L Ω Ω1) : Chg L Ω (cutO Ω Ω1) := fun a ha => by
  by_cases e : Ω a = none
  · rw [cutO_no e, e]
  · rw [cutO_yes e, h a ha e]
theorem Chw.none_ {L : List Addr} {Ω Ω1 : Om} {p : Addr} (h : Chw L Ω Ω1) (hp : Ω1 p = none) (hL : ∀ a ∈ L, Ω1 a ≠ none) : Ω p = none := no_some fun q => by
  by_cases e : p ∈ L
  · exact hL p e hp
  · rw [← h p e q, hp] at q; exact q rfl
theorem g_pick {Ω : Om} {P : WP} {i : Int} {ss : List S} (ns : List Int) (A : Int → Prop) (e : ss = ns.map S.int) (h0 : 0 ≤ i) (h1 : i < ns.length) (h : ∀ x ∈ ns, A x) (k : ∀ x, A x → P (.int x) Ω) : oIx (.lst ss) (.int i) Ω P := by
  subst e
  obtain ⟨x, hx⟩ := at_some (xs := ns) (j := i.toNat) (by omega)
  exact g_ix rfl (atI_map S.int (atI_i h0 hx)) (k x (h x (List.mem_of_getElem? hx)))

/-! ### data that == reads -/
structure EqD (n : Nat) (s : S) : Prop where
  flat : flat s = true
  lay : (toD s).canLay0 = true
  dep : (toD s).depth ≤ n
theorem EqD.ok {n : Nat} {s : S} (h : EqD n s) (hn : n ≤ 64) : eqOk s := ⟨h.flat, by
  show ((toD s).canLay0 && decide ((toD s).depth ≤ 64)) = true
  rw [h.lay, decide_eq_true (Nat.le_trans h.dep hn)] <;> rfl⟩
theorem EqD.int {n : Nat} (i : Int) : EqD n (.int i) := ⟨rfl, rfl, Nat.zero_le _⟩
theorem EqD.bl {n : Nat} (i : Bool) : EqD n (.bl i) := ⟨rfl, rfl, Nat.zero_le _⟩
theorem EqD.non {n : Nat} : EqD n .non := ⟨rfl, rfl, Nat.zero_le _⟩
theorem EqD.str {n : Nat} {x : Str} (h : PyData.strOk x = true) : EqD n (.str x) := ⟨rfl, h, Nat.zero_le _⟩
theorem EqD.all {n : Nat} : ∀ {ss : List S}, (∀ s ∈ ss, EqD n s) → flats ss = true ∧ PyData.canLayAll0 (toDs ss) = true ∧ PyData.depthAll (toDs ss) ≤ n
  | [], _ => ⟨rfl, rfl, Nat.zero_le _⟩
  | s :: r, h => by
    obtain ⟨a, b, c⟩ := h s (List.mem_cons_self ..)
    obtain ⟨d, e, f⟩ := EqD.all (ss := r) fun x hx => h x (List.mem_cons_of_mem _ hx)
    refine ⟨?_, ?_, ?_⟩
    · show (Om.flat s && flats r) = true
      rw [a, d] <;> rfl
    · show ((toD s).canLay0 && PyData.canLayAll0 (toDs r)) = true
      rw [b, e] <;> rfl
    · show max (toD s).depth (PyData.depthAll (toDs r)) ≤ n
      omega
theorem EqD.lst {n : Nat} {ss : List S} (h : ∀ s ∈ ss, EqD n s) : EqD (n + 1) (.lst ss) := by
  obtain ⟨a, b, c⟩ := EqD.all h
  exact ⟨a, b, Nat.succ_le_succ c⟩
theorem EqD.tup {n : Nat} {ss : List S} (h : ∀ s ∈ ss, EqD n s) : EqD (n + 1) (.tup ss) := by
  obtain ⟨a, b, c⟩ := EqD.all h
  exact ⟨a, b, Nat.succ_le_succ c⟩
theorem EqD.map {α : Type} {n : Nat} {f : α → S} {l : List α} (h : ∀ x ∈ l, EqD n (f x)) : ∀ s ∈ l.map f, EqD n s := fun s hs => by
  obtain ⟨x, hx, rfl⟩ := List.mem_map.mp hs
  exact h x hx
theorem EqD.eqv {n : Nat} {s : S} (h : EqD n s) : PyData.eqv (toD s) (toD s) = true := PySem.SeqAt.eqv_refl _ h.lay

/-! ### zip -/
theorem zipL_out : ∀ {i : Nat} {a b : List S} {s : S}, (zipL a b)[i]? = some s → ∃ u v, a[i]? = some u ∧ b[i]? = some v ∧ s = .tup [u, v]
  | _, [], _, _, h => by simp [zipL] at h
  | _, _ :: _, [], _, h => by simp [zipL] at h
  | 0, x :: a, y :: b, s, h => by
    simp [zipL] at h
    exact ⟨x, y, rfl, rfl, h.symm⟩
  | i + 1, x :: a, y :: b, s, h => by
    obtain ⟨u, v, h1, h2, h3⟩ := zipL_out (i := i) (a := a) (b := b) (s := s) (by simpa [zipL] using h)
    exact ⟨u, v, by simpa using h1, by simpa using h2, h3⟩
/-- a comprehension of truth values: all alike -/
theorem g_mapB {Γ : Ga} {Ω : Om} {P : WP} {ss : List S} {G : Om → Prop} {wg : WG} {we : WE} (b : Bool) (hG : G Ω) (hl : ss.length < sizeLine) (hs : ∀ (i : Nat) s, ss[i]? = some s → ∀ Q : WP, Q (.bl b) Ω → wg s Γ Ω fun Γ2 Ω2 => we Γ2 Ω2 Q) (hd : nw ((List.replicate ss.length b).map S.bl) Ω P) : lcAt wg wYes we Γ P ss G Ω := by
  refine g_map (fun _ => .bl b) hG hl hs ?_
  have e : ss.map (fun _ => S.bl b) = (List.replicate ss.length b).map S.bl := by
    rw [List.map_replicate, List.map_const']
  rw [e]
  exact hd
theorem any_rep {n : Nat} : (List.replicate n false).any id = false := by
  rw [List.any_eq_false]
  intro x hx
  rw [List.eq_of_mem_replicate hx]
  exact Bool.false_ne_true
theorem all_rep {n : Nat} : (List.replicate n true).all id = true := by
  rw [List.all_eq_true]
  intro x hx
  rw [List.eq_of_mem_replicate hx]
  rfl

/-! ### the law's own box of draws: what is left of the great number, what is mixed, how many were drawn -/
def Box (b : Addr) (n : Int) (Ω : Om) : Prop := ∃ x y z : Int, Ω b = some (.lst [.int x, .int y, .int z]) ∧ 0 ≤ x ∧ 0 ≤ y ∧ y < 2147483648 ∧ 0 ≤ z ∧ z ≤ n
theorem Box.mono {b : Addr} {n m : Int} {Ω : Om} (h : Box b n Ω) (e : n ≤ m) : Box b m Ω := by
  obtain ⟨x, y, z, h1, h2, h3, h4, h5, h6⟩ := h
  exact ⟨x, y, z, h1, h2, h3, h4, h5, Int.le_trans h6 e⟩
theorem Box.at_ {b : Addr} {n : Int} {Ω Ω' : Om} (h : Box b n Ω) (e : Ω' b = Ω b) : Box b n Ω' := by
  obtain ⟨x, y, z, h1, h2⟩ := h
  exact ⟨x, y, z, by rw [e]; exact h1, h2⟩
theorem Box.ne {b : Addr} {n : Int} {Ω : Om} (h : Box b n Ω) : Ω b ≠ none := by
  obtain ⟨x, y, z, h1, _⟩ := h
  rw [h1]
  exact fun e => nomatch e
theorem Box.cut {b : Addr} {n : Int} {Ω Ω' : Om} (h : Box b n Ω') (e : Ω b ≠ none) : Box b n (cutO Ω Ω') := h.at_ (cutO_yes e)
theorem Box.put {b p : Addr} {n : Int} {Ω : Om} {c : Cell} (h : Box b n Ω) (e : b ≠ p) : Box b n (Om.put Ω p c) := h.at_ (put_ne e)
def W_box : WF := fun ss Ω P => ∃ ns : List Int, ss = [.wls (ns.map S.int)] ∧ ns.length ≤ 1000 ∧ ∀ p Ω', Ω p = none → Box p 0 Ω' → Chg [p] Ω Ω' → P (.adr p) Ω'
def W_take : WF := fun ss Ω P => ∃ (b : Addr) (m n : Int), ss = [.adr b, .int m] ∧ Box b n Ω ∧ n < 1099511627776 ∧ 1 ≤ m ∧ m < 1073741824 ∧
  ∀ r Ω', 0 ≤ r → r < m → Box b (n + 1) Ω' → Chg [b] Ω Ω' → P (.int r) Ω'
theorem g_take {b : Addr} {m n : Int} {Ω : Om} {P : WP} (hB : Box b n Ω) (h1 : n < 1099511627776) (h2 : 1 ≤ m) (h3 : m < 1073741824) (k : ∀ r Ω', 0 ≤ r → r < m → Box b (n + 1) Ω' → Chg [b] Ω Ω' → P (.int r) Ω') : W_take [.adr b, .int m] Ω P := ⟨b, m, n, rfl, hB, h1, h2, h3, k⟩
/-- a law's own promise: a script of so many ints, True -/
def W_law : WF := fun ss Ω P => ∃ ns : List Int, ss = [.wls (ns.map S.int)] ∧ ns.length ≤ 63 ∧ ∀ Ω', P (.bl true) Ω'
theorem law_true {K : PySem.W.Frag} {H : Hp} {a : Addr} {ns : List Int} {E : XK} (hl : ns.length ≤ 63) (hS : SqL K H a (ns.map V.int)) : spO K W_law [.ref a] H (fun v _ => v = .bl true) E := by
  have n : ∀ b : Addr, ¬ mu (fun _ => False) (fun _ => none) b := fun b h => by
    rcases h with h | h
    · exact h
    · exact h rfl
  have ok : Ok K (fun _ => False) (fun _ => none) H := ⟨fun a c h => (nomatch h), fun a h => False.elim h⟩
  refine ⟨fun _ => False, fun _ => none, [.wls (ns.map S.int)], fun s _ => s = .bl true, ok, .cons ?_ .nil, ⟨ns, rfl, hl, fun _ => rfl⟩, fun v s Ω' H' _ _ r e => ?_⟩
  · rcases hS with h | h
    · exact .sc (n a) h .ofInts
    · exact .wl (fun H' => .inr h) .ofInts
  · subst e
    exact rep_bl r
end Om
local macro_rules | `(tactic| walk_at "c") => `(tactic| first | assumption | exact Om.put_same | (refine (Om.put_ne ?_).trans ?_ <;> first | assumption | (apply Ne.symm; assumption) | exact Om.put_same))
local macro_rules | `(tactic| walk_at "h") => `(tactic| first | assumption | exact Om.Chg.refl | (refine Om.Chg.put ?_ (by simp) <;> walk_at "h"))
local macro_rules | `(tactic| walk_at "z") => `(tactic| first | (refine Nat.lt_of_le_of_lt ?_ Om.small_lt; simp only [List.length_append, List.length_map, List.length_cons, List.length_nil]; omega))
local macro_rules | `(tactic| walk_at "k") => `(tactic| with_reducible first | exact Om.kb_NoneType_int | exact Om.kb_NoneType_bool | exact Om.kb_NoneType_str | exact Om.kb_NoneType_list | exact Om.kb_NoneType_tuple | exact Om.kb_bool_int | exact Om.kb_bool_bool | exact Om.kb_bool_str | exact Om.kb_bool_list | exact Om.kb_bool_tuple | exact Om.kb_int_int | exact Om.kb_int_bool | exact Om.kb_int_str | exact Om.kb_int_list | exact Om.kb_int_tuple | exact Om.kb_str_int | exact Om.kb_str_bool | exact Om.kb_str_str | exact Om.kb_str_list | exact Om.kb_str_tuple | exact Om.kb_list_int | exact Om.kb_list_bool | exact Om.kb_list_str | exact Om.kb_list_list | exact Om.kb_list_tuple | exact Om.kb_tuple_int | exact Om.kb_tuple_bool | exact Om.kb_tuple_str | exact Om.kb_tuple_list | exact Om.kb_tuple_tuple)
local macro_rules | `(tactic| walk_at "ty") => `(tactic| first | exact Om.TyS.int _ | exact Om.TyS.bl _ | exact Om.TyS.str _ | exact Om.TyS.non | exact Om.TyS.lst _ | exact Om.TyS.tup _ | exact Om.TyS.adr (by walk_at "c"))
local macro_rules | `(tactic| walk_at "o") => `(tactic| first
  | ((with_reducible refine' Om.g_var ?hv ?_); (case hv => rfl))
  | (with_reducible refine Om.g_c ?_) | (with_reducible refine Om.g_op ?_) | (with_reducible refine Om.g_seq ?_)
  | ((with_reducible refine Om.g_set ?_)) | (with_reducible refine Om.g_test ?_) | (with_reducible refine Om.g_ifS ?_) | (with_reducible refine Om.g_if ?_)
  | (with_reducible refine Om.g_cons ?_) | (with_reducible refine Om.g_nil ?_) | (with_reducible refine Om.g_cb ?_) | (with_reducible refine Om.g_call ?_)
  | (with_reducible refine Om.g_tup ?_) | (with_reducible refine Om.g_lst ?_) | (with_reducible refine Om.g_ret ?_) | (with_reducible refine Om.g_next ?_)
  | (with_reducible refine Om.g_retN ?_) | (with_reducible refine Om.g_drop ?_) | (with_reducible refine Om.g_brk ?_) | (with_reducible refine Om.g_cont ?_)
  | (with_reducible refine Om.g_asg ?_) | (with_reducible refine Om.g_par ?_) | (with_reducible refine Om.g_par3 ?_) | (with_reducible refine Om.g_name ?_)
  | ((with_reducible refine' Om.g_aug ?hv ?_); (case hv => rfl))
  | ((with_reducible refine Om.g_gtup ?hv ?_); (case hv => rfl)) | (with_reducible refine Om.g_gcons ?_) | (with_reducible refine Om.g_gnil ?_) | (with_reducible refine Om.g_gsub ?_)
  | (with_reducible refine Om.g_andV ?_) | (with_reducible refine Om.g_orV ?_) | (with_reducible refine Om.g_notV ?_) | (with_reducible refine Om.g_and ?_) | (with_reducible refine Om.g_or ?_) | (with_reducible refine Om.g_not ?_)
  | (with_reducible refine Om.g_sl ?_) | (with_reducible refine Om.g_noP ?_) | (with_reducible refine Om.g_part ?_) | (with_reducible refine Om.g_rev ?_) | (with_reducible refine Om.g_append ?_)
  | (with_reducible refine Om.g_yes ?_) | (with_reducible refine Om.g_lc ?_) | (with_reducible refine Om.g_for ?_)
  | (with_reducible refine Om.g_rng1 ?_) | (with_reducible refine Om.g_rng2 ?_) | (with_reducible refine Om.g_down ?_) | (with_reducible refine Om.g_seqI ?_) | (with_reducible refine Om.g_enumI ?_) | (with_reducible refine Om.g_zipI ?_)
  | ((with_reducible refine Om.g_rng1P ?hv ?hw ?_); (case hv => omega); (case hw => omega)) | ((with_reducible refine Om.g_rng2P ?hv ?_); (case hv => omega)) | ((with_reducible refine Om.g_downP ?hv ?hw ?_); (case hv => omega); (case hw => omega))
  | ((with_reducible refine' Om.g_seqL ?hv ?_); (case hv => first | rfl | exact Om.asL_adr (by walk_at "c"))) | (with_reducible refine Om.g_seqT ?_)
  | ((with_reducible refine' Om.g_enumP ?hv ?_); (case hv => first | rfl | exact Om.asL_adr (by walk_at "c")))
  | ((with_reducible refine' Om.g_zipP ?hv ?hw ?_); (case hv => first | rfl | exact Om.asL_adr (by walk_at "c")); (case hw => first | rfl | exact Om.asL_adr (by walk_at "c")))
  | (with_reducible refine Om.g_addI ?_) | (with_reducible refine Om.g_subI ?_)
  | ((with_reducible refine Om.g_mulI ?hv ?_); (case hv => omega)) | ((with_reducible refine Om.g_divI ?hv ?_); (case hv => omega)) | ((with_reducible refine Om.g_modI ?hv ?_); (case hv => omega))
  | ((with_reducible refine Om.g_powI ?hv ?_); (case hv => decide))
  | (with_reducible refine Om.g_ltI ?_) | (with_reducible refine Om.g_leI ?_) | (with_reducible refine Om.g_gtI ?_) | (with_reducible refine Om.g_geI ?_) | (with_reducible refine Om.g_ltS ?_)
  | (with_reducible refine Om.g_eqI ?_) | (with_reducible refine Om.g_eqS ?_) | (with_reducible refine Om.g_eqB ?_) | (with_reducible refine Om.g_neI ?_) | (with_reducible refine Om.g_neS ?_) | (with_reducible refine Om.g_neB ?_)
  | ((with_reducible refine' Om.g_ix ?hv ?hw ?_); (case hv => first | rfl | exact Om.asQ_adr (by walk_at "c")); (case hw => first | assumption | rfl))
  | ((with_reducible refine' Om.g_len ?hv ?_); (case hv => first | rfl | exact Om.asQ_adr (by walk_at "c")))
  | ((with_reducible refine' Om.g_list ?hv ?_); (case hv => first | rfl | exact Om.asQ_adr (by walk_at "c")))
  | ((with_reducible refine' Om.g_slL ?hv ?_); (case hv => first | rfl | exact Om.asL_adr (by walk_at "c")))
  | (with_reducible refine Om.g_slT ?_)
  | (with_reducible refine Om.g_abs ?_) | (with_reducible refine Om.g_max ?_) | (with_reducible refine Om.g_min ?_) | ((with_reducible refine Om.g_divmod ?hv ?_); (case hv => omega))
  | ((with_reducible refine' Om.g_isi ?hv ?hw ?_); (case hv => walk_at "ty"); (case hw => walk_at "k"))
  | ((with_reducible refine' Om.g_isi2 ?hv ?hw ?hx ?_); (case hv => walk_at "ty"); (case hw => walk_at "k"); (case hx => walk_at "k"))
  | (with_reducible refine Om.g_intI ?_) | (with_reducible refine Om.g_intB ?_)
  | ((with_reducible refine' Om.g_app1 ?hv ?_); (case hv => walk_at "c")) | ((with_reducible refine' Om.g_app2 ?hv ?hw ?_); (case hv => walk_at "c"); (case hw => walk_at "z"))
  | ((with_reducible refine' Om.g_at ?hv ?hw ?_); (case hv => walk_at "c"); (case hw => first | rfl | assumption))
  | (with_reducible refine ⟨_, rfl, ?_⟩) | (with_reducible refine ⟨_, _, rfl, ?_⟩) | (with_reducible refine ⟨_, _, _, rfl, ?_⟩)
  | (with_reducible refine Om.g_T ?_) | (with_reducible refine Om.g_F ?_)
  | ((with_reducible refine Om.g_ifT ?hv ?_); (case hv => rfl)) | ((with_reducible refine Om.g_ifF ?hv ?_); (case hv => rfl))
  | (refine And.intro (Om.small_le (Nat.le_of_ble_eq_true rfl)) ?_))
local macro_rules | `(tactic| walk_at "os") => `(tactic| ((repeat walk_at "o"); try dsimp only [Om.st, Om.wipeG]))
namespace Om
open PySem L2
open PyProof.Rows (b2i)
def v_box : WS :=
  (wSeq (wSet (wC (.int 0)) 1)
  (wSeq (wFor (wiEnum (wCons (wSl (wVar 0) wNoP (wPart (wC (.int 63)))) wNil)) (wgTup 2 (wgCons (wgName 2) (wgCons (wgName 3) wgNil))) (wSet (wOp oAdd (wVar 1) (wOp oMul (wVar 3) (wOp oAdd (wOp oMul (wVar 2) (wVar 2)) (wC (.int 1))))) 1))
  (wRet (wLst (wCons (wOp oMul (wCB oAbs (wCons (wVar 1) wNil)) (wCB oInt (wCons (wOp oGe (wCB oAbs (wCons (wVar 1) wNil)) (wOp oPowI (wC (.int 10)) (wC (.int 18)))) wNil))) (wCons (wOp oModI (wOp oMul (wOp oAdd (wOp oModI (wVar 1) (wC (.int 2147483647))) (wC (.int 11))) (wC (.int 48271))) (wC (.int 2147483629))) (wCons (wC (.int 0)) wNil)))))))
abbrev N_box : List Str := ["script", "cell", "k", "one"]
def v_take : WS :=
  (wSeq (wIfS (wTest (wOp oGt (wOp oIx (wVar 0) (wC (.int 0))) (wC (.int 0)))) (wSeq (wAsg (wCB oDivmod (wCons (wOp oIx (wVar 0) (wC (.int 0))) (wCons (wVar 1) wNil))) (wgTup 2 (wgCons (wgSub (wVar 0) (wC (.int 0))) (wgCons (wgName 2) wgNil))))
  (wRet (wVar 2))) wNext)
  (wSeq (wAsg (wOp oAdd (wOp oIx (wVar 0) (wC (.int 2))) (wC (.int 1))) (wgSub (wVar 0) (wC (.int 2))))
  (wSeq (wSet (wOp oModI (wOp oMul (wOp oAdd (wOp oIx (wVar 0) (wC (.int 1))) (wOp oMul (wC (.int 39373)) (wOp oIx (wVar 0) (wC (.int 2))))) (wOp oAdd (wC (.int 48271)) (wOp oIx (wVar 0) (wC (.int 2))))) (wC (.int 2147483647))) 3)
  (wSeq (wAsg (wOp oModI (wOp oAdd (wOp oMul (wVar 3) (wOp oAdd (wOp oModI (wVar 3) (wC (.int 40009))) (wC (.int 7)))) (wOp oIx (wVar 0) (wC (.int 2)))) (wC (.int 2147483629))) (wgSub (wVar 0) (wC (.int 1))))
  (wRet (wOp oModI (wOp oDivI (wOp oModI (wOp oMul (wOp oIx (wVar 0) (wC (.int 1))) (wOp oAdd (wOp oModI (wOp oIx (wVar 0) (wC (.int 1))) (wC (.int 1009))) (wC (.int 3)))) (wC (.int 998244353))) (wC (.int 7))) (wVar 1)))))))
abbrev N_take : List Str := ["box", "many", "found", "once"]
theorem run_take (ss : List S) (Ω : Om) (P : WP) (h : W_take ss Ω P) : v_take { nx := fun _ Ω' => seen P .non Ω', rt := seen P } (startG N_take ss) Ω := by
  obtain ⟨b, m, n, rfl, ⟨x, y, z, hb, h1, h2, h3, h4, h5⟩, h6, h7, h8, k⟩ := h
  show v_take _ [some (.adr b), some (.int m), none, none] Ω
  unfold v_take
  walk_at "os"
  refine g_ite (fun h0 => ?_) (fun h0 => ?_)
  · walk_at "os"
    refine ⟨_, _, .refl, k _ _ (Int.emod_nonneg _ (by omega)) (Int.emod_lt_of_pos _ (by omega)) ⟨x / m, y, z, put_same, Int.ediv_nonneg h1 (by omega), h2, h3, h4, by omega⟩ put_chg⟩
  · walk_at "os"
    refine ⟨_, _, .refl, k _ _ (Int.emod_nonneg _ (by omega)) (Int.emod_lt_of_pos _ (by omega)) ⟨x, _, z + 1, put_same, h1, Int.emod_nonneg _ (by omega), Int.lt_trans (Int.emod_lt_of_pos _ (by decide)) (by decide), by omega, by omega⟩ (by walk_at "h")⟩
theorem run_box (ss : List S) (Ω : Om) (P : WP) (h : W_box ss Ω P) : v_box { nx := fun _ Ω' => seen P .non Ω', rt := seen P } (startG N_box ss) Ω := by
  obtain ⟨ns, rfl, hl, k⟩ := h
  show v_box _ [some (.wls (ns.map S.int)), none, none, none] Ω
  unfold v_box
  walk_at "os"
  refine g_data ?_
  walk_at "os"
  rw [cut_map]
  refine g_forP (fun i Γ' Ω' => Ω' = Ω ∧ ∃ (c : Int) (x y : Option S), Γ' = [some (.wls (ns.map S.int)), some (.int c), x, y]) (fun _ _ _ _ _ => seqG_lst) ⟨rfl, _, _, _, rfl⟩ ?_ ?_
  · rintro i s Γ' Ω' hi ⟨rfl, c, x, y, rfl⟩
    obtain ⟨u, h1, rfl⟩ := enumL_out hi
    obtain ⟨z, h2, rfl⟩ := map_out h1
    have hlt : i < 1000 := by
      have := (List.getElem?_eq_some_iff.mp h2).1
      have := cut_le ns none (some 63)
      omega
    rw [Nat.zero_add]
    walk_at "os"
    have hm : (i : Int) * (i : Int) ≤ 1000 * 1000 := Int.mul_le_mul (by omega) (by omega) (by omega) (by omega)
    have hm0 : 0 ≤ (i : Int) * (i : Int) := Int.mul_nonneg (by omega) (by omega)
    walk_at "os"
    exact ⟨rfl, _, _, _, rfl⟩
  · rintro Γ' Ω' ⟨rfl, c, x, y, rfl⟩
    walk_at "os"
    refine g_mulI (.inr ?_) ?_
    · unfold PyProof.Rows.b2i
      split <;> omega
    walk_at "os"
    refine g_cell fun a ha => ?_
    refine ⟨_, _, .refl, k a _ ha ⟨_, _, 0, put_same, ?_, Int.emod_nonneg _ (by decide), Int.lt_trans (Int.emod_lt_of_pos _ (by decide)) (by decide), by decide, by decide⟩ put_chg⟩
    refine Int.mul_nonneg (by split <;> omega) ?_
    unfold PyProof.Rows.b2i
    split <;> omega
end Om
namespace Om
open PySem L2
open PyProof.Rows (b2i)
abbrev eI (r : List Int) : S := .lst (r.map S.int)
abbrev eT (t : List (List Int)) : S := .lst (t.map eI)
abbrev Cut : Type := Nat × Nat × Nat
abbrev eC (c : Cut) : S := .tup [.int (c.1 : Nat), .int (c.2.1 : Nat), .int (c.2.2 : Nat)]
def g2 (t : List (List Int)) (o w : Nat) : Int := ((t[o]?.getD [])[w]?).getD 0
/-- rows of so many numbers -/
def Wd (t : List (List Int)) (c : Nat) : Prop := ∀ r ∈ t, r.length = c
def cutOk (t : List (List Int)) (c : Nat) (x : Cut) : Prop := x.1 < t.length ∧ x.2.1 < t.length ∧ x.2.2 < c
def shareF (t : List (List Int)) (o : Nat) (cs : List Cut) : Int := cs.foldl (fun s c => s - (g2 t c.1 c.2.2 - g2 t c.2.1 c.2.2)) (g2 t o 0)
def mx0 (x : Int) : Int := if x > 0 then x else 0
theorem g2_at {t : List (List Int)} {c o w : Nat} (h : Wd t c) (ho : o < t.length) (hw : w < c) : ∃ r, atI (t.map eI) (o : Int) = some (eI r) ∧ atI (r.map S.int) (w : Int) = some (.int (g2 t o w)) := by
  obtain ⟨r, hr⟩ := at_some ho
  have hl := h r (List.mem_of_getElem? hr)
  obtain ⟨x, hx⟩ := at_some (xs := r) (j := w) (by omega)
  refine ⟨r, atI_map eI (atI_n hr), ?_⟩
  have e : g2 t o w = x := by unfold g2; rw [hr]; show (r[w]?).getD 0 = x; rw [hx]; rfl
  rw [e]
  exact atI_map S.int (atI_n hx)
def W_share_had : WF := fun ss Ω P => ∃ (t : List (List Int)) (c o : Nat) (cs : List Cut), ss = [eT t, .int (o : Nat), .lst (cs.map eC)] ∧ Wd t c ∧ 0 < c ∧ o < t.length ∧ (∀ x ∈ cs, cutOk t c x) ∧ P (.int (mx0 (shareF t o cs))) Ω
def W_due : WF := W_share_had
def W_aim : WF := fun ss Ω P => ∃ f h a u : Int, ss = [.int f, .int h, .int a, .int u] ∧ 0 ≤ f ∧ f ≤ 9999 ∧ 0 ≤ u ∧ u ≤ 9999 ∧ 1 ≤ h ∧ h ≤ 1000 ∧ 0 ≤ a ∧ a ≤ 1000 ∧ P (.int (if a ≤ h then f * a / h + 1 else f + u * (a - h) / 1000 + 1)) Ω
def W_whole : WF := fun ss Ω P => ∃ a b : Int, ss = [.int a, .int b] ∧ P (.bl (decide (a = b))) Ω
def v_share_had : WS :=
  (wSeq (wSet (wOp oIx (wOp oIx (wVar 0) (wVar 1)) (wC (.int 0))) 3)
  (wSeq (wFor (wiSeq (wVar 2)) (wgTup 3 (wgCons (wgName 4) (wgCons (wgName 5) (wgCons (wgName 6) wgNil)))) (wAug 3 (fun i j => i - j) (wOp oSubI (wOp oIx (wOp oIx (wVar 0) (wVar 4)) (wVar 6)) (wOp oIx (wOp oIx (wVar 0) (wVar 5)) (wVar 6)))))
  (wRet (wCB oMax (wCons (wC (.int 0)) (wCons (wVar 3) wNil))))))
abbrev N_share_had : List Str := ["table", "overs", "cuts", "share", "before", "after", "wickets"]
def v_aim : WS :=
  (wSeq (wIfS (wTest (wOp oLe (wVar 2) (wVar 1))) (wRet (wOp oAdd (wOp oDivI (wOp oMul (wVar 0) (wVar 2)) (wVar 1)) (wC (.int 1)))) wNext)
  (wRet (wOp oAdd (wOp oAdd (wVar 0) (wOp oDivI (wOp oMul (wVar 3) (wOp oSubI (wVar 2) (wVar 1))) (wC (.int 1000)))) (wC (.int 1)))))
abbrev N_aim : List Str := ["first", "had", "has", "usual"]
def v_due : WS :=
  (wSeq (wSet (wOp oIx (wOp oIx (wVar 0) (wVar 1)) (wC (.int 0))) 3)
  (wSeq (wFor (wiSeq (wVar 2)) (wgTup 3 (wgCons (wgName 4) (wgCons (wgName 5) (wgCons (wgName 6) wgNil)))) (wSet (wOp oSubI (wOp oAdd (wVar 3) (wOp oIx (wOp oIx (wVar 0) (wVar 5)) (wVar 6))) (wOp oIx (wOp oIx (wVar 0) (wVar 4)) (wVar 6))) 3))
  (wRet (wCB oMax (wCons (wC (.int 0)) (wCons (wVar 3) wNil))))))
abbrev N_due : List Str := ["table", "overs", "cuts", "share", "before", "after", "wickets"]
def v_whole : WS :=
  (wRet (wAndV (wCB oIsi (wCons (wVar 0) (wCons (wC (.ty "int")) wNil))) (wAndV (wNotV (wCB oIsi (wCons (wVar 0) (wCons (wC (.ty "bool")) wNil)))) (wOp oEq (wVar 0) (wVar 1)))))
abbrev N_whole : List Str := ["found", "due"]
theorem run_share_had (ss : List S) (Ω : Om) (P : WP) (h : W_share_had ss Ω P) : v_share_had { nx := fun _ Ω' => seen P .non Ω', rt := seen P } (startG N_share_had ss) Ω := by
  obtain ⟨t, c, o, cs, rfl, ht, hc, ho, hcs, k⟩ := h
  show v_share_had _ [some (eT t), some (.int (o : Nat)), some (.lst (cs.map eC)), none, none, none, none] Ω
  unfold v_share_had
  obtain ⟨r, h1, h2⟩ := g2_at ht ho hc
  have h3 : atI (r.map S.int) 0 = some (.int (g2 t o 0)) := h2
  walk_at "os"
  walk_at "os"
  refine g_forP (fun i Γ' Ω' => Ω' = Ω ∧ ∃ x y z : Option S, Γ' = [some (eT t), some (.int (o : Nat)), some (.lst (cs.map eC)), some (.int (shareF t o (cs.take i))), x, y, z]) (fun _ _ _ _ _ => seqG_lst) ⟨rfl, _, _, _, rfl⟩ ?_ ?_
  · rintro i s Γ' Ω' hi ⟨rfl, x, y, z, rfl⟩
    obtain ⟨q, hq, rfl⟩ := map_out hi
    obtain ⟨q1, q2, q3⟩ := hcs q (List.mem_of_getElem? hq)
    obtain ⟨r1, a1, a2⟩ := g2_at ht q1 q3
    obtain ⟨r2, b1, b2⟩ := g2_at ht q2 q3
    walk_at "os"
    have e : shareF t o (cs.take (i + 1)) = shareF t o (cs.take i) - (g2 t q.1 q.2.2 - g2 t q.2.1 q.2.2) := by
      unfold shareF
      rw [List.take_succ, hq, List.foldl_append]
      rfl
    rw [e]
    exact ⟨rfl, _, _, _, rfl⟩
  · rintro Γ' Ω' ⟨rfl, x, y, z, rfl⟩
    walk_at "os"
    rw [List.length_map, List.take_length]
    exact ⟨_, _, .refl, k⟩
theorem run_due (ss : List S) (Ω : Om) (P : WP) (h : W_due ss Ω P) : v_due { nx := fun _ Ω' => seen P .non Ω', rt := seen P } (startG N_due ss) Ω := by
  obtain ⟨t, c, o, cs, rfl, ht, hc, ho, hcs, k⟩ := h
  show v_due _ [some (eT t), some (.int (o : Nat)), some (.lst (cs.map eC)), none, none, none, none] Ω
  unfold v_due
  obtain ⟨r, h1, h2⟩ := g2_at ht ho hc
  have h3 : atI (r.map S.int) 0 = some (.int (g2 t o 0)) := h2
  walk_at "os"
  walk_at "os"
  refine g_forP (fun i Γ' Ω' => Ω' = Ω ∧ ∃ x y z : Option S, Γ' = [some (eT t), some (.int (o : Nat)), some (.lst (cs.map eC)), some (.int (shareF t o (cs.take i))), x, y, z]) (fun _ _ _ _ _ => seqG_lst) ⟨rfl, _, _, _, rfl⟩ ?_ ?_
  · rintro i s Γ' Ω' hi ⟨rfl, x, y, z, rfl⟩
    obtain ⟨q, hq, rfl⟩ := map_out hi
    obtain ⟨q1, q2, q3⟩ := hcs q (List.mem_of_getElem? hq)
    obtain ⟨r1, a1, a2⟩ := g2_at ht q1 q3
    obtain ⟨r2, b1, b2⟩ := g2_at ht q2 q3
    walk_at "os"
    have e : shareF t o (cs.take (i + 1)) = shareF t o (cs.take i) + g2 t q.2.1 q.2.2 - g2 t q.1 q.2.2 := by
      unfold shareF
      rw [List.take_succ, hq, List.foldl_append]
      show _ - (g2 t q.1 q.2.2 - g2 t q.2.1 q.2.2) = _
      omega
    rw [e]
    exact ⟨rfl, _, _, _, rfl⟩
  · rintro Γ' Ω' ⟨rfl, x, y, z, rfl⟩
    walk_at "os"
    rw [List.length_map, List.take_length]
    exact ⟨_, _, .refl, k⟩
theorem run_aim (ss : List S) (Ω : Om) (P : WP) (h : W_aim ss Ω P) : v_aim { nx := fun _ Ω' => seen P .non Ω', rt := seen P } (startG N_aim ss) Ω := by
  obtain ⟨f, h, a, u, rfl, h1, h2, h3, h4, h5, h6, h7, h8, k⟩ := h
  show v_aim _ [some (.int f), some (.int h), some (.int a), some (.int u)] Ω
  unfold v_aim
  walk_at "os"
  refine g_ite (fun h0 => ?_) (fun h0 => ?_)
  · rw [if_pos h0] at k
    walk_at "os"
    exact ⟨_, _, .refl, k⟩
  · rw [if_neg h0] at k
    walk_at "os"
    exact ⟨_, _, .refl, k⟩
theorem run_whole (ss : List S) (Ω : Om) (P : WP) (h : W_whole ss Ω P) : v_whole { nx := fun _ Ω' => seen P .non Ω', rt := seen P } (startG N_whole ss) Ω := by
  obtain ⟨a, b, rfl, k⟩ := h
  show v_whole _ [some (.int a), some (.int b)] Ω
  unfold v_whole
  walk_at "os"
  exact ⟨_, _, .refl, k⟩
end Om
namespace Om
open PySem L2
open PyProof.Rows (b2i)
def gd (r : List Int) (w : Nat) : Int := (r[w]?).getD 0
/-- a row of so many shares, from 0 to 1000, none greater than the one ahead -/
structure RowOk (c : Nat) (r : List Int) : Prop where
  len : r.length = c
  rng : ∀ w, 0 ≤ gd r w ∧ gd r w ≤ 1000
  along : ∀ w, gd r (w + 1) ≤ gd r w
structure TabOk (c : Nat) (t : List (List Int)) : Prop where
  rows : ∀ r ∈ t, RowOk c r
  down : ∀ i r r', t[i]? = some r → t[i + 1]? = some r' → ∀ w, gd r w ≤ gd r' w
def W_table : WF := fun ss Ω P => ∃ (b : Addr) (many : Nat) (n : Int), ss = [.adr b, .int (many : Nat)] ∧ Box b n Ω ∧ 0 ≤ n ∧ n < 1000000000 ∧ many ≤ 2000 ∧
  ∀ (t : List (List Int)) (c : Nat) (Ω' : Om), 1 ≤ c → c ≤ 11 → t.length = many + 1 → TabOk c t → Box b (n + 2 + 11 * many) Ω' → Chg [b] Ω Ω' → P (eT t) Ω'
def v_table : WS :=
  (wSeq (wPar 2 3 (wCons (wOp oAdd (wC (.int 1)) (wCall W_take (wCons (wVar 0) (wCons (wC (.int 11)) wNil)))) (wCons (wOp oIx (wLst (wCons (wC (.int 1)) (wCons (wC (.int 2)) (wCons (wC (.int 7)) (wCons (wC (.int 60)) wNil))))) (wCall W_take (wCons (wVar 0) (wCons (wC (.int 4)) wNil)))) wNil)))
  (wSeq (wSet (wLst (wCons (wLc (wiRng1 (wCons (wVar 2) wNil)) (wgName 7) wYes (wC (.int 0)) [7]) wNil)) 4)
  (wSeq (wFor (wiRng1 (wCons (wVar 1) wNil)) (wgName 5) (wSeq (wSet (wLc (wiRng1 (wCons (wOp oAdd (wVar 2) (wC (.int 1))) wNil)) (wgName 7) wYes (wC (.int 0)) [7]) 6)
  (wSeq (wFor (wiDown (wVar 2)) (wgName 7) (wAsg (wCB oMin (wCons (wC (.int 1000)) (wCons (wCB oMax (wCons (wOp oIx (wVar 6) (wOp oAdd (wVar 7) (wC (.int 1)))) (wCons (wOp oAdd (wOp oIx (wOp oIx (wVar 4) (wC (.int (-1)))) (wVar 7)) (wCall W_take (wCons (wVar 0) (wCons (wOp oAdd (wC (.int 1)) (wVar 3)) wNil)))) wNil))) wNil))) (wgSub (wVar 6) (wVar 7))))
  (wAppend (wVar 4) (wSl (wVar 6) wNoP (wPart (wVar 2)))))))
  (wRet (wVar 4)))))
abbrev N_table : List Str := ["box", "many", "columns", "grown", "table", "turn", "row", "k"]
theorem gd_at {r : List Int} {w : Nat} (h : w < r.length) : atI (r.map S.int) (w : Int) = some (.int (gd r w)) := by
  obtain ⟨x, hx⟩ := at_some h
  have e : gd r w = x := by unfold gd; rw [hx]; rfl
  rw [e]
  exact atI_map S.int (atI_n hx)
theorem gd_set {r : List Int} {j w : Nat} {x : Int} (h : j < r.length) : gd (r.set j x) w = if w = j then x else gd r w := by
  unfold gd
  by_cases e : w = j
  · subst e
    rw [List.getElem?_set_self h, if_pos rfl]
    rfl
  · rw [List.getElem?_set_ne (fun q => e q.symm), if_neg e]
theorem gd_take {r : List Int} {c w : Nat} : gd (r.take c) w = if w < c then gd r w else 0 := by
  unfold gd
  rw [List.getElem?_take]
  split <;> rfl
theorem gd_rep {c w : Nat} : gd (List.replicate c 0) w = 0 := by
  unfold gd
  rw [List.getElem?_replicate]
  split <;> rfl
theorem gd_out {r : List Int} {w : Nat} (h : r.length ≤ w) : gd r w = 0 := by
  unfold gd
  rw [List.getElem?_eq_none h]
  rfl
theorem set_map {l : List Int} {j : Nat} {x : Int} : (l.map S.int).set j (.int x) = (l.set j x).map S.int := by rw [List.map_set]
theorem ups_const {lo : Int} {c : Nat} : (ups lo c).map (fun _ => S.int 0) = (List.replicate c (0 : Int)).map S.int := by
  rw [List.map_replicate]
  unfold ups
  rw [List.map_map]
  apply List.ext_getElem?
  intro i
  rw [List.getElem?_map, List.getElem?_replicate]
  by_cases h : i < c
  · rw [List.getElem?_range h, if_pos h]; rfl
  · rw [List.getElem?_eq_none (by rw [List.length_range]; omega), if_neg h]; rfl
theorem run_table (ss : List S) (Ω : Om) (P : WP) (h : W_table ss Ω P) : v_table { nx := fun _ Ω' => seen P .non Ω', rt := seen P } (startG N_table ss) Ω := by
  obtain ⟨b, many, n, rfl, hB, h0, h1, h2, k⟩ := h
  show v_table _ [some (.adr b), some (.int (many : Nat)), none, none, none, none, none, none] Ω
  unfold v_table
  walk_at "os"
  refine g_take hB (by omega) (by decide) (by decide) fun q Ω1 q1 q2 B1 C1 => ?_
  walk_at "os"
  refine g_data ?_
  walk_at "os"
  refine g_take B1 (by omega) (by decide) (by decide) fun g Ω2 g1 g2 B2 C2 => ?_
  refine g_pick [1, 2, 7, 60] (fun x => 1 ≤ x ∧ x ≤ 60) rfl g1 (by simpa using g2) (by decide) fun g ⟨p1, p2⟩ => ?_
  walk_at "os"
  obtain ⟨c, hc⟩ : ∃ c : Nat, 1 + q = (c : Int) := ⟨(1 + q).toNat, by omega⟩
  rw [hc]
  walk_at "os"
  refine g_map (fun _ => .int 0) trivial (Nat.lt_of_le_of_lt (by rw [ups_len]; omega) small_lt) (fun i s _ Q hQ => by walk_at "os"; exact hQ) ?_
  refine g_data ?_
  walk_at "os"
  refine g_cell fun p hp => ?_
  walk_at "os"
  rw [ups_const]
  have C3 : Chw [b] Ω (put Ω2 p (.lst [.lst ((List.replicate (c : Int).toNat 0).map S.int)])) := ((C1.w.chg C2)).put (.inr (by
    have e := (C1.trans C2).w.none_ hp (fun a ha => by rw [List.mem_singleton.mp ha]; exact B2.ne)
    exact e))
  have hbp : b ≠ p := fun e => B2.ne (by rw [e]; exact hp)
  have hc1 : c ≤ 11 := by omega
  have ec : (c : Int).toNat = c := by omega
  rw [ec] at C3 ⊢
  have hpn : Ω p = none := (C1.trans C2).w.none_ hp (fun a ha => by rw [List.mem_singleton.mp ha]; exact B2.ne)
  refine g_forP (fun i Γ' Ω' => ∃ (t : List (List Int)) (x y z : Option S), Γ' = [some (.adr b), some (.int (many : Nat)), some (.int (c : Nat)), some (.int g), some (.adr p), x, y, z] ∧ Ω' p = some (.lst (t.map eI)) ∧ t.length = i + 1 ∧ TabOk c t ∧ Box b (n + 2 + 11 * i) Ω' ∧ Chw [b] Ω Ω')
    (fun _ _ _ _ _ => trivial) ⟨[List.replicate c 0], _, _, _, rfl, put_same, rfl, ⟨fun r hr => ?_, fun i r r' e1 e2 => ?_⟩, ?_, C3⟩ ?_ ?_
  · rw [List.mem_singleton.mp hr]
    exact ⟨List.length_replicate, fun w => by rw [gd_rep]; omega, fun w => by rw [gd_rep, gd_rep]; omega⟩
  · simp at e2
  · exact (B2.put hbp).mono (by omega)
  · rintro i s Γ' Ω' hi ⟨t, x, y, z, rfl, ht, hl, hT, hB, hC⟩
    have hlt : i < many := by
      have := (List.getElem?_eq_some_iff.mp hi).1
      rw [ups_len] at this
      omega
    walk_at "os"
    refine g_map (fun _ => .int 0) trivial (Nat.lt_of_le_of_lt (by rw [ups_len]; omega) small_lt) (fun i s _ Q hQ => by walk_at "os"; exact hQ) ?_
    refine g_cell fun r hr => ?_
    walk_at "os"
    rw [ups_const]
    have e3 : ((c : Int) + 1).toNat = c + 1 := by omega
    rw [e3]
    have hpr : p ≠ r := ne_put ht hr
    have hbr : b ≠ r := fun e => hB.ne (by rw [e]; exact hr)
    have hrn : Ω r = none := hC.none_ hr (fun a ha => by rw [List.mem_singleton.mp ha]; exact hB.ne)
    obtain ⟨last, hlast⟩ := at_some (xs := t) (j := i) (by omega)
    have hL : RowOk c last := hT.rows last (List.mem_of_getElem? hlast)
    have hm1 : atI (t.map eI) (-1) = some (eI last) := atI_map eI (atI_m1 (by rw [List.getLast?_eq_getElem?, hl]; exact hlast))
    refine g_forP (fun j Γ' Ω' => ∃ (row : List Int) (z : Option S), Γ' = [some (.adr b), some (.int (many : Nat)), some (.int (c : Nat)), some (.int g), some (.adr p), some s, some (.adr r), z] ∧ Ω' p = some (.lst (t.map eI)) ∧ Ω' r = some (.lst (row.map S.int)) ∧ row.length = c + 1 ∧ j ≤ c ∧
        (∀ w, 0 ≤ gd row w ∧ gd row w ≤ 1000) ∧ (∀ w, c - j ≤ w → w < c → gd row (w + 1) ≤ gd row w ∧ gd last w ≤ gd row w) ∧ Box b (n + 2 + 11 * i + j) Ω' ∧ Chw [b] Ω Ω')
      (fun _ _ _ _ _ => trivial) ⟨List.replicate (c + 1) 0, _, rfl, by rw [put_ne hpr]; exact ht, put_same, List.length_replicate, Nat.zero_le _, fun w => by rw [gd_rep]; omega, fun w h1 h2 => by omega, (hB.put hbr).mono (by omega), hC.put (.inr hrn)⟩ ?_ ?_
    · rintro j s2 Γ2 Ω2 hj ⟨row, z2, rfl, t1, t2, t3, t4, t5, t6, t7, t8⟩
      have hjc : j < c := by
        have := (List.getElem?_eq_some_iff.mp hj).1
        rw [downs_len] at this
        omega
      have es : s2 = .int ((c - 1 - j : Nat) : Int) := by
        rw [downs_at (by omega)] at hj
        rw [← Option.some.inj hj]
        congr 1
        omega
      subst es
      have a1 : atI (row.map S.int) (((c - 1 - j : Nat) : Int) + 1) = some (.int (gd row (c - 1 - j + 1))) := gd_at (w := c - 1 - j + 1) (by omega)
      have a2 : atI (last.map S.int) ((c - 1 - j : Nat) : Int) = some (.int (gd last (c - 1 - j))) := gd_at (by rw [hL.len]; omega)
      walk_at "os"
      refine g_take t7 (by omega) (by omega) (by omega) fun v Ω3 v1 v2 B3 C4 => ?_
      have hrb : r ∉ [b] := fun e => hbr (List.mem_singleton.mp e).symm
      have hpb : p ∉ [b] := fun e => hbp (List.mem_singleton.mp e).symm
      have t1' := C4.at_ hpb t1
      have t2' := C4.at_ hrb t2
      have hj2 : ixN (row.map S.int).length ((c - 1 - j : Nat) : Int) = some (c - 1 - j) := Evl.ixN_nat (by rw [List.length_map]; omega)
      walk_at "os"
      rw [set_map]
      have k1 := t5 (c - 1 - j + 1)
      have k2 := hL.rng (c - 1 - j)
      refine ⟨_, _, rfl, by rw [put_ne hpr]; exact t1', put_same, by rw [List.length_set]; exact t3, by omega, fun w => ?_, fun w w1 w2 => ?_, (B3.put hbr).mono (by omega), (t8.chg C4).put (.inr hrn)⟩
      · rw [gd_set (by omega)]
        split
        · repeat' split
          all_goals omega
        · exact t5 w
      · rw [gd_set (by omega), gd_set (by omega)]
        by_cases e : w = c - 1 - j
        · subst e
          rw [if_neg (by omega), if_pos rfl]
          constructor
          · repeat' split
            all_goals omega
          · repeat' split
            all_goals omega
        · rw [if_neg e]
          have e2 : ¬ w + 1 = c - 1 - j := by omega
          rw [if_neg e2]
          exact t6 w (by omega) w2
    · rintro Γ2 Ω2 ⟨row, z2, rfl, t1, t2, t3, t4, t5, t6, t7, t8⟩
      rw [downs_len, ec] at t6 t7
      walk_at "os"
      refine g_data ?_
      have hz : (t.map eI).length < sizeLine := Nat.lt_of_le_of_lt (by rw [List.length_map]; omega) small_lt
      refine g_app2 t1 hz ?_
      have e5 : cutL (row.map S.int) none (some (c : Int)) = (row.take c).map S.int := by
        rw [cut_map]
        unfold cutL
        have e6 : HT.sIx row.length 0 none = 0 := rfl
        have e7 : HT.sIx row.length row.length (some (c : Int)) = c := by
          rw [HT.sIx_nat]
          omega
        rw [e6, e7, List.drop_zero, Nat.sub_zero]
      rw [e5]
      refine ⟨t ++ [row.take c], _, _, _, rfl, by rw [List.map_append]; exact put_same, by rw [List.length_append, hl]; rfl, ⟨fun r' hr' => ?_, fun i' r1 r2 e1 e2 => ?_⟩, (t7.put hbp).mono (by omega), t8.put (.inr hpn)⟩
      · rcases List.mem_append.mp hr' with hr' | hr'
        · exact hT.rows r' hr'
        · rw [List.mem_singleton.mp hr']
          refine ⟨by rw [List.length_take]; omega, fun w => ?_, fun w => ?_⟩
          · rw [gd_take]
            split
            · exact t5 w
            · omega
          · rw [gd_take, gd_take]
            by_cases w1 : w + 1 < c
            · rw [if_pos w1, if_pos (by omega)]
              exact (t6 w (by omega) (by omega)).1
            · rw [if_neg w1]
              split
              · exact (t5 w).1
              · omega
      · by_cases e8 : i' + 1 < t.length
        · rw [List.getElem?_append_left (by omega)] at e1
          rw [List.getElem?_append_left e8] at e2
          exact hT.down i' r1 r2 e1 e2
        · have e9 : i' + 1 < (t ++ [row.take c]).length := (List.getElem?_eq_some_iff.mp e2).1
          rw [List.length_append, hl] at e9
          have e10 : i' = i := by
            simp only [List.length_cons, List.length_nil] at e9
            omega
          subst e10
          rw [List.getElem?_append_left (by omega), hlast] at e1
          rw [List.getElem?_append_right (by omega), hl] at e2
          simp at e2
          cases e1
          subst e2
          intro w
          rw [gd_take]
          by_cases w1 : w < c
          · rw [if_pos w1]
            exact (t6 w (by omega) w1).2
          · rw [if_neg w1, gd_out (by rw [hL.len]; omega)]
            omega
  · rintro Γ' Ω' ⟨t, x, y, z, rfl, ht, hl, hT, hB, hC⟩
    rw [ups_len] at hl hB
    walk_at "os"
    refine ⟨_, _, .backF ht hpn, k t c _ (by omega) hc1 (by omega) hT ((hB.mono (by omega)).cut ?_) hC.cut⟩
    obtain ⟨x, y, z, hb, _⟩ := ‹Box b n Ω›
    rw [hb]
    exact fun e => nomatch e
end Om
namespace Om
open PySem L2
open PyProof.Rows (b2i)
def W_cuts : WF := fun ss Ω P => ∃ (b : Addr) (t : List (List Int)) (c many : Nat) (n : Int), ss = [.adr b, eT t, .int (many : Nat)] ∧ Box b n Ω ∧ 0 ≤ n ∧ n < 1000000000 ∧ many ≤ 2000 ∧ Wd t c ∧ 1 ≤ c ∧ c ≤ 1000 ∧ 1 ≤ t.length ∧ t.length ≤ 100000 ∧
  ∀ (cs : List Cut) (Ω' : Om), (∀ x ∈ cs, cutOk t c x ∧ x.2.1 ≤ x.1) → cs.length = many → Box b (n + 4 * many) Ω' → Chg [b] Ω Ω' → P (.lst (cs.map eC)) Ω'
/-- the aim: a program's number -/
def aimF (f h u a : Int) : Int := if a ≤ h then f * a / h + 1 else f + u * (a - h) / 1000 + 1
def W_aims_right : WF := fun ss Ω P => ∃ (t : List (List Int)) (c : Nat) (f h u : Int), ss = [eT t, .int f, .int h, .int u] ∧ TabOk c t ∧ c ≤ 1000 ∧ t.length ≤ 100000 ∧ 0 ≤ f ∧ f ≤ 9999 ∧ 0 ≤ u ∧ u ≤ 9999 ∧ 1 ≤ h ∧ h ≤ 1000 ∧ P (.bl true) Ω
def v_cuts : WS :=
  (wSeq (wSet (wLst wNil) 3)
  (wSeq (wFor (wiRng1 (wCons (wVar 2) wNil)) (wgName 4) (wSeq (wSet (wCall W_take (wCons (wVar 0) (wCons (wCB oLen (wCons (wVar 1) wNil)) wNil))) 5)
  (wSeq (wSet (wOp oIx (wLst (wCons (wCB oMax (wCons (wC (.int 0)) (wCons (wOp oSubI (wVar 5) (wC (.int 1))) wNil))) (wCons (wCB oMax (wCons (wC (.int 0)) (wCons (wOp oSubI (wVar 5) (wC (.int 2))) wNil))) (wCons (wVar 5) (wCons (wCall W_take (wCons (wVar 0) (wCons (wOp oAdd (wVar 5) (wC (.int 1))) wNil))) wNil))))) (wCall W_take (wCons (wVar 0) (wCons (wC (.int 4)) wNil)))) 6)
  (wAppend (wVar 3) (wTup (wCons (wVar 5) (wCons (wVar 6) (wCons (wCall W_take (wCons (wVar 0) (wCons (wCB oLen (wCons (wOp oIx (wVar 1) (wC (.int 0))) wNil)) wNil))) wNil))))))))
  (wRet (wVar 3))))
abbrev N_cuts : List Str := ["box", "table", "many", "cuts", "k", "before", "after"]
theorem run_cuts (ss : List S) (Ω : Om) (P : WP) (h : W_cuts ss Ω P) : v_cuts { nx := fun _ Ω' => seen P .non Ω', rt := seen P } (startG N_cuts ss) Ω := by
  obtain ⟨b, t, c, many, n, rfl, hB, h0, h1, h2, hW, hc1, hc2, hl1, hl2, k⟩ := h
  show v_cuts _ [some (.adr b), some (eT t), some (.int (many : Nat)), none, none, none, none] Ω
  unfold v_cuts
  walk_at "os"
  refine g_cell fun p hp => ?_
  walk_at "os"
  have hbp : b ≠ p := fun e => hB.ne (by rw [e]; exact hp)
  refine g_forP (fun i Γ' Ω' => ∃ (cs : List Cut) (x y z : Option S), Γ' = [some (.adr b), some (eT t), some (.int (many : Nat)), some (.adr p), x, y, z] ∧ Ω' p = some (.lst (cs.map eC)) ∧ cs.length = i ∧ (∀ x ∈ cs, cutOk t c x ∧ x.2.1 ≤ x.1) ∧ Box b (n + 4 * i) Ω' ∧ Chw [b] Ω Ω')
    (fun _ _ _ _ _ => trivial) ⟨[], _, _, _, rfl, put_same, rfl, (by intro x hx; cases hx), (hB.put hbp).mono (by omega), (Chw.refl).put (.inr hp)⟩ ?_ ?_
  · rintro i s Γ' Ω' hi ⟨cs, x, y, z, rfl, hcs, hlc, hok, hB', hC⟩
    have hlt : i < many := by
      have := (List.getElem?_eq_some_iff.mp hi).1
      rw [ups_len] at this
      omega
    walk_at "os"
    rw [List.length_map]
    refine g_take hB' (by omega) (by omega) (by omega) fun v Ω1 v1 v2 B1 C1 => ?_
    walk_at "os"
    refine g_take B1 (by omega) (by omega) (by omega) fun w Ω2 w1 w2 B2 C2 => ?_
    walk_at "os"
    refine g_data ?_
    walk_at "os"
    refine g_take B2 (by omega) (by omega) (by omega) fun u Ω3 u1 u2 B3 C3 => ?_
    refine g_pick [if v - 1 > 0 then v - 1 else 0, if v - 2 > 0 then v - 2 else 0, v, w] (fun x => 0 ≤ x ∧ x ≤ v) rfl u1 (by simpa using u2) (fun x hx => ?_) fun a ⟨p1, p2⟩ => ?_
    · simp only [List.mem_cons, List.not_mem_nil, or_false] at hx
      rcases hx with rfl | rfl | rfl | rfl
      · split <;> omega
      · split <;> omega
      · omega
      · omega
    have hpb : p ∉ [b] := fun e => hbp (List.mem_singleton.mp e).symm
    have q3 := C3.at_ hpb (C2.at_ hpb (C1.at_ hpb hcs))
    obtain ⟨r0, hr0⟩ := at_some (xs := t) (j := 0) (by omega)
    have hr1 : atI (t.map eI) 0 = some (eI r0) := atI_map eI (atI_n (j := 0) hr0)
    have hr2 := hW r0 (List.mem_of_getElem? hr0)
    walk_at "os"
    rw [List.length_map, hr2]
    refine g_take B3 (by omega) (by omega) (by omega) fun y Ω4 y1 y2 B4 C4 => ?_
    have q4 := C4.at_ hpb q3
    walk_at "os"
    refine ⟨cs ++ [(v.toNat, a.toNat, y.toNat)], _, _, _, rfl, ?_, by rw [List.length_append, hlc]; rfl, fun x hx => ?_, (B4.put hbp).mono (by omega), ((((hC.chg C1).chg C2).chg C3).chg C4).put (.inr hp)⟩
    · rw [List.map_append]
      have e1 : ((v.toNat : Nat) : Int) = v := by omega
      have e2 : ((a.toNat : Nat) : Int) = a := by omega
      have e3 : ((y.toNat : Nat) : Int) = y := by omega
      show put Ω4 p (.lst (cs.map eC ++ [S.tup [.int v, .int a, .int y]])) p = some (.lst (cs.map eC ++ [S.tup [.int ((v.toNat : Nat) : Int), .int ((a.toNat : Nat) : Int), .int ((y.toNat : Nat) : Int)]]))
      rw [e1, e2, e3]
      exact put_same
    · rcases List.mem_append.mp hx with hx | hx
      · exact hok x hx
      · rw [List.mem_singleton.mp hx]
        refine ⟨⟨?_, ?_, ?_⟩, ?_⟩ <;> simp only <;> omega
  · rintro Γ' Ω' ⟨cs, x, y, z, rfl, hcs, hlc, hok, hB', hC⟩
    rw [ups_len] at hlc hB'
    walk_at "os"
    exact ⟨_, _, .backF hcs hp, k cs _ hok (by omega) ((hB'.mono (by omega)).cut hB.ne) hC.cut⟩
theorem aim_le {f h u a b : Int} (h1 : 0 ≤ f) (h2 : 1 ≤ h) (h3 : 0 ≤ u) (ha : 0 ≤ a) (hab : a ≤ b) : aimF f h u a ≤ aimF f h u b := by
  unfold aimF
  by_cases e1 : b ≤ h
  · rw [if_pos (by omega), if_pos e1]
    have := Int.ediv_le_ediv (c := h) (by omega) (Int.mul_le_mul_of_nonneg_left hab h1)
    omega
  · rw [if_neg e1]
    have p0 : 0 ≤ u * (b - h) / 1000 := Int.ediv_nonneg (Int.mul_nonneg h3 (by omega)) (by decide)
    by_cases e2 : a ≤ h
    · rw [if_pos e2]
      have q1 : f * a / h ≤ f * h / h := Int.ediv_le_ediv (by omega) (Int.mul_le_mul_of_nonneg_left e2 h1)
      rw [Int.mul_ediv_cancel _ (by omega)] at q1
      omega
    · rw [if_neg e2]
      have q1 : u * (a - h) / 1000 ≤ u * (b - h) / 1000 := Int.ediv_le_ediv (by decide) (Int.mul_le_mul_of_nonneg_left (by omega) h3)
      omega
end Om
namespace Om
open PySem L2
open PyProof.Rows (b2i)

def v_aims_right : WS :=
  (wSeq (wSet (wLst wNil) 4)
  (wSeq (wFor (wiSeq (wVar 0)) (wgName 5) (wSeq (wSet (wLc (wiSeq (wVar 5)) (wgName 7) wYes (wCall W_aim (wCons (wVar 1) (wCons (wVar 2) (wCons (wVar 7) (wCons (wVar 3) wNil))))) [7]) 6)
  (wSeq (wIfS (wTest (wCB oAny (wCons (wLc (wiZip (wCons (wVar 6) (wCons (wSl (wVar 6) (wPart (wC (.int 1))) wNoP) wNil))) (wgTup 2 (wgCons (wgName 8) (wgCons (wgName 9) wgNil))) wYes (wOp oLt (wVar 8) (wVar 9)) [8, 9]) wNil))) (wRet (wC (.bl false))) wNext)
  (wSeq (wIfS (wTest (wCB oAny (wCons (wLc (wiZip (wCons (wVar 6) (wCons (wVar 4) wNil))) (wgTup 2 (wgCons (wgName 8) (wgCons (wgName 9) wgNil))) wYes (wOp oLt (wVar 8) (wVar 9)) [8, 9]) wNil))) (wRet (wC (.bl false))) wNext)
  (wSet (wVar 6) 4)))))
  (wRet (wC (.bl true)))))
abbrev N_aims_right : List Str := ["table", "first", "had", "usual", "ahead", "row", "aims", "share", "one", "other"]
theorem at_gd {r : List Int} {i : Nat} {x : Int} (h : r[i]? = some x) : gd r i = x := by unfold gd; rw [h]; rfl
theorem gd_map {r : List Int} {g : Int → Int} {i : Nat} (h : i < r.length) : gd (r.map g) i = g (gd r i) := by
  obtain ⟨x, hx⟩ := at_some h
  rw [at_gd hx]
  exact at_gd (by rw [List.getElem?_map, hx]; rfl)
theorem ints_some {r : List Int} {i : Nat} {s : S} (h : (r.map S.int)[i]? = some s) : s = .int (gd r i) ∧ i < r.length := by
  obtain ⟨x, hx, rfl⟩ := map_out h
  exact ⟨by rw [at_gd hx], (List.getElem?_eq_some_iff.mp hx).1⟩
def fI (g : Int → Int) : S → S
  | .int a => .int (g a)
  | s => s
theorem fI_map {g : Int → Int} {r : List Int} : (r.map S.int).map (fI g) = (r.map g).map S.int := by
  rw [List.map_map, List.map_map]
  rfl
theorem gd_tail {r : List Int} {i : Nat} : gd (cutL r (some 1) none) i = gd r (i + 1) := by
  unfold cutL gd
  have e1 : HT.sIx r.length 0 (some 1) = min 1 r.length := HT.sIx_nat r.length 0 1
  have e2 : HT.sIx r.length r.length none = r.length := rfl
  rw [e1, e2, List.getElem?_take, List.getElem?_drop]
  by_cases h : 1 ≤ r.length
  · have e3 : min 1 r.length = 1 := by omega
    rw [e3]
    by_cases h2 : i < r.length - 1
    · rw [if_pos h2, Nat.add_comm]
    · rw [if_neg h2, List.getElem?_eq_none (by omega)]
  · have e3 : r.length = 0 := by omega
    rw [if_neg (by omega), List.getElem?_eq_none (by omega)]
theorem run_aims_right (ss : List S) (Ω : Om) (P : WP) (h : W_aims_right ss Ω P) : v_aims_right { nx := fun _ Ω' => seen P .non Ω', rt := seen P } (startG N_aims_right ss) Ω := by
  obtain ⟨t, c, f, h, u, rfl, hT, hc, hl, h1, h2, h3, h4, h5, h6, k⟩ := h
  show v_aims_right _ [some (eT t), some (.int f), some (.int h), some (.int u), none, none, none, none, none, none] Ω
  unfold v_aims_right
  walk_at "os"
  refine g_data ?_
  walk_at "os"
  refine g_forP (fun i Γ' Ω' => Ω' = Ω ∧ ∃ (prev : List Int) (a b c d e : Option S), Γ' = [some (eT t), some (.int f), some (.int h), some (.int u), some (.lst (prev.map S.int)), a, b, c, d, e] ∧
      (∀ i' r, i = i' + 1 → t[i']? = some r → prev = r.map (aimF f h u)) ∧ (i = 0 → prev = [])) (fun _ _ _ _ _ => seqG_lst) ⟨rfl, [], _, _, _, _, _, rfl, fun i' _ e => by omega, fun _ => rfl⟩ ?_ ?_
  · rintro i s Γ' Ω' hi ⟨rfl, prev, a, b, c', d, e, rfl, hp, hp0⟩
    obtain ⟨r, hr, rfl⟩ := map_out hi
    have hR := hT.rows r (List.mem_of_getElem? hr)
    walk_at "os"
    have hz : (r.map S.int).length < sizeLine := Nat.lt_of_le_of_lt (by rw [List.length_map, hR.len]; omega) small_lt
    refine g_map (fI (aimF f h u)) seqG_lst hz (fun j s hj Q hQ => ?_) ?_
    · obtain ⟨rfl, hj⟩ := ints_some hj
      walk_at "os"
      have := hR.rng j
      exact ⟨f, h, gd r j, u, rfl, h1, h2, h3, h4, h5, h6, by omega, by omega, hQ⟩
    refine g_data ?_
    rw [fI_map]
    walk_at "os"
    refine g_data ?_
    rw [cut_map]
    walk_at "os"
    refine g_mapB false ⟨seqG_lst, seqG_lst⟩ (Nat.lt_of_le_of_lt (by rw [zipL_len, List.length_map, List.length_map, hR.len]; omega) small_lt) (fun j s hj Q hQ => ?_) ?_
    · obtain ⟨x, y, e1, e2, rfl⟩ := zipL_out hj
      obtain ⟨rfl, l1⟩ := ints_some e1
      obtain ⟨rfl, l2⟩ := ints_some e2
      have l3 := cut_le (r.map (aimF f h u)) (some 1) none
      have l4 : j + 1 < r.length := by
        unfold cutL at l2
        have e1 : HT.sIx (r.map (aimF f h u)).length 0 (some 1) = min 1 (r.map (aimF f h u)).length := HT.sIx_nat _ 0 1
        rw [e1, List.length_take, List.length_drop] at l2
        rw [List.length_map] at l1 l2
        omega
      rw [gd_tail]
      walk_at "os"
      rw [gd_map (by omega), gd_map (by omega), decide_eq_false]
      · exact hQ
      · have := aim_le (f := f) (h := h) (u := u) h1 h5 h3 (hR.rng (j + 1)).1 (hR.along j)
        omega
    refine g_data ?_
    walk_at "os"
    refine g_any rfl ?_
    rw [any_rep]
    walk_at "os"
    refine g_mapB false ⟨seqG_lst, seqG_lst⟩ (Nat.lt_of_le_of_lt (by rw [zipL_len, List.length_map, List.length_map, hR.len]; omega) small_lt) (fun j s hj Q hQ => ?_) ?_
    · obtain ⟨x, y, e1, e2, rfl⟩ := zipL_out hj
      obtain ⟨rfl, l1⟩ := ints_some e1
      obtain ⟨rfl, l2⟩ := ints_some e2
      walk_at "os"
      have q : ¬ gd (r.map (aimF f h u)) j < gd prev j := by
        cases i with
        | zero => rw [hp0 rfl] at l2; simp at l2
        | succ i' =>
          obtain ⟨r', hr'⟩ := at_some (xs := t) (j := i') (by have := (List.getElem?_eq_some_iff.mp hr).1; omega)
          have hR' := hT.rows r' (List.mem_of_getElem? hr')
          have e3 := hp i' r' rfl hr'
          subst e3
          rw [List.length_map] at l1 l2
          rw [gd_map l1, gd_map l2]
          have := aim_le (f := f) (h := h) (u := u) h1 h5 h3 (hR'.rng j).1 (hT.down i' r' r hr' hr j)
          omega
      rw [decide_eq_false q]
      exact hQ
    refine g_data ?_
    walk_at "os"
    refine g_any rfl ?_
    rw [any_rep]
    walk_at "os"
    exact ⟨rfl, _, _, _, _, _, _, rfl, fun i' r' e1 e2 => by
      have : i' = i := by omega
      subst this
      rw [hr] at e2
      cases e2
      rfl, fun e => by omega⟩
  · rintro Γ' Ω' ⟨rfl, prev, a, b, c', d, e, rfl, hp, hp0⟩
    walk_at "os"
    exact ⟨_, _, .refl, k⟩
end Om
namespace Om
open PySem L2
open PyProof.Rows (b2i)

theorem g2_gd {t : List (List Int)} {o w : Nat} {r : List Int} (h : t[o]? = some r) : g2 t o w = gd r w := by unfold g2 gd; rw [h]; rfl
theorem g2_up {c : Nat} {t : List (List Int)} (hT : TabOk c t) {a b : Nat} (hab : a ≤ b) (hb : b < t.length) (w : Nat) : g2 t a w ≤ g2 t b w := by
  induction b with
  | zero =>
    have : a = 0 := by omega
    subst this
    exact Int.le_refl _
  | succ b ih =>
    by_cases e : a = b + 1
    · subst e; exact Int.le_refl _
    · have q := ih (by omega) (by omega)
      obtain ⟨r, hr⟩ := at_some (xs := t) (j := b) (by omega)
      obtain ⟨r', hr'⟩ := at_some (xs := t) (j := b + 1) hb
      have q2 := hT.down b r r' hr hr' w
      rw [g2_gd hr'] 
      rw [g2_gd hr] at q
      omega
theorem share_sum {t : List (List Int)} {cs : List Cut} : ∀ s : Int, cs.foldl (fun s c => s - (g2 t c.1 c.2.2 - g2 t c.2.1 c.2.2)) s = s - (cs.map fun c => g2 t c.1 c.2.2 - g2 t c.2.1 c.2.2).sum := by
  induction cs with
  | nil => intro s; simp
  | cons x r ih =>
    intro s
    rw [List.foldl_cons, ih, List.map_cons, List.sum_cons]
    omega
theorem shareF_eq {t : List (List Int)} {o : Nat} {cs : List Cut} : shareF t o cs = g2 t o 0 - (cs.map fun c => g2 t c.1 c.2.2 - g2 t c.2.1 c.2.2).sum := share_sum _
theorem sum_rev (l : List Int) : l.reverse.sum = l.sum := by
  induction l with
  | nil => rfl
  | cons x r ih =>
    rw [List.reverse_cons, List.sum_append, ih]
    simp only [List.sum_cons, List.sum_nil]
    omega
theorem share_rev {t : List (List Int)} {o : Nat} {cs : List Cut} : shareF t o cs.reverse = shareF t o cs := by
  rw [shareF_eq, shareF_eq, List.map_reverse, sum_rev]
theorem share_more {c : Nat} {t : List (List Int)} {o : Nat} {cs ds : List Cut} (hT : TabOk c t) (h : ∀ x ∈ ds, cutOk t c x ∧ x.2.1 ≤ x.1) : shareF t o (cs ++ ds) ≤ shareF t o cs := by
  rw [shareF_eq, shareF_eq, List.map_append, List.sum_append]
  have q : 0 ≤ (ds.map fun c => g2 t c.1 c.2.2 - g2 t c.2.1 c.2.2).sum := by
    clear o cs
    induction ds with
    | nil => exact Int.le_refl _
    | cons x r ih =>
      rw [List.map_cons, List.sum_cons]
      have q1 := ih fun y hy => h y (List.mem_cons_of_mem _ hy)
      obtain ⟨⟨a1, a2, a3⟩, a4⟩ := h x (List.mem_cons_self ..)
      have q2 := g2_up hT a4 a1 x.2.2
      omega
  omega
theorem share_over {c : Nat} {t : List (List Int)} {o : Nat} {cs : List Cut} (hT : TabOk c t) (h : o + 1 < t.length) : shareF t o cs ≤ shareF t (o + 1) cs := by
  rw [shareF_eq, shareF_eq]
  have := g2_up hT (show o ≤ o + 1 by omega) h 0
  omega
theorem mx0_le {x y : Int} (h : x ≤ y) : mx0 x ≤ mx0 y := by unfold mx0; split <;> split <;> omega
def v_law : WS :=
  (wSeq (wSet (wCall W_box (wCons (wVar 0) wNil)) 1)
  (wSeq (wSet (wOp oMul (wOp oIx (wLst (wCons (wC (.int 60)) (wCons (wC (.int 400)) (wCons (wC (.int 1990)) wNil)))) (wCall W_take (wCons (wVar 1) (wCons (wC (.int 3)) wNil)))) (wCB oInt (wCons (wOp oGt (wCB oLen (wCons (wVar 0) wNil)) (wC (.int 0))) wNil))) 2)
  (wSeq (wPar 3 4 (wCons (wOp oIx (wLst (wCons (wVar 2) (wCons (wCall W_take (wCons (wVar 1) (wCons (wOp oAdd (wVar 2) (wC (.int 1))) wNil))) wNil))) (wCall W_take (wCons (wVar 1) (wCons (wC (.int 2)) wNil)))) (wCons (wCall W_take (wCons (wVar 1) (wCons (wC (.int 10000)) wNil))) wNil)))
  (wSeq (wPar3 5 6 7 (wCons (wCall W_take (wCons (wVar 1) (wCons (wC (.int 10000)) wNil))) (wCons (wOp oAdd (wC (.int 1)) (wCall W_take (wCons (wVar 1) (wCons (wC (.int 1000)) wNil)))) (wCons (wOp oIx (wLst (wCons (wC (.int 0)) (wCons (wC (.int 3)) (wCons (wC (.int 30)) (wCons (wC (.int 200)) wNil))))) (wCall W_take (wCons (wVar 1) (wCons (wC (.int 4)) wNil)))) wNil))))
  (wSeq (wSet (wCall W_table (wCons (wVar 1) (wCons (wVar 3) wNil))) 8)
  (wSeq (wPar 9 7 (wCons (wCall W_take (wCons (wVar 1) (wCons (wCB oLen (wCons (wVar 8) wNil)) wNil))) (wCons (wCall W_cuts (wCons (wVar 1) (wCons (wVar 8) (wCons (wVar 7) wNil)))) wNil)))
  (wSeq (wSet (wOp oAdd (wVar 7) (wCall W_cuts (wCons (wVar 1) (wCons (wVar 8) (wCons (wC (.int 1)) wNil))))) 10)
  (wSeq (wSet (wLst (wCons (wLc (wiSeq (wVar 8)) (wgName 13) wYes (wCB oList (wCons (wVar 13) wNil)) [13]) (wCons (wCB oList (wCons (wVar 7) wNil)) wNil))) 11)
  (wSeq (wSet (wCall W_share_had (wCons (wOp oIx (wVar 11) (wC (.int 0))) (wCons (wVar 9) (wCons (wOp oIx (wVar 11) (wC (.int 1))) wNil)))) 12)
  (wSeq (wIfS (wOr (wNot (wTest (wCall W_whole (wCons (wVar 12) (wCons (wCall W_due (wCons (wVar 8) (wCons (wVar 9) (wCons (wVar 7) wNil)))) wNil))))) (wTest (wOp oNe (wVar 11) (wLst (wCons (wVar 8) (wCons (wVar 7) wNil)))))) (wRet (wC (.bl false))) wNext)
  (wSeq (wIfS (wOr (wTest (wOp oGt (wCall W_share_had (wCons (wVar 8) (wCons (wVar 9) (wCons (wVar 10) wNil)))) (wVar 12))) (wTest (wOp oNe (wCall W_share_had (wCons (wVar 8) (wCons (wVar 9) (wCons (wRev (wVar 7)) wNil)))) (wVar 12)))) (wRet (wC (.bl false))) wNext)
  (wSeq (wIfS (wAnd (wTest (wOp oLt (wOp oAdd (wVar 9) (wC (.int 1))) (wCB oLen (wCons (wVar 8) wNil)))) (wTest (wOp oLt (wCall W_share_had (wCons (wVar 8) (wCons (wOp oAdd (wVar 9) (wC (.int 1))) (wCons (wVar 7) wNil)))) (wVar 12)))) (wRet (wC (.bl false))) wNext)
  (wRet (wCall W_aims_right (wCons (wVar 8) (wCons (wVar 4) (wCons (wVar 6) (wCons (wVar 5) wNil))))))))))))))))))
abbrev N_law : List Str := ["script", "box", "most", "many", "first", "usual", "had", "cuts", "table", "overs", "more", "handed", "found", "row"]
theorem run_law (ss : List S) (Ω : Om) (P : WP) (h : W_law ss Ω P) : v_law { nx := fun _ Ω' => seen P .non Ω', rt := seen P } (startG N_law ss) Ω := by
  obtain ⟨ns, rfl, hl, k⟩ := h
  show v_law _ [some (.wls (ns.map S.int)), none, none, none, none, none, none, none, none, none, none, none, none, none] Ω
  unfold v_law
  walk_at "os"
  refine ⟨ns, rfl, by omega, fun b Ω1 hb B1 C1 => ?_⟩
  walk_at "os"
  refine g_data ?_
  walk_at "os"
  refine g_take B1 (by decide) (by decide) (by decide) fun r0 Ω2 a1 a2 B2 C2 => ?_
  refine g_pick [60, 400, 1990] (fun x => 0 ≤ x ∧ x ≤ 1990) rfl a1 (by simpa using a2) (by decide) fun m0 ⟨p1, p2⟩ => ?_
  walk_at "os"
  generalize hm : m0 * b2i _ = most
  have hm1 : 0 ≤ most ∧ most ≤ 1990 := by
    rw [← hm]
    unfold b2i
    split <;> omega
  clear hm
  walk_at "os"
  refine g_take B2 (by decide) (by omega) (by omega) fun r1 Ω3 a3 a4 B3 C3 => ?_
  walk_at "os"
  refine g_data ?_
  walk_at "os"
  refine g_take B3 (by decide) (by decide) (by decide) fun r2 Ω4 a5 a6 B4 C4 => ?_
  refine g_pick [most, r1] (fun x => 0 ≤ x ∧ x ≤ 1990) rfl a5 (by simpa using a6) (fun x hx => ?_) fun many ⟨p3, p4⟩ => ?_
  · simp only [List.mem_cons, List.not_mem_nil, or_false] at hx
    rcases hx with rfl | rfl <;> omega
  walk_at "os"
  refine g_take B4 (by decide) (by decide) (by decide) fun first Ω5 a7 a8 B5 C5 => ?_
  walk_at "os"
  refine g_take B5 (by decide) (by decide) (by decide) fun usual Ω6 a9 a10 B6 C6 => ?_
  walk_at "os"
  refine g_take B6 (by decide) (by decide) (by decide) fun had Ω7 b1 b2 B7 C7 => ?_
  walk_at "os"
  refine g_data ?_
  walk_at "os"
  refine g_take B7 (by decide) (by decide) (by decide) fun r3 Ω8 b3 b4 B8 C8 => ?_
  refine g_pick [0, 3, 30, 200] (fun x => 0 ≤ x ∧ x ≤ 200) rfl b3 (by simpa using b4) (by decide) fun cuts ⟨p5, p6⟩ => ?_
  walk_at "os"
  obtain ⟨mn, rfl⟩ : ∃ n : Nat, many = (n : Int) := ⟨many.toNat, by omega⟩
  obtain ⟨cn, rfl⟩ : ∃ n : Nat, cuts = (n : Int) := ⟨cuts.toNat, by omega⟩
  refine ⟨b, mn, _, rfl, B8, by decide, by decide, by omega, fun t c Ω9 c1 c2 hlen hT B9 C9 => ?_⟩
  walk_at "os"
  rw [List.length_map]
  refine g_take B9 (by omega) (by omega) (by omega) fun overs Ω10 d1 d2 B10 C10 => ?_
  walk_at "os"
  have hW : Wd t c := fun r hr => (hT.rows r hr).len
  refine ⟨b, t, c, cn, _, rfl, B10, by omega, by omega, by omega, hW, c1, by omega, by omega, by omega, fun cs Ω11 hcs hcl B11 C11 => ?_⟩
  walk_at "os"
  refine ⟨b, t, c, 1, _, rfl, B11, by omega, by omega, by omega, hW, c1, by omega, by omega, by omega, fun ds Ω12 hds hdl B12 C12 => ?_⟩
  refine g_addL rfl rfl (Nat.le_of_lt (Nat.lt_of_le_of_lt (by rw [List.length_map, List.length_map]; omega) small_lt)) ?_
  rw [← List.map_append]
  refine g_data ?_
  walk_at "os"
  refine g_map (fun s => s) seqG_lst (Nat.lt_of_le_of_lt (by rw [List.length_map]; omega) small_lt) (fun j s hj Q hQ => ?_) ?_
  · obtain ⟨r, hr, rfl⟩ := map_out hj
    walk_at "os"
    exact g_data hQ
  rw [List.map_id']
  refine g_data ?_
  walk_at "os"
  refine g_data ?_
  walk_at "os"
  refine g_data ?_
  walk_at "os"
  obtain ⟨on, rfl⟩ : ∃ n : Nat, overs = (n : Int) := ⟨overs.toNat, by omega⟩
  refine ⟨t, c, on, cs, rfl, hW, c1, by omega, fun x hx => (hcs x hx).1, ?_⟩
  walk_at "os"
  refine ⟨t, c, on, cs, rfl, hW, c1, by omega, fun x hx => (hcs x hx).1, ?_⟩
  refine ⟨_, _, rfl, ?_⟩
  rw [decide_eq_true rfl]
  walk_at "os"
  refine g_data ?_
  have hE : EqD 4 (.lst [eT t, .lst (cs.map eC)]) := EqD.lst fun s hs => by
    simp only [List.mem_cons, List.not_mem_nil, or_false] at hs
    rcases hs with rfl | rfl
    · exact .lst (EqD.map fun r _ => .lst (EqD.map fun x _ => .int x))
    · exact .lst (EqD.map fun r _ => .tup fun s hs => by
        simp only [List.mem_cons, List.not_mem_nil, or_false] at hs
        rcases hs with rfl | rfl | rfl <;> exact .int _)
  refine g_neD (hE.ok (by decide)) (hE.ok (by decide)) ?_
  rw [hE.eqv]
  walk_at "os"
  refine ⟨t, c, on, cs ++ ds, rfl, hW, c1, by omega, fun x hx => ?_, ?_⟩
  · rcases List.mem_append.mp hx with hx | hx
    · exact (hcs x hx).1
    · exact (hds x hx).1
  walk_at "os"
  have q1 : ¬ mx0 (shareF t on cs) < mx0 (shareF t on (cs ++ ds)) := by
    have := mx0_le (share_more (o := on) (cs := cs) hT hds)
    omega
  rw [decide_eq_false q1]
  walk_at "os"
  refine g_data ?_
  walk_at "os"
  refine ⟨t, c, on, cs.reverse, by rw [List.map_reverse], hW, c1, by omega, fun x hx => (hcs x (List.mem_reverse.mp hx)).1, ?_⟩
  walk_at "os"
  rw [share_rev, decide_eq_true rfl]
  walk_at "os"
  rw [List.length_map]
  walk_at "os"
  refine g_ite (fun h => ?_) (fun h => ?_)
  · walk_at "os"
    refine ⟨t, c, on + 1, cs, rfl, hW, c1, by omega, fun x hx => (hcs x hx).1, ?_⟩
    walk_at "os"
    have q2 : ¬ mx0 (shareF t (on + 1) cs) < mx0 (shareF t on cs) := by
      have := mx0_le (share_over (o := on) (cs := cs) hT (by omega))
      omega
    rw [decide_eq_false q2]
    walk_at "os"
    exact ⟨t, c, first, 1 + had, usual, rfl, hT, by omega, by omega, by omega, by omega, by omega, by omega, by omega, by omega, _, _, .refl, k _⟩
  · walk_at "os"
    exact ⟨t, c, first, 1 + had, usual, rfl, hT, by omega, by omega, by omega, by omega, by omega, by omega, by omega, by omega, _, _, .refl, k _⟩
end Om
namespace Om
open PySem L2
def top (i : Nat) : Stmt := PySem.Challenge.pw_inningsbook_k89_whole_long_tables.main.body.getD i (.Pass ⟨0, 0, 0, 0⟩)
abbrev s_share_had : Stmt := top 1
def d_share_had : He.DefD := ⟨("share_had", none), "share_had", "share_had", defArgs s_share_had, defBody s_share_had, defScope s_share_had, [], []⟩
theorem sc_share_had : FnScope N_share_had ["table", "overs", "cuts"] (defScope s_share_had) := ⟨rfl, rfl, rfl, by decide +kernel, rfl, by decide +kernel, by decide +kernel⟩
abbrev s_aim : Stmt := top 2
def d_aim : He.DefD := ⟨("aim", none), "aim", "aim", defArgs s_aim, defBody s_aim, defScope s_aim, [], []⟩
theorem sc_aim : FnScope N_aim ["first", "had", "has", "usual"] (defScope s_aim) := ⟨rfl, rfl, rfl, by decide +kernel, rfl, by decide +kernel, by decide +kernel⟩
abbrev s_box : Stmt := top 4
def d_box : He.DefD := ⟨("_law_box", none), "_law_box", "_law_box", defArgs s_box, defBody s_box, defScope s_box, [], []⟩
theorem sc_box : FnScope N_box ["script"] (defScope s_box) := ⟨rfl, rfl, rfl, by decide +kernel, rfl, by decide +kernel, by decide +kernel⟩
abbrev s_take : Stmt := top 5
def d_take : He.DefD := ⟨("_law_take", none), "_law_take", "_law_take", defArgs s_take, defBody s_take, defScope s_take, [], []⟩
theorem sc_take : FnScope N_take ["box", "many"] (defScope s_take) := ⟨rfl, rfl, rfl, by decide +kernel, rfl, by decide +kernel, by decide +kernel⟩
abbrev s_table : Stmt := top 6
def d_table : He.DefD := ⟨("_law_table", none), "_law_table", "_law_table", defArgs s_table, defBody s_table, defScope s_table, [], []⟩
theorem sc_table : FnScope N_table ["box", "many"] (defScope s_table) := ⟨rfl, rfl, rfl, by decide +kernel, rfl, by decide +kernel, by decide +kernel⟩
abbrev s_cuts : Stmt := top 7
def d_cuts : He.DefD := ⟨("_law_cuts", none), "_law_cuts", "_law_cuts", defArgs s_cuts, defBody s_cuts, defScope s_cuts, [], []⟩
theorem sc_cuts : FnScope N_cuts ["box", "table", "many"] (defScope s_cuts) := ⟨rfl, rfl, rfl, by decide +kernel, rfl, by decide +kernel, by decide +kernel⟩
abbrev s_due : Stmt := top 8
def d_due : He.DefD := ⟨("_law_due", none), "_law_due", "_law_due", defArgs s_due, defBody s_due, defScope s_due, [], []⟩
theorem sc_due : FnScope N_due ["table", "overs", "cuts"] (defScope s_due) := ⟨rfl, rfl, rfl, by decide +kernel, rfl, by decide +kernel, by decide +kernel⟩
abbrev s_whole : Stmt := top 9
def d_whole : He.DefD := ⟨("_law_whole", none), "_law_whole", "_law_whole", defArgs s_whole, defBody s_whole, defScope s_whole, [], []⟩
theorem sc_whole : FnScope N_whole ["found", "due"] (defScope s_whole) := ⟨rfl, rfl, rfl, by decide +kernel, rfl, by decide +kernel, by decide +kernel⟩
abbrev s_aims_right : Stmt := top 10
def d_aims_right : He.DefD := ⟨("_law_aims_right", none), "_law_aims_right", "_law_aims_right", defArgs s_aims_right, defBody s_aims_right, defScope s_aims_right, [], []⟩
theorem sc_aims_right : FnScope N_aims_right ["table", "first", "had", "usual"] (defScope s_aims_right) := ⟨rfl, rfl, rfl, by decide +kernel, rfl, by decide +kernel, by decide +kernel⟩
abbrev s_law : Stmt := top 11
def d_law : He.DefD := ⟨("law", none), "law", "law", defArgs s_law, defBody s_law, defScope s_law, [], []⟩
theorem sc_law : FnScope N_law ["script"] (defScope s_law) := ⟨rfl, rfl, rfl, by decide +kernel, rfl, by decide +kernel, by decide +kernel⟩
def fnL : List He.DefD := [d_share_had, d_aim, d_box, d_take, d_table, d_cuts, d_due, d_whole, d_aims_right, d_law]
def faL : List He.Fa := [.glo "share_had", .glo "aim", .glo "_law_box", .glo "_law_take", .glo "_law_table", .glo "_law_cuts", .glo "_law_due", .glo "_law_whole", .glo "_law_aims_right", .glo "law", .free "max", .free "enumerate", .free "abs", .free "int", .free "divmod", .free "range", .free "reversed", .free "min", .free "len", .free "isinstance", .free "bool", .free "zip", .free "any", .free "list"]
section
variable {P : Program} {w : World} {K : PySem.W.Frag} {mg : Str → Option Value} {base : Heap}
theorem len_share_had (ss : List S) (Ω : Om) (P : WP) (h : W_share_had ss Ω P) : ss.length = 3 := by
  first | (obtain ⟨_, rfl, _⟩ := h; rfl) | (obtain ⟨_, _, rfl, _⟩ := h; rfl) | (obtain ⟨_, _, _, rfl, _⟩ := h; rfl) | (obtain ⟨_, _, _, _, rfl, _⟩ := h; rfl) | (obtain ⟨_, _, _, _, _, rfl, _⟩ := h; rfl) | (obtain ⟨_, _, _, _, _, _, rfl, _⟩ := h; rfl) | (obtain ⟨_, _, _, _, _, _, _, rfl, _⟩ := h; rfl) | (obtain ⟨_, _, _, _, _, _, _, _, rfl, _⟩ := h; rfl) | (obtain ⟨_, _, _, _, _, _, _, _, _, rfl, _⟩ := h; rfl) | (obtain ⟨_, _, _, _, _, _, _, _, _, _, rfl, _⟩ := h; rfl) | (obtain ⟨_, _, _, _, _, _, _, _, _, _, _, rfl, _⟩ := h; rfl) | (obtain ⟨_, _, _, _, _, _, _, _, _, _, _, _, rfl, _⟩ := h; rfl)
theorem ok_share_had (T : Top faL fnL K mg) : Kn P w K mg base CX0 1 "share_had" ["table", "overs", "cuts"] W_share_had :=
  kn_of0 T 0 0 rfl rfl (fun _ _ _ _ _ _ us hl => match us, hl with | [_, _, _], _ => rfl) sc_share_had len_share_had (fun f cdv A outer s H E hr => ⟨_, (oss_cons (os_set (i := 3) sc_share_had.nd rfl (Or.inl rfl) (oe_ix (oe_ix (ov 0) (ov 1) (fun _ _ => rfl)) oe_int (fun _ _ => rfl)))
  (oss_cons (os_for PassesOwn.never rfl (oi_seq (ov 2)) (og_tup rfl (ogs_c (og_name (i := 4) sc_share_had.nd rfl (Or.inl rfl)) (ogs_c (og_name (i := 5) sc_share_had.nd rfl (Or.inl rfl)) (ogs_c (og_name (i := 6) sc_share_had.nd rfl (Or.inl rfl)) ogs_nil)))) (oss_one (os_aug (i := 3) sc_share_had.nd rfl (Or.inl rfl) (oe_op oo_sub (oe_ix (oe_ix (ov 0) (ov 4) (fun _ _ => rfl)) (ov 6) (fun _ _ => rfl)) (oe_ix (oe_ix (ov 0) (ov 5) (fun _ _ => rfl)) (ov 6) (fun _ _ => rfl))) ip_sub)))
  (oss_one (os_ret (oe_callB (oc_max rfl) rfl (T.free 10) bt_max (oa_cons oe_int (oa_cons (ov 3) oa_nil)))))))⟩) run_share_had
theorem len_aim (ss : List S) (Ω : Om) (P : WP) (h : W_aim ss Ω P) : ss.length = 4 := by
  first | (obtain ⟨_, rfl, _⟩ := h; rfl) | (obtain ⟨_, _, rfl, _⟩ := h; rfl) | (obtain ⟨_, _, _, rfl, _⟩ := h; rfl) | (obtain ⟨_, _, _, _, rfl, _⟩ := h; rfl) | (obtain ⟨_, _, _, _, _, rfl, _⟩ := h; rfl) | (obtain ⟨_, _, _, _, _, _, rfl, _⟩ := h; rfl) | (obtain ⟨_, _, _, _, _, _, _, rfl, _⟩ := h; rfl) | (obtain ⟨_, _, _, _, _, _, _, _, rfl, _⟩ := h; rfl) | (obtain ⟨_, _, _, _, _, _, _, _, _, rfl, _⟩ := h; rfl) | (obtain ⟨_, _, _, _, _, _, _, _, _, _, rfl, _⟩ := h; rfl) | (obtain ⟨_, _, _, _, _, _, _, _, _, _, _, rfl, _⟩ := h; rfl) | (obtain ⟨_, _, _, _, _, _, _, _, _, _, _, _, rfl, _⟩ := h; rfl)
theorem ok_aim (T : Top faL fnL K mg) : Kn P w K mg base CX0 1 "aim" ["first", "had", "has", "usual"] W_aim :=
  kn_of0 T 1 1 rfl rfl (fun _ _ _ _ _ _ us hl => match us, hl with | [_, _, _, _], _ => rfl) sc_aim len_aim (fun f cdv A outer s H E hr => ⟨_, (oss_cons (os_if (ot_cmp oo_le (ov 2) (ov 1) (nomark _)) (oss_one (os_ret (oe_op oo_add (oe_op oo_fdiv (oe_op oo_mul (ov 0) (ov 2)) (ov 1)) oe_int))) oss_nil)
  (oss_one (os_ret (oe_op oo_add (oe_op oo_add (ov 0) (oe_op oo_fdiv (oe_op oo_mul (ov 3) (oe_op oo_sub (ov 2) (ov 1))) oe_int)) oe_int))))⟩) run_aim
theorem len_box (ss : List S) (Ω : Om) (P : WP) (h : W_box ss Ω P) : ss.length = 1 := by
  first | (obtain ⟨_, rfl, _⟩ := h; rfl) | (obtain ⟨_, _, rfl, _⟩ := h; rfl) | (obtain ⟨_, _, _, rfl, _⟩ := h; rfl) | (obtain ⟨_, _, _, _, rfl, _⟩ := h; rfl) | (obtain ⟨_, _, _, _, _, rfl, _⟩ := h; rfl) | (obtain ⟨_, _, _, _, _, _, rfl, _⟩ := h; rfl) | (obtain ⟨_, _, _, _, _, _, _, rfl, _⟩ := h; rfl) | (obtain ⟨_, _, _, _, _, _, _, _, rfl, _⟩ := h; rfl) | (obtain ⟨_, _, _, _, _, _, _, _, _, rfl, _⟩ := h; rfl) | (obtain ⟨_, _, _, _, _, _, _, _, _, _, rfl, _⟩ := h; rfl) | (obtain ⟨_, _, _, _, _, _, _, _, _, _, _, rfl, _⟩ := h; rfl) | (obtain ⟨_, _, _, _, _, _, _, _, _, _, _, _, rfl, _⟩ := h; rfl)
theorem ok_box (T : Top faL fnL K mg) : Kn P w K mg base CX0 1 "_law_box" ["script"] W_box :=
  kn_of0 T 2 2 rfl rfl (fun _ _ _ _ _ _ us hl => match us, hl with | [_], _ => rfl) sc_box len_box (fun f cdv A outer s H E hr => ⟨_, (oss_cons (os_set (i := 1) sc_box.nd rfl (Or.inl rfl) oe_int)
  (oss_cons (os_for PassesOwn.never rfl (oi_enum rfl (T.free 11) (oa_cons (oe_sl (ov 0) op_none (op_some oe_int)) oa_nil)) (og_tup rfl (ogs_c (og_name (i := 2) sc_box.nd rfl (Or.inl rfl)) (ogs_c (og_name (i := 3) sc_box.nd rfl (Or.inl rfl)) ogs_nil))) (oss_one (os_set (i := 1) sc_box.nd rfl (Or.inl rfl) (oe_op oo_add (ov 1) (oe_op oo_mul (ov 3) (oe_op oo_add (oe_op oo_mul (ov 2) (ov 2)) oe_int))))))
  (oss_one (os_ret (oe_lst (oa_cons (oe_op oo_mul (oe_callB oc_abs rfl (T.free 12) bt_abs (oa_cons (ov 1) oa_nil)) (oe_callTy oc_int rfl (T.free 13) bt_int (oa_cons (oe_cmp oo_ge (oe_callB oc_abs rfl (T.free 12) bt_abs (oa_cons (ov 1) oa_nil)) (oe_op oo_pow oe_int oe_int) (nomark _)) oa_nil))) (oa_cons (oe_op oo_mod (oe_op oo_mul (oe_op oo_add (oe_op oo_mod (ov 1) oe_int) oe_int) oe_int) oe_int) (oa_cons oe_int oa_nil))))))))⟩) run_box
theorem len_take (ss : List S) (Ω : Om) (P : WP) (h : W_take ss Ω P) : ss.length = 2 := by
  first | (obtain ⟨_, rfl, _⟩ := h; rfl) | (obtain ⟨_, _, rfl, _⟩ := h; rfl) | (obtain ⟨_, _, _, rfl, _⟩ := h; rfl) | (obtain ⟨_, _, _, _, rfl, _⟩ := h; rfl) | (obtain ⟨_, _, _, _, _, rfl, _⟩ := h; rfl) | (obtain ⟨_, _, _, _, _, _, rfl, _⟩ := h; rfl) | (obtain ⟨_, _, _, _, _, _, _, rfl, _⟩ := h; rfl) | (obtain ⟨_, _, _, _, _, _, _, _, rfl, _⟩ := h; rfl) | (obtain ⟨_, _, _, _, _, _, _, _, _, rfl, _⟩ := h; rfl) | (obtain ⟨_, _, _, _, _, _, _, _, _, _, rfl, _⟩ := h; rfl) | (obtain ⟨_, _, _, _, _, _, _, _, _, _, _, rfl, _⟩ := h; rfl) | (obtain ⟨_, _, _, _, _, _, _, _, _, _, _, _, rfl, _⟩ := h; rfl)
theorem ok_take (T : Top faL fnL K mg) : Kn P w K mg base CX0 1 "_law_take" ["box", "many"] W_take :=
  kn_of0 T 3 3 rfl rfl (fun _ _ _ _ _ _ us hl => match us, hl with | [_, _], _ => rfl) sc_take len_take (fun f cdv A outer s H E hr => ⟨_, (oss_cons (os_if (ot_cmp oo_gt (oe_ix (ov 0) oe_int (fun _ _ => rfl)) oe_int (nomark _)) (oss_cons (os_asg (oe_callB oc_divmod rfl (T.free 14) bt_divmod (oa_cons (oe_ix (ov 0) oe_int (fun _ _ => rfl)) (oa_cons (ov 1) oa_nil))) (og_tup rfl (ogs_c (og_sub (ov 0) oe_int) (ogs_c (og_name (i := 2) sc_take.nd rfl (Or.inl rfl)) ogs_nil))))
  (oss_one (os_ret (ov 2)))) oss_nil)
  (oss_cons (os_asg (oe_op oo_add (oe_ix (ov 0) oe_int (fun _ _ => rfl)) oe_int) (og_sub (ov 0) oe_int))
  (oss_cons (os_set (i := 3) sc_take.nd rfl (Or.inl rfl) (oe_op oo_mod (oe_op oo_mul (oe_op oo_add (oe_ix (ov 0) oe_int (fun _ _ => rfl)) (oe_op oo_mul oe_int (oe_ix (ov 0) oe_int (fun _ _ => rfl)))) (oe_op oo_add oe_int (oe_ix (ov 0) oe_int (fun _ _ => rfl)))) oe_int))
  (oss_cons (os_asg (oe_op oo_mod (oe_op oo_add (oe_op oo_mul (ov 3) (oe_op oo_add (oe_op oo_mod (ov 3) oe_int) oe_int)) (oe_ix (ov 0) oe_int (fun _ _ => rfl))) oe_int) (og_sub (ov 0) oe_int))
  (oss_one (os_ret (oe_op oo_mod (oe_op oo_fdiv (oe_op oo_mod (oe_op oo_mul (oe_ix (ov 0) oe_int (fun _ _ => rfl)) (oe_op oo_add (oe_op oo_mod (oe_ix (ov 0) oe_int (fun _ _ => rfl)) oe_int) oe_int)) oe_int) oe_int) (ov 1))))))))⟩) run_take
theorem len_table (ss : List S) (Ω : Om) (P : WP) (h : W_table ss Ω P) : ss.length = 2 := by
  first | (obtain ⟨_, rfl, _⟩ := h; rfl) | (obtain ⟨_, _, rfl, _⟩ := h; rfl) | (obtain ⟨_, _, _, rfl, _⟩ := h; rfl) | (obtain ⟨_, _, _, _, rfl, _⟩ := h; rfl) | (obtain ⟨_, _, _, _, _, rfl, _⟩ := h; rfl) | (obtain ⟨_, _, _, _, _, _, rfl, _⟩ := h; rfl) | (obtain ⟨_, _, _, _, _, _, _, rfl, _⟩ := h; rfl) | (obtain ⟨_, _, _, _, _, _, _, _, rfl, _⟩ := h; rfl) | (obtain ⟨_, _, _, _, _, _, _, _, _, rfl, _⟩ := h; rfl) | (obtain ⟨_, _, _, _, _, _, _, _, _, _, rfl, _⟩ := h; rfl) | (obtain ⟨_, _, _, _, _, _, _, _, _, _, _, rfl, _⟩ := h; rfl) | (obtain ⟨_, _, _, _, _, _, _, _, _, _, _, _, rfl, _⟩ := h; rfl)
theorem ok_table (T : Top faL fnL K mg) (B_take : Kn P w K mg base CX0 1 "_law_take" ["box", "many"] W_take) : Kn P w K mg base CX0 2 "_law_table" ["box", "many"] W_table :=
  kn_of0 T 4 4 rfl rfl (fun _ _ _ _ _ _ us hl => match us, hl with | [_, _], _ => rfl) sc_table len_table (fun f cdv A outer s H E hr => ⟨_, (oss_cons (os_par (i := 2) (j := 3) rfl sc_table.nd rfl rfl (by decide) rfl rfl (oa_cons (oe_op oo_add oe_int (oe_callK B_take (hr.mono (by decide)) rfl pass0 (oa_cons (ov 0) (oa_cons oe_int oa_nil)))) (oa_cons (oe_ix (oe_lst (oa_cons oe_int (oa_cons oe_int (oa_cons oe_int (oa_cons oe_int oa_nil))))) (oe_callK B_take (hr.mono (by decide)) rfl pass0 (oa_cons (ov 0) (oa_cons oe_int oa_nil))) (fun _ _ => rfl)) oa_nil)) (by rfl))
  (oss_cons (os_set (i := 4) sc_table.nd rfl (Or.inl rfl) (oe_lst (oa_cons (oe_lc (own := [("k", 7)]) rfl sc_table.nd (oi_rng1 rfl (T.free 15) (oa_cons (ov 2) oa_nil)) (blkOk_by (own := [("k", 7)]) (N := N_table) (sc := defScope s_table) (by decide +kernel)) (fun _ _ _ _ _ => (og_name (i := 7) sc_table.nd rfl (Or.inl rfl))) (fun _ _ _ _ _ => ots_nil) (fun _ _ _ _ _ => oe_int) (by decide)) oa_nil)))
  (oss_cons (os_for PassesOwn.never rfl (oi_rng1 rfl (T.free 15) (oa_cons (ov 1) oa_nil)) (og_name (i := 5) sc_table.nd rfl (Or.inl rfl)) (oss_cons (os_setLc (i := 6) (own := [("k", 7)]) rfl sc_table.nd rfl rfl (sw_true rfl rfl rfl (by decide +kernel)) (oi_rng1 rfl (T.free 15) (oa_cons (oe_op oo_add (ov 2) oe_int) oa_nil)) (blkOk_by (own := [("k", 7)]) (N := N_table) (sc := defScope s_table) (by decide +kernel)) (fun _ _ _ _ _ => (og_name (i := 7) sc_table.nd rfl (Or.inl rfl))) (fun _ _ _ _ _ => ots_nil) (fun _ _ _ _ _ => oe_int) (by decide))
  (oss_cons (os_for PassesOwn.never rfl (oi_down rfl (T.free 16) rfl (T.free 15) (ov 2)) (og_name (i := 7) sc_table.nd rfl (Or.inl rfl)) (oss_one (os_asg (oe_callB (oc_min rfl) rfl (T.free 17) bt_min (oa_cons oe_int (oa_cons (oe_callB (oc_max rfl) rfl (T.free 10) bt_max (oa_cons (oe_ix (ov 6) (oe_op oo_add (ov 7) oe_int) (fun _ _ => rfl)) (oa_cons (oe_op oo_add (oe_ix (oe_ix (ov 4) se_neg (fun _ _ => rfl)) (ov 7) (fun _ _ => rfl)) (oe_callK B_take (hr.mono (by decide)) rfl pass0 (oa_cons (ov 0) (oa_cons (oe_op oo_add oe_int (ov 3)) oa_nil)))) oa_nil))) oa_nil))) (og_sub (ov 6) (ov 7)))))
  (oss_one (os_append (ov 4) (oe_sl (ov 6) op_none (op_some (ov 2))))))))
  (oss_one (os_ret (ov 4))))))⟩) run_table
theorem len_cuts (ss : List S) (Ω : Om) (P : WP) (h : W_cuts ss Ω P) : ss.length = 3 := by
  first | (obtain ⟨_, rfl, _⟩ := h; rfl) | (obtain ⟨_, _, rfl, _⟩ := h; rfl) | (obtain ⟨_, _, _, rfl, _⟩ := h; rfl) | (obtain ⟨_, _, _, _, rfl, _⟩ := h; rfl) | (obtain ⟨_, _, _, _, _, rfl, _⟩ := h; rfl) | (obtain ⟨_, _, _, _, _, _, rfl, _⟩ := h; rfl) | (obtain ⟨_, _, _, _, _, _, _, rfl, _⟩ := h; rfl) | (obtain ⟨_, _, _, _, _, _, _, _, rfl, _⟩ := h; rfl) | (obtain ⟨_, _, _, _, _, _, _, _, _, rfl, _⟩ := h; rfl) | (obtain ⟨_, _, _, _, _, _, _, _, _, _, rfl, _⟩ := h; rfl) | (obtain ⟨_, _, _, _, _, _, _, _, _, _, _, rfl, _⟩ := h; rfl) | (obtain ⟨_, _, _, _, _, _, _, _, _, _, _, _, rfl, _⟩ := h; rfl)
theorem ok_cuts (T : Top faL fnL K mg) (B_take : Kn P w K mg base CX0 1 "_law_take" ["box", "many"] W_take) : Kn P w K mg base CX0 2 "_law_cuts" ["box", "table", "many"] W_cuts :=
  kn_of0 T 5 5 rfl rfl (fun _ _ _ _ _ _ us hl => match us, hl with | [_, _, _], _ => rfl) sc_cuts len_cuts (fun f cdv A outer s H E hr => ⟨_, (oss_cons (os_set (i := 3) sc_cuts.nd rfl (Or.inl rfl) (oe_lst oa_nil))
  (oss_cons (os_for PassesOwn.never rfl (oi_rng1 rfl (T.free 15) (oa_cons (ov 2) oa_nil)) (og_name (i := 4) sc_cuts.nd rfl (Or.inl rfl)) (oss_cons (os_set (i := 5) sc_cuts.nd rfl (Or.inl rfl) (oe_callK B_take (hr.mono (by decide)) rfl pass0 (oa_cons (ov 0) (oa_cons (oe_callB oc_len rfl (T.free 18) bt_len (oa_cons (ov 1) oa_nil)) oa_nil))))
  (oss_cons (os_set (i := 6) sc_cuts.nd rfl (Or.inl rfl) (oe_ix (oe_lst (oa_cons (oe_callB (oc_max rfl) rfl (T.free 10) bt_max (oa_cons oe_int (oa_cons (oe_op oo_sub (ov 5) oe_int) oa_nil))) (oa_cons (oe_callB (oc_max rfl) rfl (T.free 10) bt_max (oa_cons oe_int (oa_cons (oe_op oo_sub (ov 5) oe_int) oa_nil))) (oa_cons (ov 5) (oa_cons (oe_callK B_take (hr.mono (by decide)) rfl pass0 (oa_cons (ov 0) (oa_cons (oe_op oo_add (ov 5) oe_int) oa_nil))) oa_nil))))) (oe_callK B_take (hr.mono (by decide)) rfl pass0 (oa_cons (ov 0) (oa_cons oe_int oa_nil))) (fun _ _ => rfl)))
  (oss_one (os_append (ov 3) (oe_tup (oa_cons (ov 5) (oa_cons (ov 6) (oa_cons (oe_callK B_take (hr.mono (by decide)) rfl pass0 (oa_cons (ov 0) (oa_cons (oe_callB oc_len rfl (T.free 18) bt_len (oa_cons (oe_ix (ov 1) oe_int (fun _ _ => rfl)) oa_nil)) oa_nil))) oa_nil)))))))))
  (oss_one (os_ret (ov 3)))))⟩) run_cuts
theorem len_due (ss : List S) (Ω : Om) (P : WP) (h : W_due ss Ω P) : ss.length = 3 := by
  first | (obtain ⟨_, rfl, _⟩ := h; rfl) | (obtain ⟨_, _, rfl, _⟩ := h; rfl) | (obtain ⟨_, _, _, rfl, _⟩ := h; rfl) | (obtain ⟨_, _, _, _, rfl, _⟩ := h; rfl) | (obtain ⟨_, _, _, _, _, rfl, _⟩ := h; rfl) | (obtain ⟨_, _, _, _, _, _, rfl, _⟩ := h; rfl) | (obtain ⟨_, _, _, _, _, _, _, rfl, _⟩ := h; rfl) | (obtain ⟨_, _, _, _, _, _, _, _, rfl, _⟩ := h; rfl) | (obtain ⟨_, _, _, _, _, _, _, _, _, rfl, _⟩ := h; rfl) | (obtain ⟨_, _, _, _, _, _, _, _, _, _, rfl, _⟩ := h; rfl) | (obtain ⟨_, _, _, _, _, _, _, _, _, _, _, rfl, _⟩ := h; rfl) | (obtain ⟨_, _, _, _, _, _, _, _, _, _, _, _, rfl, _⟩ := h; rfl)
theorem ok_due (T : Top faL fnL K mg) : Kn P w K mg base CX0 1 "_law_due" ["table", "overs", "cuts"] W_due :=
  kn_of0 T 6 6 rfl rfl (fun _ _ _ _ _ _ us hl => match us, hl with | [_, _, _], _ => rfl) sc_due len_due (fun f cdv A outer s H E hr => ⟨_, (oss_cons (os_set (i := 3) sc_due.nd rfl (Or.inl rfl) (oe_ix (oe_ix (ov 0) (ov 1) (fun _ _ => rfl)) oe_int (fun _ _ => rfl)))
  (oss_cons (os_for PassesOwn.never rfl (oi_seq (ov 2)) (og_tup rfl (ogs_c (og_name (i := 4) sc_due.nd rfl (Or.inl rfl)) (ogs_c (og_name (i := 5) sc_due.nd rfl (Or.inl rfl)) (ogs_c (og_name (i := 6) sc_due.nd rfl (Or.inl rfl)) ogs_nil)))) (oss_one (os_set (i := 3) sc_due.nd rfl (Or.inl rfl) (oe_op oo_sub (oe_op oo_add (ov 3) (oe_ix (oe_ix (ov 0) (ov 5) (fun _ _ => rfl)) (ov 6) (fun _ _ => rfl))) (oe_ix (oe_ix (ov 0) (ov 4) (fun _ _ => rfl)) (ov 6) (fun _ _ => rfl))))))
  (oss_one (os_ret (oe_callB (oc_max rfl) rfl (T.free 10) bt_max (oa_cons oe_int (oa_cons (ov 3) oa_nil)))))))⟩) run_due
theorem len_whole (ss : List S) (Ω : Om) (P : WP) (h : W_whole ss Ω P) : ss.length = 2 := by
  first | (obtain ⟨_, rfl, _⟩ := h; rfl) | (obtain ⟨_, _, rfl, _⟩ := h; rfl) | (obtain ⟨_, _, _, rfl, _⟩ := h; rfl) | (obtain ⟨_, _, _, _, rfl, _⟩ := h; rfl) | (obtain ⟨_, _, _, _, _, rfl, _⟩ := h; rfl) | (obtain ⟨_, _, _, _, _, _, rfl, _⟩ := h; rfl) | (obtain ⟨_, _, _, _, _, _, _, rfl, _⟩ := h; rfl) | (obtain ⟨_, _, _, _, _, _, _, _, rfl, _⟩ := h; rfl) | (obtain ⟨_, _, _, _, _, _, _, _, _, rfl, _⟩ := h; rfl) | (obtain ⟨_, _, _, _, _, _, _, _, _, _, rfl, _⟩ := h; rfl) | (obtain ⟨_, _, _, _, _, _, _, _, _, _, _, rfl, _⟩ := h; rfl) | (obtain ⟨_, _, _, _, _, _, _, _, _, _, _, _, rfl, _⟩ := h; rfl)
theorem ok_whole (T : Top faL fnL K mg) : Kn P w K mg base CX0 1 "_law_whole" ["found", "due"] W_whole :=
  kn_of0 T 7 7 rfl rfl (fun _ _ _ _ _ _ us hl => match us, hl with | [_, _], _ => rfl) sc_whole len_whole (fun f cdv A outer s H E hr => ⟨_, (oss_one (os_ret (oe_and (oe_callB oc_isi rfl (T.free 19) bt_isinstance (oa_cons (ov 0) (oa_cons (oe_ty rfl (T.free 13) bt_int) oa_nil))) (oe_and (oe_not (oe_callB oc_isi rfl (T.free 19) bt_isinstance (oa_cons (ov 0) (oa_cons (oe_ty rfl (T.free 20) bt_bool) oa_nil)))) (oe_one (oe_cmp (oo_eq hr.units) (ov 0) (ov 1) (nomark _)))))))⟩) run_whole
theorem len_aims_right (ss : List S) (Ω : Om) (P : WP) (h : W_aims_right ss Ω P) : ss.length = 4 := by
  first | (obtain ⟨_, rfl, _⟩ := h; rfl) | (obtain ⟨_, _, rfl, _⟩ := h; rfl) | (obtain ⟨_, _, _, rfl, _⟩ := h; rfl) | (obtain ⟨_, _, _, _, rfl, _⟩ := h; rfl) | (obtain ⟨_, _, _, _, _, rfl, _⟩ := h; rfl) | (obtain ⟨_, _, _, _, _, _, rfl, _⟩ := h; rfl) | (obtain ⟨_, _, _, _, _, _, _, rfl, _⟩ := h; rfl) | (obtain ⟨_, _, _, _, _, _, _, _, rfl, _⟩ := h; rfl) | (obtain ⟨_, _, _, _, _, _, _, _, _, rfl, _⟩ := h; rfl) | (obtain ⟨_, _, _, _, _, _, _, _, _, _, rfl, _⟩ := h; rfl) | (obtain ⟨_, _, _, _, _, _, _, _, _, _, _, rfl, _⟩ := h; rfl) | (obtain ⟨_, _, _, _, _, _, _, _, _, _, _, _, rfl, _⟩ := h; rfl)
theorem ok_aims_right (T : Top faL fnL K mg) (B_aim : Kn P w K mg base CX0 1 "aim" ["first", "had", "has", "usual"] W_aim) : Kn P w K mg base CX0 2 "_law_aims_right" ["table", "first", "had", "usual"] W_aims_right :=
  kn_of0 T 8 8 rfl rfl (fun _ _ _ _ _ _ us hl => match us, hl with | [_, _, _, _], _ => rfl) sc_aims_right len_aims_right (fun f cdv A outer s H E hr => ⟨_, (oss_cons (os_set (i := 4) sc_aims_right.nd rfl (Or.inl rfl) (oe_lst oa_nil))
  (oss_cons (os_for PassesOwn.never rfl (oi_seq (ov 0)) (og_name (i := 5) sc_aims_right.nd rfl (Or.inl rfl)) (oss_cons (os_setLc (i := 6) (own := [("share", 7)]) rfl sc_aims_right.nd rfl rfl (sw_true rfl rfl rfl (by decide +kernel)) (oi_seq (ov 5)) (blkOk_by (own := [("share", 7)]) (N := N_aims_right) (sc := defScope s_aims_right) (by decide +kernel)) (fun _ _ _ _ _ => (og_name (i := 7) sc_aims_right.nd rfl (Or.inl rfl))) (fun _ _ _ _ _ => ots_nil) (fun _ _ _ _ _ => (oe_callK B_aim (hr.mono (by decide)) rfl pass0 (oa_cons (ov 1) (oa_cons (ov 2) (oa_cons (ov 7) (oa_cons (ov 3) oa_nil)))))) (by decide))
  (oss_cons (os_if (ot_val (oe_callB (oc_any rfl) rfl (T.free 22) bt_any (oa_cons (oe_lc (own := [("one", 8), ("other", 9)]) rfl sc_aims_right.nd (oi_zip rfl (T.free 21) (oa_cons (ov 6) (oa_cons (oe_sl (ov 6) (op_some oe_int) op_none) oa_nil))) (blkOk_by (own := [("one", 8), ("other", 9)]) (N := N_aims_right) (sc := defScope s_aims_right) (by decide +kernel)) (fun _ _ _ _ _ => (og_tup rfl (ogs_c (og_name (i := 8) sc_aims_right.nd rfl (Or.inl rfl)) (ogs_c (og_name (i := 9) sc_aims_right.nd rfl (Or.inl rfl)) ogs_nil)))) (fun _ _ _ _ _ => ots_nil) (fun _ _ _ _ _ => (oe_cmp oo_ltU (ov 8) (ov 9) (nomark _))) (by decide)) oa_nil))) (oss_one (os_ret oe_bl)) oss_nil)
  (oss_cons (os_if (ot_val (oe_callB (oc_any rfl) rfl (T.free 22) bt_any (oa_cons (oe_lc (own := [("one", 8), ("other", 9)]) rfl sc_aims_right.nd (oi_zip rfl (T.free 21) (oa_cons (ov 6) (oa_cons (ov 4) oa_nil))) (blkOk_by (own := [("one", 8), ("other", 9)]) (N := N_aims_right) (sc := defScope s_aims_right) (by decide +kernel)) (fun _ _ _ _ _ => (og_tup rfl (ogs_c (og_name (i := 8) sc_aims_right.nd rfl (Or.inl rfl)) (ogs_c (og_name (i := 9) sc_aims_right.nd rfl (Or.inl rfl)) ogs_nil)))) (fun _ _ _ _ _ => ots_nil) (fun _ _ _ _ _ => (oe_cmp oo_ltU (ov 8) (ov 9) (nomark _))) (by decide)) oa_nil))) (oss_one (os_ret oe_bl)) oss_nil)
  (oss_one (os_set (i := 4) sc_aims_right.nd rfl (Or.inl rfl) (ov 6)))))))
  (oss_one (os_ret oe_bl))))⟩) run_aims_right
theorem len_law (ss : List S) (Ω : Om) (P : WP) (h : W_law ss Ω P) : ss.length = 1 := by
  first | (obtain ⟨_, rfl, _⟩ := h; rfl) | (obtain ⟨_, _, rfl, _⟩ := h; rfl) | (obtain ⟨_, _, _, rfl, _⟩ := h; rfl) | (obtain ⟨_, _, _, _, rfl, _⟩ := h; rfl) | (obtain ⟨_, _, _, _, _, rfl, _⟩ := h; rfl) | (obtain ⟨_, _, _, _, _, _, rfl, _⟩ := h; rfl) | (obtain ⟨_, _, _, _, _, _, _, rfl, _⟩ := h; rfl) | (obtain ⟨_, _, _, _, _, _, _, _, rfl, _⟩ := h; rfl) | (obtain ⟨_, _, _, _, _, _, _, _, _, rfl, _⟩ := h; rfl) | (obtain ⟨_, _, _, _, _, _, _, _, _, _, rfl, _⟩ := h; rfl) | (obtain ⟨_, _, _, _, _, _, _, _, _, _, _, rfl, _⟩ := h; rfl) | (obtain ⟨_, _, _, _, _, _, _, _, _, _, _, _, rfl, _⟩ := h; rfl)
theorem okF_law {f : Addr} {fd : FuncData} (T : Top faL fnL K mg) (F : FunD K "law" "law" (defArgs s_law) (defBody s_law) (defScope s_law) [] [] f fd) (B_box : Kn P w K mg base CX0 1 "_law_box" ["script"] W_box) (B_take : Kn P w K mg base CX0 1 "_law_take" ["box", "many"] W_take) (B_table : Kn P w K mg base CX0 2 "_law_table" ["box", "many"] W_table) (B_cuts : Kn P w K mg base CX0 2 "_law_cuts" ["box", "table", "many"] W_cuts) (B_share_had : Kn P w K mg base CX0 1 "share_had" ["table", "overs", "cuts"] W_share_had) (B_due : Kn P w K mg base CX0 1 "_law_due" ["table", "overs", "cuts"] W_due) (B_whole : Kn P w K mg base CX0 1 "_law_whole" ["found", "due"] W_whole) (B_aims_right : Kn P w K mg base CX0 2 "_law_aims_right" ["table", "first", "had", "usual"] W_aims_right) : FnOk P w K mg base CX0 3 f fd ["script"] (spO K W_law) :=
  fnO0 F sc_law len_law (fun cdv A outer s H E hr => ⟨_, (oss_cons (os_set (i := 1) sc_law.nd rfl (Or.inl rfl) (oe_callK B_box (hr.mono (by decide)) rfl pass0 (oa_cons (ov 0) oa_nil)))
  (oss_cons (os_set (i := 2) sc_law.nd rfl (Or.inl rfl) (oe_op oo_mul (oe_ix (oe_lst (oa_cons oe_int (oa_cons oe_int (oa_cons oe_int oa_nil)))) (oe_callK B_take (hr.mono (by decide)) rfl pass0 (oa_cons (ov 1) (oa_cons oe_int oa_nil))) (fun _ _ => rfl)) (oe_callTy oc_int rfl (T.free 13) bt_int (oa_cons (oe_cmp oo_gt (oe_callB oc_len rfl (T.free 18) bt_len (oa_cons (ov 0) oa_nil)) oe_int (nomark _)) oa_nil))))
  (oss_cons (os_par (i := 3) (j := 4) rfl sc_law.nd rfl rfl (by decide) rfl rfl (oa_cons (oe_ix (oe_lst (oa_cons (ov 2) (oa_cons (oe_callK B_take (hr.mono (by decide)) rfl pass0 (oa_cons (ov 1) (oa_cons (oe_op oo_add (ov 2) oe_int) oa_nil))) oa_nil))) (oe_callK B_take (hr.mono (by decide)) rfl pass0 (oa_cons (ov 1) (oa_cons oe_int oa_nil))) (fun _ _ => rfl)) (oa_cons (oe_callK B_take (hr.mono (by decide)) rfl pass0 (oa_cons (ov 1) (oa_cons oe_int oa_nil))) oa_nil)) (by rfl))
  (oss_cons (os_par3 (i := 5) (j := 6) (l := 7) rfl sc_law.nd rfl rfl rfl (by decide) (by decide) (by decide) rfl rfl rfl (oa_cons (oe_callK B_take (hr.mono (by decide)) rfl pass0 (oa_cons (ov 1) (oa_cons oe_int oa_nil))) (oa_cons (oe_op oo_add oe_int (oe_callK B_take (hr.mono (by decide)) rfl pass0 (oa_cons (ov 1) (oa_cons oe_int oa_nil)))) (oa_cons (oe_ix (oe_lst (oa_cons oe_int (oa_cons oe_int (oa_cons oe_int (oa_cons oe_int oa_nil))))) (oe_callK B_take (hr.mono (by decide)) rfl pass0 (oa_cons (ov 1) (oa_cons oe_int oa_nil))) (fun _ _ => rfl)) oa_nil))) (by rfl))
  (oss_cons (os_set (i := 8) sc_law.nd rfl (Or.inl rfl) (oe_callK B_table (hr.mono (by decide)) rfl pass0 (oa_cons (ov 1) (oa_cons (ov 3) oa_nil))))
  (oss_cons (os_par (i := 9) (j := 7) rfl sc_law.nd rfl rfl (by decide) rfl rfl (oa_cons (oe_callK B_take (hr.mono (by decide)) rfl pass0 (oa_cons (ov 1) (oa_cons (oe_callB oc_len rfl (T.free 18) bt_len (oa_cons (ov 8) oa_nil)) oa_nil))) (oa_cons (oe_callK B_cuts (hr.mono (by decide)) rfl pass0 (oa_cons (ov 1) (oa_cons (ov 8) (oa_cons (ov 7) oa_nil)))) oa_nil)) (by rfl))
  (oss_cons (os_set (i := 10) sc_law.nd rfl (Or.inl rfl) (oe_op oo_add (ov 7) (oe_callK B_cuts (hr.mono (by decide)) rfl pass0 (oa_cons (ov 1) (oa_cons (ov 8) (oa_cons oe_int oa_nil))))))
  (oss_cons (os_set (i := 11) sc_law.nd rfl (Or.inl rfl) (oe_lst (oa_cons (oe_lc (own := [("row", 13)]) rfl sc_law.nd (oi_seq (ov 8)) (blkOk_by (own := [("row", 13)]) (N := N_law) (sc := defScope s_law) (by decide +kernel)) (fun _ _ _ _ _ => (og_name (i := 13) sc_law.nd rfl (Or.inl rfl))) (fun _ _ _ _ _ => ots_nil) (fun _ _ _ _ _ => (oe_callTy oc_list rfl (T.free 23) bt_list (oa_cons (ov 13) oa_nil))) (by decide)) (oa_cons (oe_callTy oc_list rfl (T.free 23) bt_list (oa_cons (ov 7) oa_nil)) oa_nil))))
  (oss_cons (os_set (i := 12) sc_law.nd rfl (Or.inl rfl) (oe_callK B_share_had (hr.mono (by decide)) rfl pass0 (oa_cons (oe_ix (ov 11) oe_int (fun _ _ => rfl)) (oa_cons (ov 9) (oa_cons (oe_ix (ov 11) oe_int (fun _ _ => rfl)) oa_nil)))))
  (oss_cons (os_if (OW.ot (ow_or (ot_not (ot_val (oe_callK B_whole (hr.mono (by decide)) rfl pass0 (oa_cons (ov 12) (oa_cons (oe_callK B_due (hr.mono (by decide)) rfl pass0 (oa_cons (ov 8) (oa_cons (ov 9) (oa_cons (ov 7) oa_nil)))) oa_nil))))) (ow_or1 (ot_cmp (oo_ne hr.units) (ov 11) (oe_lst (oa_cons (ov 8) (oa_cons (ov 7) oa_nil))) (nomark _))))) (oss_one (os_ret oe_bl)) oss_nil)
  (oss_cons (os_if (OW.ot (ow_or (ot_cmp oo_gt (oe_callK B_share_had (hr.mono (by decide)) rfl pass0 (oa_cons (ov 8) (oa_cons (ov 9) (oa_cons (ov 10) oa_nil)))) (ov 12) (nomark _)) (ow_or1 (ot_cmp (oo_ne hr.units) (oe_callK B_share_had (hr.mono (by decide)) rfl pass0 (oa_cons (ov 8) (oa_cons (ov 9) (oa_cons (oe_rev (ov 7)) oa_nil)))) (ov 12) (nomark _))))) (oss_one (os_ret oe_bl)) oss_nil)
  (oss_cons (os_if (OW.ot (ow_and (ot_cmp oo_ltU (oe_op oo_add (ov 9) oe_int) (oe_callB oc_len rfl (T.free 18) bt_len (oa_cons (ov 8) oa_nil)) (nomark _)) (ow_and1 (ot_cmp oo_ltU (oe_callK B_share_had (hr.mono (by decide)) rfl pass0 (oa_cons (ov 8) (oa_cons (oe_op oo_add (ov 9) oe_int) (oa_cons (ov 7) oa_nil)))) (ov 12) (nomark _))))) (oss_one (os_ret oe_bl)) oss_nil)
  (oss_one (os_ret (oe_callK B_aims_right (hr.mono (by decide)) rfl pass0 (oa_cons (ov 8) (oa_cons (ov 4) (oa_cons (ov 6) (oa_cons (ov 5) oa_nil)))))))))))))))))))⟩) run_law
theorem ok_all {f : Addr} {fd : FuncData} (T : Top faL fnL K mg) (F : FunD K "law" "law" (defArgs s_law) (defBody s_law) (defScope s_law) [] [] f fd) : FnOk P w K mg base CX0 3 f fd ["script"] (spO K W_law) := by
  have K_share_had := ok_share_had (P := P) (w := w) (base := base) T 
  have K_aim := ok_aim (P := P) (w := w) (base := base) T 
  have K_box := ok_box (P := P) (w := w) (base := base) T 
  have K_take := ok_take (P := P) (w := w) (base := base) T 
  have K_table := ok_table (P := P) (w := w) (base := base) T K_take
  have K_cuts := ok_cuts (P := P) (w := w) (base := base) T K_take
  have K_due := ok_due (P := P) (w := w) (base := base) T 
  have K_whole := ok_whole (P := P) (w := w) (base := base) T 
  have K_aims_right := ok_aims_right (P := P) (w := w) (base := base) T K_aim
  exact okF_law T F K_box K_take K_table K_cuts K_share_had K_due K_whole K_aims_right
end
def names0 : List Str := ["share_had", "aim", "_law_box", "_law_take", "_law_table", "_law_cuts", "_law_due", "_law_whole", "_law_aims_right"]
abbrev R : PySem.W.OpenRow := PySem.W.OpenLaw.row PySem.Challenge.rw_inningsbook_k89_whole_long_tables
abbrev hk : PySem.W.Hook := He.hookD 5 faL fnL
def ob (s : PySem.W.SharedT) : He.AlD := He.obsDG 5 faL fnL (HandSHeadRun.getT s)
theorem ob_eq (s : PySem.W.SharedT) : ob s = hk.obs s.abs := He.obsDG_eq (HandSHeadRun.getT_eq s)
theorem run_top (w : World) : HandSHeadRun.RunEq R (PySem.W.view R.prog [11]) hk ob 20000 (names0) w := by
  intro os
  kernel_rfl
theorem facts {P : Program} {w : World} {K : PySem.W.Frag} {h : Heap} {mg : Str → Option Value} {f : Addr} (X : K.In h) (G : h.Ns mainGlobals mg) (hfa : mg ("law" : Str) = some (.ref f)) (c : He.SaysD faL fnL K) :
    ∃ fd : FuncData, (∀ (s : Shared) (v : Value), BindsTo s fd ⟨[v], []⟩ [("script", v)]) ∧ ∀ base : Heap, K.In base → base.Ns mainGlobals mg → FnOk P w K mg base CX0 3 f fd ["script"] (spO K W_law) := by
  have T : Top faL fnL K mg := ⟨c, h, X, G⟩
  obtain ⟨fd, F⟩ := c.def_ 9 (d := d_law) rfl
  have e := hfa.symm.trans (T.glo 9 (x := "law"))
  cases e
  have b := FunD.bindsA (ps := ["script"]) F fun _ _ _ _ _ _ us hl => match us, hl with | [_], _ => rfl
  exact ⟨fd, fun s v => b s [v] rfl, fun base _ _ => ok_all T F⟩
end Om
open PySem PySem.W PySem.Calls PyProof.Rows
set_option maxRecDepth 100000 in
set_option maxHeartbeats 0 in
theorem PySem.Challenge.cw_inningsbook_k89_whole_long_tables_holds : PySem.Challenge.rw_inningsbook_k89_whole_long_tables.Holds := by
  w_on; o_law
  refine HandSHeadRun.head_any (r := Om.R) (q := view Om.R.prog [11]) (H := Om.hk) (ob := Om.ob) (M := 20000) (loose := (Om.names0)) (d := HandSHeadRun.topDef Om.R.prog 11) (kwd := []) Om.ob_eq
    (by kernel_rfl) (fun s => by kernel_rfl) Om.run_top (by kernel_rfl) (by kernel_rfl) (by kernel_rfl) (by rfl) (by first | assumption | decide +kernel) (by decide +kernel) ⟨rfl, rfl, rfl, rfl, rfl, by decide +kernel⟩ ?hw ?hc
  case hw => w_witness2
  case hc =>
    refine L2.walk_ofE (l := PySem.Challenge.rw_inningsbook_k89_whole_long_tables) (n := 63) (k := 3) (x := "script") (CX := L2.CX0) rfl (by decide) (by kernel_rfl) ⟨rfl, by decide, by decide⟩ ?F (fun _ _ _ _ z => z)
    intro w mg fa h Y G hmg0
    obtain ⟨K, KX, c⟩ := Y
    have hmg : mg ("law" : PySem.Str) = some (.ref fa) := by
      have e : (HandSHeadRun.topDef Om.R.prog 11).name = ("law" : PySem.Str) := by kernel_rfl
      rw [← e]
      exact hmg0
    obtain ⟨fd, hb, hF⟩ := Om.facts (P := Om.R.prog) (w := w) KX G hmg c
    exact ⟨K, fd, Om.spO K Om.W_law, KX, hb, fun H a ns hl _ hS => Om.law_true hl hS, hF⟩
