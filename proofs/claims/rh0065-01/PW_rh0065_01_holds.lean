import PyProof.Rows.All
import Wide.All
import OpenK.AllK
import Wide.FinOn
import Lean
import PySem.Challenge.RW_rh0065_01
open PySem PySem.W PyProof.Rows PySem.Calls
open PySem.Spec
set_option Elab.async false
set_option maxRecDepth 100000
set_option maxHeartbeats 8000000
set_option linter.all false
namespace Mine
section
/-- the statements of the text that the head looks at: all but the three rows that bind __name__ -/
def V : Program := view PySem.Challenge.rw_rh0065_01.row.prog [0, 2, 3, 4, 5, 6, 7, 9, 11, 12, 13, 14, 15, 16, 17]
/-- the looks at the law's text, one by one -/
theorem ws : PySem.Challenge.rw_rh0065_01.wellSaid = true := by
  delta OpenLaw.wellSaid
  repeat' (with_reducible refine look_both ?_ ?_)
  all_goals (try delta OpenRow.wellSaid)
  all_goals (repeat' (with_reducible refine look_both ?_ ?_))
  all_goals (try delta OpenRow.partSaid)
  all_goals (repeat' (with_reducible refine look_both ?_ ?_))
  all_goals (try delta looksOpen)
  all_goals (repeat' (with_reducible refine look_both ?_ ?_))
  all_goals decide +kernel
local macro_rules | `(tactic| o_law) => `(tactic| refine holds_law (l := PySem.Challenge.rw_rh0065_01) ws fun said => ?_)
local macro_rules | `(tactic| o_head $H) => `(tactic| (apply holds_open (r := PySem.Challenge.rw_rh0065_01.row) (q := V) (loose := []) (Xt := fun s => xlAt V [] s && recOk (RowW.records PySem.Challenge.rw_rh0065_01.row.toRowW) s) (XP := XL V []) (Yf := Hook.obs $H) (Ya := Hook.val $H) (YP := Hook.says $H) (N := 2260) (by intro w; kernel_rfl) (Hook.of $H) (Hook.keeps $H) (fun s e => xl_of s (Bool.and_eq_true_iff.mp e).1) XL.keeps (by rfl) (by rfl) (by rfl) (fun s e => recFacts_of (Bool.and_eq_true_iff.mp e).2) (by rfl) (by assumption) (by decide +kernel) ⟨rfl, rfl, rfl, rfl, rfl, by decide +kernel⟩))
open_top hd for PySem.Challenge.rw_rh0065_01

end
section
theorem offLawBase : True := by
  w_top off
  trivial
local macro_rules | `(tactic| walk_at "zz") => `(tactic| skip)

abbrev Led := List (Addr × Obj)
abbrev around (dp un : Nat) (gd : Option (List Code)) (env : Env) (outer : List Env) : Around :=
  { handled := none, depth := dp, frames := some (env :: outer), guards := gd, units := un }
/-- no address twice -/
def Nod (l : Led) : Prop := (l.map (·.1)).Nodup
abbrev Off (a : Addr) (l : Led) : Prop := ∀ p ∈ l, p.1 ≠ a
/-- no address of the first is one of the second -/
def Young (add old : Led) : Prop := ∀ p ∈ add, ∀ q ∈ old, q.1 ≠ p.1

/-- what a call of f does, from any frame: the ledger is what it may change, then what it leaves -/
def Does (w : World) (f : Addr) (args : List Value) (mu rest : Led) (dd uu : Nat) (Post : Value → Led → Led → Prop) : Prop :=
  ∀ (dp un : Nat) (gd : Option (List Code)) (env : Env) (outer : List Env) (A₀ : Around) (base h₀ : Heap) (L : Addr) (m : Str → Option Value) (s : Shared)
    (mean : ExcName → Option Value) (mg mb : Str → Option Value) (Q E : Value → Shared → Prop),
    PySem.Challenge.rw_rh0065_01 = PySem.Challenge.rw_rh0065_01 →
    Below A₀ base outer h₀ → Fr h₀ L s.heap m → (Mine.hd.heap_1 w.params).In h₀ → News h₀ L s.heap (mu ++ rest) → Nod (mu ++ rest) →
    Top Mine.V (looseW Mine.V []) mean mg mb h₀ → env.scope.kind = .function → env.frame = some L → dp + dd < recursionLimit → un + uu < cLine →
    (∀ r chg add h' tk', Fr h₀ L h' m → News h₀ L h' (chg ++ (add ++ rest)) → chg.map (·.1) = mu.map (·.1) → Young add (mu ++ rest) → Nod add → Post r chg add → Q r { s with heap := h', toks := tk' }) →
    wpAny (model PySem.Challenge.rw_rh0065_01.row.prog w) (around dp un gd env outer) (call (.ref f) args) Q E s

/-- the figures left to draw -/
def Figs (us : List Value) : Prop := ∃ ns : List Int, IntsAre us ns ∧ (∀ k ∈ ns, 0 ≤ k ∧ k < 997) ∧ ns.length ≤ 90

theorem Nod.cons {p : Addr × Obj} {l : Led} (h : Nod (p :: l)) : Off p.1 l ∧ Nod l := by
  unfold Nod at h
  rw [List.map_cons, List.nodup_cons] at h
  exact ⟨fun q hq e => h.1 (e ▸ List.mem_map_of_mem hq), h.2⟩
theorem Nod.of_cons {p : Addr × Obj} {l : Led} (h : Off p.1 l) (h2 : Nod l) : Nod (p :: l) := by
  unfold Nod
  rw [List.map_cons, List.nodup_cons]
  refine ⟨fun hm => ?_, h2⟩
  obtain ⟨q, hq, e⟩ := List.mem_map.mp hm
  exact h q hq e
theorem Nod.nil : Nod [] := List.nodup_nil
theorem Nod.one (p : Addr × Obj) : Nod [p] := Nod.of_cons (fun _ h => nomatch h) Nod.nil
theorem Nod.append {a b : Led} (ha : Nod a) (hb : Nod b) (h : ∀ p ∈ a, ∀ q ∈ b, p.1 ≠ q.1) : Nod (a ++ b) := by
  unfold Nod at *
  rw [List.map_append, List.nodup_append]
  refine ⟨ha, hb, ?_⟩
  intro x hx y hy e
  obtain ⟨p, hp, rfl⟩ := List.mem_map.mp hx
  obtain ⟨q, hq, rfl⟩ := List.mem_map.mp hy
  exact h p hp q hq e
theorem Nod.right {a b : Led} (h : Nod (a ++ b)) : Nod b := by
  unfold Nod at *
  rw [List.map_append, List.nodup_append] at h
  exact h.2.1
theorem Nod.left {a b : Led} (h : Nod (a ++ b)) : Nod a := by
  unfold Nod at *
  rw [List.map_append, List.nodup_append] at h
  exact h.1
theorem Nod.apart {a b : Led} (h : Nod (a ++ b)) : ∀ p ∈ a, ∀ q ∈ b, p.1 ≠ q.1 := by
  unfold Nod at *
  rw [List.map_append, List.nodup_append] at h
  exact fun p hp q hq => h.2.2 _ (List.mem_map_of_mem hp) _ (List.mem_map_of_mem hq)
theorem Nod.perm {a b : Led} (h : Nod a) (e : a.Perm b) : Nod b := by
  unfold Nod at *
  exact (e.map (·.1)).nodup_iff.mp h
/-- what a call leaves is told once again -/
theorem Nod.out {mu chg add rest : Led} (h : Nod (mu ++ rest)) (hc : chg.map (·.1) = mu.map (·.1)) (hy : Young add (mu ++ rest)) (ha : Nod add) : Nod (chg ++ (add ++ rest)) := by
  have hm : ∀ p ∈ chg, ∃ q ∈ mu, q.1 = p.1 := fun p hp => by
    have : p.1 ∈ mu.map (·.1) := hc ▸ List.mem_map_of_mem hp
    obtain ⟨q, hq, e⟩ := List.mem_map.mp this
    exact ⟨q, hq, e⟩
  have hcn : Nod chg := by unfold Nod; rw [hc]; exact h.left
  refine hcn.append (ha.append h.right fun p hp q hq e => ?_) fun p hp q hq e => ?_
  · exact hy p hp q (List.mem_append.mpr (.inr hq)) e.symm
  · obtain ⟨p', hp', e'⟩ := hm p hp
    rcases List.mem_append.mp hq with hq | hq
    · exact hy q hq p' (List.mem_append.mpr (.inl hp')) (e'.trans e)
    · exact h.apart p' hp' q hq (e'.trans e)
theorem Young.nil {old : Led} : Young [] old := fun _ h => nomatch h

theorem allLt_ne {d : Addr} : ∀ {l : Led}, AllLt d l → ∀ p ∈ l, p.1 ≠ d
  | [], _ => fun _ h => nomatch h
  | q :: l, h => fun p hp => by
    rcases List.mem_cons.mp hp with rfl | hp
    · exact Nat.ne_of_lt h.1
    · exact allLt_ne h.2 p hp
theorem allLt_lt {d : Addr} : ∀ {l : Led}, AllLt d l → ∀ p ∈ l, p.1 < d
  | [], _ => fun _ h => nomatch h
  | q :: l, h => fun p hp => by
    rcases List.mem_cons.mp hp with rfl | hp
    · exact h.1
    · exact allLt_lt h.2 p hp

/-- p's addresses are not a's -/
def Apart (a : Nat) : Led → Prop
  | [] => True
  | p :: r => @Ne Nat p.1 a ∧ Apart a r
def NodA : Led → Prop
  | [] => True
  | p :: r => Apart p.1 r ∧ NodA r
theorem Apart.off {a : Nat} : ∀ {l : Led}, Apart a l → ∀ p ∈ l, p.1 ≠ a
  | [], _ => fun _ h => nomatch h
  | q :: l, h => fun p hp => by
    rcases List.mem_cons.mp hp with rfl | hp
    · exact h.1
    · exact Apart.off h.2 p hp
theorem Apart.of {a : Nat} : ∀ {l : Led}, (∀ p ∈ l, p.1 ≠ a) → Apart a l
  | [], _ => trivial
  | q :: l, h => ⟨h q List.mem_cons_self, Apart.of fun p hp => h p (List.mem_cons_of_mem _ hp)⟩
theorem Apart.lt {a : Nat} {l : Led} (h : AllLt a l) : Apart a l := Apart.of (allLt_ne h)
theorem nodA : ∀ {l : Led}, Nod l ↔ NodA l
  | [] => ⟨fun _ => trivial, fun _ => Nod.nil⟩
  | p :: l => ⟨fun h => ⟨Apart.of h.cons.1, nodA.mp h.cons.2⟩, fun h => Nod.of_cons h.1.off (nodA.mpr h.2)⟩
theorem nodR {l : Led} (h : NodA l) : Nod l := nodA.mpr h

section
variable {w : World} {f : Addr} {args : List Value} {mu rest news : Led} {dd uu : Nat} {Post : Value → Led → Led → Prop} {dp un : Nat} {gd : Option (List Code)} {env : Env} {outer : List Env} {A₀ : Around} {base h₀ : Heap} {L : Addr} {m : Str → Option Value} {s : Shared}
    {mean : ExcName → Option Value} {mg mb : Str → Option Value} {Q E : Value → Shared → Prop}
theorem Does.use (D : Does w f args mu rest dd uu Post) (B : Below A₀ base outer h₀) (F : Fr h₀ L s.heap m) (X : (Mine.hd.heap_1 w.params).In h₀) (N : News h₀ L s.heap news) (hs : ∀ p ∈ mu ++ rest, p ∈ news) (hn : Nod (mu ++ rest))
    (T : Top Mine.V (looseW Mine.V []) mean mg mb h₀) (hk : env.scope.kind = .function) (hL : env.frame = some L) (hd : dp + dd < recursionLimit) (hu : un + uu < cLine)
    (hret : ∀ r chg add h' tk', Fr h₀ L h' m → News h₀ L h' (chg ++ (add ++ rest)) → Nod (chg ++ (add ++ rest)) → Young add (mu ++ rest) → Post r chg add → Q r { s with heap := h', toks := tk' }) :
    wpAny (model PySem.Challenge.rw_rh0065_01.row.prog w) (around dp un gd env outer) (call (.ref f) args) Q E s :=
  D _ _ _ _ _ _ _ _ _ _ _ _ _ _ _ _ rfl B F X (kst_newsOf N hs) hn T hk hL hd hu fun r chg add h' tk' F' N' hc hy ha hp => hret r chg add h' tk' F' N' (hn.out hc hy ha) hy hp
end

inductive Pick (p : Addr × Obj) : Led → Led → Prop
  | head {r : Led} : Pick p (p :: r) r
  | tail {q : Addr × Obj} {r r' : Led} : Pick p r r' → Pick p (q :: r) (q :: r')
theorem Pick.perm {p : Addr × Obj} {l r : Led} (h : Pick p l r) : l.Perm (p :: r) := by
  induction h with
  | head => exact List.Perm.refl _
  | tail _ ih => exact (List.Perm.cons _ ih).trans (List.Perm.swap _ _ _)
section
variable {w : World} {f : Addr} {args : List Value} {mu rest r1 r2 news : Led} {dd uu : Nat} {Post : Value → Led → Led → Prop} {dp un : Nat} {gd : Option (List Code)} {env : Env} {outer : List Env} {A₀ : Around} {base h₀ : Heap} {L : Addr} {m : Str → Option Value} {s : Shared}
    {mean : ExcName → Option Value} {mg mb : Str → Option Value} {Q E : Value → Shared → Prop} {p p2 p3 : Addr × Obj}
theorem Does.use0 (D : Does w f args [] news dd uu Post) (B : Below A₀ base outer h₀) (F : Fr h₀ L s.heap m) (X : (Mine.hd.heap_1 w.params).In h₀) (N : News h₀ L s.heap news) (hn : Nod news)
    (T : Top Mine.V (looseW Mine.V []) mean mg mb h₀) (hk : env.scope.kind = .function) (hL : env.frame = some L) (hd : dp + dd < recursionLimit) (hu : un + uu < cLine)
    (hret : ∀ r chg add h' tk', Fr h₀ L h' m → News h₀ L h' (chg ++ (add ++ news)) → Nod (chg ++ (add ++ news)) → Young add news → Post r chg add → Q r { s with heap := h', toks := tk' }) :
    wpAny (model PySem.Challenge.rw_rh0065_01.row.prog w) (around dp un gd env outer) (call (.ref f) args) Q E s :=
  D.use B F X N (fun _ h => h) hn T hk hL hd hu hret
theorem Does.use1 (D : Does w f args [p] rest dd uu Post) (P : Pick p news rest) (B : Below A₀ base outer h₀) (F : Fr h₀ L s.heap m) (X : (Mine.hd.heap_1 w.params).In h₀) (N : News h₀ L s.heap news) (hn : Nod news)
    (T : Top Mine.V (looseW Mine.V []) mean mg mb h₀) (hk : env.scope.kind = .function) (hL : env.frame = some L) (hd : dp + dd < recursionLimit) (hu : un + uu < cLine)
    (hret : ∀ r chg add h' tk', Fr h₀ L h' m → News h₀ L h' (chg ++ (add ++ rest)) → Nod (chg ++ (add ++ rest)) → Young add (p :: rest) → Post r chg add → Q r { s with heap := h', toks := tk' }) :
    wpAny (model PySem.Challenge.rw_rh0065_01.row.prog w) (around dp un gd env outer) (call (.ref f) args) Q E s :=
  D.use B F X N (fun _ h => P.perm.mem_iff.mpr h) (hn.perm P.perm) T hk hL hd hu hret
theorem Does.use3 (D : Does w f args [p, p2, p3] rest dd uu Post) (P : Pick p news r1) (P2 : Pick p2 r1 r2) (P3 : Pick p3 r2 rest) (B : Below A₀ base outer h₀) (F : Fr h₀ L s.heap m) (X : (Mine.hd.heap_1 w.params).In h₀) (N : News h₀ L s.heap news) (hn : Nod news)
    (T : Top Mine.V (looseW Mine.V []) mean mg mb h₀) (hk : env.scope.kind = .function) (hL : env.frame = some L) (hd : dp + dd < recursionLimit) (hu : un + uu < cLine)
    (hret : ∀ r chg add h' tk', Fr h₀ L h' m → News h₀ L h' (chg ++ (add ++ rest)) → Nod (chg ++ (add ++ rest)) → Young add (p :: p2 :: p3 :: rest) → Post r chg add → Q r { s with heap := h', toks := tk' }) :
    wpAny (model PySem.Challenge.rw_rh0065_01.row.prog w) (around dp un gd env outer) (call (.ref f) args) Q E s :=
  have hp : news.Perm (p :: p2 :: p3 :: rest) := P.perm.trans (.cons _ (P2.perm.trans (.cons _ P3.perm)))
  D.use B F X N (fun _ h => hp.mem_iff.mpr h) (hn.perm hp) T hk hL hd hu hret
end
theorem Young.cons {p : Addr × Obj} {r old : Led} (h : Apart p.1 old) (h2 : Young r old) : Young (p :: r) old := by
  intro q hq o ho
  rcases List.mem_cons.mp hq with rfl | hq
  · exact h.off o ho
  · exact h2 q hq o ho
theorem allLt_append {d : Addr} : ∀ {a b : Led}, AllLt d (a ++ b) ↔ AllLt d a ∧ AllLt d b
  | [], b => by simp [AllLt]
  | p :: a, b => by
    show (_ ∧ AllLt d (a ++ b)) ↔ (_ ∧ AllLt d a) ∧ AllLt d b
    rw [allLt_append, and_assoc]
theorem apart_append {d : Nat} : ∀ {a b : Led}, Apart d (a ++ b) ↔ Apart d a ∧ Apart d b
  | [], b => by simp [Apart]
  | p :: a, b => by
    show (_ ∧ Apart d (a ++ b)) ↔ (_ ∧ Apart d a) ∧ Apart d b
    rw [apart_append, and_assoc]
theorem nod_of_count {B T : Led} (h : Nod B) (hc : ∀ a : Nat, List.count a (T.map (·.1)) ≤ List.count a (B.map (·.1))) : Nod T := by
  unfold Nod at *
  rw [List.nodup_iff_count] at h ⊢
  exact fun a => Nat.le_trans (hc a) (h a)
theorem Young.append {a b old : Led} (h : Young a old) (h2 : Young b old) : Young (a ++ b) old := by
  intro q hq o ho
  rcases List.mem_append.mp hq with hq | hq
  · exact h q hq o ho
  · exact h2 q hq o ho
theorem Young.sub {a B old : Led} (h : Young a B) (hs : ∀ x ∈ old.map (·.1), x ∈ B.map (·.1)) : Young a old := by
  intro q hq o ho
  obtain ⟨o', ho', e⟩ := List.mem_map.mp (hs o.1 (List.mem_map_of_mem ho))
  rw [← e]
  exact h q hq o' ho'
theorem Young.apart {a old : Led} (h : Young a old) : ∀ p ∈ a, Apart p.1 old := fun p hp => Apart.of (h p hp)
theorem Young.trans {a b old : Led} (_h : Young a b) (h2 : Young a old) : Young a old := h2
theorem Young.off {a : Addr} {o : Obj} {add old : Led} (hy : Young add old) (hm : (a, o) ∈ old) : ∀ p ∈ add, p.1 ≠ a := fun p hp e => hy p hp _ hm e.symm
theorem led_tr {p : Addr × Obj} {l l' : Led} (h : p ∈ l) (hs : ∀ q ∈ l, q ∈ l') : p ∈ l' := hs p h
theorem AllLt.up {a : Nat} (k : Nat) : ∀ {l : Led}, AllLt a l → AllLt (a + k) l
  | [], _ => trivial
  | _ :: _, h => ⟨Nat.lt_of_lt_of_le h.1 (Nat.le_add_right _ _), AllLt.up k h.2⟩
theorem Apart.ltk {a : Nat} (k : Nat) {l : Led} (h : AllLt a l) : Apart (a + k) l := Apart.lt (AllLt.up k h)

end
section
theorem offLawPeel : True := by
  w_top off
  trivial
local macro_rules | `(tactic| walk_at "zz") => `(tactic| skip)
local macro_rules | `(tactic| walk_at "zz") => `(tactic| skip)
/-- a ledger's addresses, one by one or a row whole -/
abbrev Items := List (Sum Nat Led)
def Its : Items → Led → Prop
  | [], l => l = []
  | .inl a :: r, l => ∃ o l', l = (a, o) :: l' ∧ Its r l'
  | .inr s :: r, l => ∃ l', l = s ++ l' ∧ Its r l'
theorem it_nil : Its [] [] := rfl
theorem it_cons {a79 : Nat} {o79 : Obj} {l79 : Led} {is79 : Items} (h : Its is79 l79) : Its (.inl a79 :: is79) ((a79, o79) :: l79) := ⟨o79, l79, rfl, h⟩
theorem it_app {a79 l79 : Led} {is79 : Items} (h : Its is79 l79) : Its (.inr a79 :: is79) (a79 ++ l79) := ⟨l79, rfl, h⟩
theorem it_na {l79 : Led} {is79 : Items} (h : Its is79 l79) : Its is79 ([] ++ l79) := h
theorem it_ca {p79 : Addr × Obj} {a79 l79 : Led} {is79 : Items} (h : Its is79 (p79 :: (a79 ++ l79))) : Its is79 ((p79 :: a79) ++ l79) := h
theorem it_aa {a79 b79 l79 : Led} {is79 : Items} (h : Its is79 (a79 ++ (b79 ++ l79))) : Its is79 ((a79 ++ b79) ++ l79) := List.append_assoc a79 b79 l79 ▸ h
theorem it_last {l79 : Led} : Its [.inr l79] l79 := ⟨[], (List.append_nil l79).symm, rfl⟩
structure Past (G : Prop) : Prop where
  go : G
/-- the facts of one address against the rest, handed on one by one -/
@[reducible] def PRow (a : Nat) : Items → Prop → Prop
  | [], G => G
  | .inl q :: r, G => @Ne Nat q a → PRow a r G
  | .inr l :: r, G => Apart a l → PRow a r G
@[reducible] def PSeg (l : Led) : Items → Prop → Prop
  | [], G => G
  | .inl q :: r, G => Apart q l → PSeg l r G
  | .inr _ :: r, G => PSeg l r G
/-- the ledger's end, when no single address stands in it -/
@[reducible] def Suf : Items → Option Led
  | [] => none
  | [.inr l] => some l
  | .inr l :: x :: r => match Suf (x :: r) with
    | some y => some (l ++ y)
    | none => none
  | .inl _ :: _ => none
@[reducible] def SufG : Option Led → Prop → Prop
  | none, G => G
  | some x, G => NodA x → G
@[reducible] def PAll : Items → Prop → Prop
  | [], G => G
  | .inl p :: r, G => PRow p r (PAll r G)
  | .inr l :: r, G => SufG (Suf (.inr l :: r)) (PSeg l r (PAll r G))
@[reducible] def PLt (d : Addr) : Items → Prop → Prop
  | [], G => G
  | .inl q :: r, G => q < d → PLt d r G
  | .inr l :: r, G => AllLt d l → PLt d r G
theorem prow {a : Nat} : ∀ {is : Items} {l : Led} {G : Prop}, Its is l → Apart a l → PRow a is G → G
  | [], _, _, _, _, g => g
  | .inl _ :: _, _, _, ⟨_, _, rfl, i⟩, h, g => prow i h.2 (g h.1)
  | .inr _ :: _, _, _, ⟨_, rfl, i⟩, h, g => prow i (apart_append.mp h).2 (g (apart_append.mp h).1)
theorem pseg {s : Led} : ∀ {is : Items} {l : Led} {G : Prop}, Its is l → (∀ p ∈ s, ∀ q ∈ l, p.1 ≠ q.1) → PSeg s is G → G
  | [], _, _, _, _, g => g
  | .inl _ :: _, _, _, ⟨_, _, rfl, i⟩, h, g => pseg i (fun p hp q' hq => h p hp q' (List.mem_cons_of_mem _ hq)) (g (Apart.of fun p hp => h p hp _ List.mem_cons_self))
  | .inr _ :: _, _, _, ⟨_, rfl, i⟩, h, g => pseg i (fun p hp q' hq => h p hp q' (List.mem_append_right _ hq)) g
theorem suf_eq : ∀ {is : Items} {l x : Led}, Its is l → Suf is = some x → l = x
  | [], _, _, _, e => nomatch e
  | [.inr _], _, _, ⟨_, rfl, i⟩, e => by
    cases i; injection e with e; rw [List.append_nil]; exact e
  | .inr a :: y :: r, _, x, ⟨l', rfl, i⟩, e => by
    unfold Suf at e
    split at e
    · rename_i z hz
      injection e with e
      rw [← e, suf_eq i hz]
    · exact nomatch e
  | .inl _ :: _, _, _, _, e => nomatch e
theorem sufg {is : Items} {l : Led} {G : Prop} (i : Its is l) (h : Nod l) (g : SufG (Suf is) G) : G := by
  cases e : Suf is with
  | none => rw [e] at g; exact g
  | some x => rw [e] at g; exact g (suf_eq i e ▸ nodA.mp h)
theorem pall : ∀ {is : Items} {l : Led} {G : Prop}, Its is l → Nod l → PAll is G → G
  | [], _, _, _, _, g => g
  | .inl _ :: _, _, _, ⟨_, _, rfl, i⟩, h, g => pall i h.cons.2 (prow i (nodA.mp h).1 g)
  | .inr _ :: _, _, _, ⟨_, rfl, i⟩, h, g => pall i (Nod.right h) (pseg i (Nod.apart h) (sufg (it_app i) h g))
theorem plt {d : Addr} : ∀ {is : Items} {l : Led} {G : Prop}, Its is l → AllLt d l → PLt d is G → G
  | [], _, _, _, _, g => g
  | .inl _ :: _, _, _, ⟨_, _, rfl, i⟩, h, g => plt i h.2 (g h.1)
  | .inr _ :: _, _, _, ⟨_, rfl, i⟩, h, g => plt i (allLt_append.mp h).2 (g (allLt_append.mp h).1)
theorem peelN {l79 : Led} {is79 : Items} {G79 : Prop} (h : Nod l79) (i : Its is79 l79) (g : PAll is79 (Past G79)) : G79 := (pall i h g).go
theorem peelA {l79 : Led} {is79 : Items} {G79 : Prop} (h : NodA l79) (i : Its is79 l79) (g : PAll is79 (Past G79)) : G79 := (pall i (nodA.mpr h) g).go
theorem peelR {a79 : Nat} {l79 : Led} {is79 : Items} {G79 : Prop} (h : Apart a79 l79) (i : Its is79 l79) (g : PRow a79 is79 (Past G79)) : G79 := (prow i h g).go
theorem peelL {d79 : Addr} {l79 : Led} {is79 : Items} {G79 : Prop} (h : AllLt d79 l79) (i : Its is79 l79) (g : PLt d79 is79 (Past G79)) : G79 := (plt i h g).go
/-- a row may be made of rows -/
theorem its_app {a b : Led} {is : Items} {l : Led} (h : Its is (a ++ (b ++ l))) : Its is ((a ++ b) ++ l) := List.append_assoc a b l ▸ h
/-- room in depth and in steps -/
theorem room0 {d b c : Nat} (h : d + b < c) : d < c := Nat.lt_of_le_of_lt (Nat.le_add_right d b) h
theorem room1 {d a b c : Nat} (h : d + b < c) (hab : a ≤ b) : d + a < c := Nat.lt_of_le_of_lt (Nat.add_le_add_left hab d) h
theorem room2 {d a e b c : Nat} (h : d + b < c) (hab : a + e ≤ b) : d + a + e < c := Nat.add_assoc d a e ▸ room1 h hab
theorem room3 {d a e f b c : Nat} (h : d + b < c) (hab : a + e + f ≤ b) : d + a + e + f < c := Nat.add_assoc d a e ▸ room2 h hab
/-- the goal under a name of its own, while its premises are opened -/
theorem with_goal {G : Prop} (h : ∀ X : Prop, (G → X) → X) : G := h G id
/-- facts of a ledger, from its parts -/
theorem ap_nil {a79 : Nat} : Apart a79 [] := trivial
theorem ap_cons {a79 b79 : Nat} {o79 : Obj} {l79 : Led} (h : @Ne Nat b79 a79) (g : Apart a79 l79) : Apart a79 ((b79, o79) :: l79) := ⟨h, g⟩
theorem ap_app {a79 : Nat} {l79 r79 : Led} (h : Apart a79 l79) (g : Apart a79 r79) : Apart a79 (l79 ++ r79) := apart_append.mpr ⟨h, g⟩
theorem al_nil {a79 : Nat} : AllLt a79 [] := trivial
theorem al_cons {a79 b79 : Nat} {o79 : Obj} {l79 : Led} (h : b79 < a79) (g : AllLt a79 l79) : AllLt a79 ((b79, o79) :: l79) := ⟨h, g⟩
theorem al_app {a79 : Nat} {l79 r79 : Led} (h : AllLt a79 l79) (g : AllLt a79 r79) : AllLt a79 (l79 ++ r79) := allLt_append.mpr ⟨h, g⟩
theorem nd_lt {a79 : Nat} {o79 : Obj} {l79 : Led} (h : AllLt a79 l79) (g : Nod l79) : Nod ((a79, o79) :: l79) := Nod.of_cons (allLt_ne h) g
theorem nd_ap {a79 : Nat} {o79 : Obj} {l79 : Led} (h : Apart a79 l79) (g : Nod l79) : Nod ((a79, o79) :: l79) := Nod.of_cons h.off g
theorem nd_ca {p79 : Addr × Obj} {l79 r79 : Led} (h : Nod (p79 :: (l79 ++ r79))) : Nod ((p79 :: l79) ++ r79) := h
theorem nd_na {r79 : Led} (h : Nod r79) : Nod ([] ++ r79) := h
/-- what holds of all of a ledger -/
theorem fa_nil {l79 : Led} : ∀ q ∈ ([] : Led), q ∈ l79 := fun _ h => nomatch h
theorem fa_cons {p79 : Addr × Obj} {r79 l79 : Led} (h : p79 ∈ l79) (g : ∀ q ∈ r79, q ∈ l79) : ∀ q ∈ p79 :: r79, q ∈ l79 := List.forall_mem_cons.mpr ⟨h, g⟩
theorem fa_app {a79 r79 l79 : Led} (h : ∀ q ∈ a79, q ∈ l79) (g : ∀ q ∈ r79, q ∈ l79) : ∀ q ∈ a79 ++ r79, q ∈ l79 := List.forall_mem_append.mpr ⟨h, g⟩
theorem fn_nil {a79 : Addr} : ∀ q ∈ ([] : Led), q.1 ≠ a79 := fun _ h => nomatch h
theorem fn_cons {b79 a79 : Addr} {o79 : Obj} {r79 : Led} (h : b79 ≠ a79) (g : ∀ q ∈ r79, q.1 ≠ a79) : ∀ q ∈ (b79, o79) :: r79, q.1 ≠ a79 := List.forall_mem_cons.mpr ⟨h, g⟩
theorem fn_app {s79 r79 : Led} {a79 : Addr} (h : ∀ q ∈ s79, q.1 ≠ a79) (g : ∀ q ∈ r79, q.1 ≠ a79) : ∀ q ∈ s79 ++ r79, q.1 ≠ a79 := List.forall_mem_append.mpr ⟨h, g⟩
/-- small steps in place of the arithmetic -/
theorem om_ne1 (n k : Nat) : n ≠ n + k + 1 := Nat.ne_of_lt (Nat.lt_succ_of_le (Nat.le_add_right n k))
theorem om_ne2 (n k : Nat) : n + k + 1 ≠ n := (om_ne1 n k).symm
/-- a name for what is done after; a name for the count -/
theorem wp_fold {α : Type} {M : Model} {A : Around} {m : Sem α} {Q : α → Shared → Prop} {E : Value → Shared → Prop} {s : Shared} (h : let qk := Q; wpAny M A m qk E s) : wpAny M A m Q E s := h
theorem wp_toks {α : Type} {M : Model} {A : Around} {m : Sem α} {Q : α → Shared → Prop} {E : Value → Shared → Prop} {h g d t0 o} (H : ∀ t, wpAny M A m Q E (Shared.mk h g d t o)) : wpAny M A m Q E (Shared.mk h g d t0 o) := H t0
/-- what a frame keeps -/
theorem fr_nil {m : Str → Option Value} : ∀ p ∈ ([] : List (Str × Value)), m p.1 = some p.2 := fun _ h => nomatch h
theorem fr_cons {m : Str → Option Value} {n : Str} {v : Value} {l : List (Str × Value)} (h : m n = some v) (g : ∀ p ∈ l, m p.1 = some p.2) : ∀ p ∈ (n, v) :: l, m p.1 = some p.2 := List.forall_mem_cons.mpr ⟨h, g⟩
theorem kp_set {z n : Str} {i : Decidable (z = n)} {v r r0 : Option Value} (h : z ≠ n) (g : r = r0) : @ite _ (z = n) i v r = r0 := (if_neg h).trans g
theorem kp_st {b : Bool} {i : Decidable (b = true)} {v r r0 : Option Value} (h : b = false) (g : r = r0) : @ite _ (b = true) i v r = r0 := by subst h; exact (if_neg Bool.false_ne_true).trans g
theorem kp_same {m : Str → Option Value} {z n : Str} {i : Decidable (z = n)} {v : Value} {r : Option Value} (h : m n = some v) (g : r = m z) : @ite _ (z = n) i (some v) r = m z := by
  by_cases e : z = n
  · subst e; rw [if_pos rfl]; exact h.symm
  · exact (if_neg e).trans g
theorem kp_con {b : List Str} {z x : Str} (hz : b.contains z = false) (h : x ∈ b) : z ≠ x := by
  intro e
  subst e
  rw [List.contains_iff_mem.mpr h] at hz
  cases hz
theorem kp_sub {a b : List Str} {z : Str} (hz : b.contains z = false) (h : ∀ x ∈ a, x ∈ b) : a.contains z = false := by
  rw [Bool.eq_false_iff] at hz ⊢
  exact fun h2 => hz (List.contains_iff_mem.mpr (h _ (List.contains_iff_mem.mp h2)))
/-- taking apart, in one step -/
theorem ex_1.{u1} {α1 : Sort u1} {P : α1 → Prop} {G : Prop} (h : ∃ x1, P x1) (g : ∀ x1, P x1 → G) : G := Exists.elim h g
theorem ex_2.{u1, u2} {α1 : Sort u1} {α2 : Sort u2} {P : α1 → α2 → Prop} {G : Prop} (h : ∃ x1 x2, P x1 x2) (g : ∀ x1 x2, P x1 x2 → G) : G := Exists.elim h fun x1 h1 => ex_1 h1 (g x1)
theorem ex_3.{u1, u2, u3} {α1 : Sort u1} {α2 : Sort u2} {α3 : Sort u3} {P : α1 → α2 → α3 → Prop} {G : Prop} (h : ∃ x1 x2 x3, P x1 x2 x3) (g : ∀ x1 x2 x3, P x1 x2 x3 → G) : G := Exists.elim h fun x1 h1 => ex_2 h1 (g x1)
theorem ex_4.{u1, u2, u3, u4} {α1 : Sort u1} {α2 : Sort u2} {α3 : Sort u3} {α4 : Sort u4} {P : α1 → α2 → α3 → α4 → Prop} {G : Prop} (h : ∃ x1 x2 x3 x4, P x1 x2 x3 x4) (g : ∀ x1 x2 x3 x4, P x1 x2 x3 x4 → G) : G := Exists.elim h fun x1 h1 => ex_3 h1 (g x1)
theorem ex_5.{u1, u2, u3, u4, u5} {α1 : Sort u1} {α2 : Sort u2} {α3 : Sort u3} {α4 : Sort u4} {α5 : Sort u5} {P : α1 → α2 → α3 → α4 → α5 → Prop} {G : Prop} (h : ∃ x1 x2 x3 x4 x5, P x1 x2 x3 x4 x5) (g : ∀ x1 x2 x3 x4 x5, P x1 x2 x3 x4 x5 → G) : G := Exists.elim h fun x1 h1 => ex_4 h1 (g x1)
theorem ex_6.{u1, u2, u3, u4, u5, u6} {α1 : Sort u1} {α2 : Sort u2} {α3 : Sort u3} {α4 : Sort u4} {α5 : Sort u5} {α6 : Sort u6} {P : α1 → α2 → α3 → α4 → α5 → α6 → Prop} {G : Prop} (h : ∃ x1 x2 x3 x4 x5 x6, P x1 x2 x3 x4 x5 x6) (g : ∀ x1 x2 x3 x4 x5 x6, P x1 x2 x3 x4 x5 x6 → G) : G := Exists.elim h fun x1 h1 => ex_5 h1 (g x1)
theorem ex_7.{u1, u2, u3, u4, u5, u6, u7} {α1 : Sort u1} {α2 : Sort u2} {α3 : Sort u3} {α4 : Sort u4} {α5 : Sort u5} {α6 : Sort u6} {α7 : Sort u7} {P : α1 → α2 → α3 → α4 → α5 → α6 → α7 → Prop} {G : Prop} (h : ∃ x1 x2 x3 x4 x5 x6 x7, P x1 x2 x3 x4 x5 x6 x7) (g : ∀ x1 x2 x3 x4 x5 x6 x7, P x1 x2 x3 x4 x5 x6 x7 → G) : G := Exists.elim h fun x1 h1 => ex_6 h1 (g x1)
theorem ex_8.{u1, u2, u3, u4, u5, u6, u7, u8} {α1 : Sort u1} {α2 : Sort u2} {α3 : Sort u3} {α4 : Sort u4} {α5 : Sort u5} {α6 : Sort u6} {α7 : Sort u7} {α8 : Sort u8} {P : α1 → α2 → α3 → α4 → α5 → α6 → α7 → α8 → Prop} {G : Prop} (h : ∃ x1 x2 x3 x4 x5 x6 x7 x8, P x1 x2 x3 x4 x5 x6 x7 x8) (g : ∀ x1 x2 x3 x4 x5 x6 x7 x8, P x1 x2 x3 x4 x5 x6 x7 x8 → G) : G := Exists.elim h fun x1 h1 => ex_7 h1 (g x1)
theorem ex_9.{u1, u2, u3, u4, u5, u6, u7, u8, u9} {α1 : Sort u1} {α2 : Sort u2} {α3 : Sort u3} {α4 : Sort u4} {α5 : Sort u5} {α6 : Sort u6} {α7 : Sort u7} {α8 : Sort u8} {α9 : Sort u9} {P : α1 → α2 → α3 → α4 → α5 → α6 → α7 → α8 → α9 → Prop} {G : Prop} (h : ∃ x1 x2 x3 x4 x5 x6 x7 x8 x9, P x1 x2 x3 x4 x5 x6 x7 x8 x9) (g : ∀ x1 x2 x3 x4 x5 x6 x7 x8 x9, P x1 x2 x3 x4 x5 x6 x7 x8 x9 → G) : G := Exists.elim h fun x1 h1 => ex_8 h1 (g x1)
theorem ex_10.{u1, u2, u3, u4, u5, u6, u7, u8, u9, u10} {α1 : Sort u1} {α2 : Sort u2} {α3 : Sort u3} {α4 : Sort u4} {α5 : Sort u5} {α6 : Sort u6} {α7 : Sort u7} {α8 : Sort u8} {α9 : Sort u9} {α10 : Sort u10} {P : α1 → α2 → α3 → α4 → α5 → α6 → α7 → α8 → α9 → α10 → Prop} {G : Prop} (h : ∃ x1 x2 x3 x4 x5 x6 x7 x8 x9 x10, P x1 x2 x3 x4 x5 x6 x7 x8 x9 x10) (g : ∀ x1 x2 x3 x4 x5 x6 x7 x8 x9 x10, P x1 x2 x3 x4 x5 x6 x7 x8 x9 x10 → G) : G := Exists.elim h fun x1 h1 => ex_9 h1 (g x1)
theorem ex_11.{u1, u2, u3, u4, u5, u6, u7, u8, u9, u10, u11} {α1 : Sort u1} {α2 : Sort u2} {α3 : Sort u3} {α4 : Sort u4} {α5 : Sort u5} {α6 : Sort u6} {α7 : Sort u7} {α8 : Sort u8} {α9 : Sort u9} {α10 : Sort u10} {α11 : Sort u11} {P : α1 → α2 → α3 → α4 → α5 → α6 → α7 → α8 → α9 → α10 → α11 → Prop} {G : Prop} (h : ∃ x1 x2 x3 x4 x5 x6 x7 x8 x9 x10 x11, P x1 x2 x3 x4 x5 x6 x7 x8 x9 x10 x11) (g : ∀ x1 x2 x3 x4 x5 x6 x7 x8 x9 x10 x11, P x1 x2 x3 x4 x5 x6 x7 x8 x9 x10 x11 → G) : G := Exists.elim h fun x1 h1 => ex_10 h1 (g x1)
theorem ex_12.{u1, u2, u3, u4, u5, u6, u7, u8, u9, u10, u11, u12} {α1 : Sort u1} {α2 : Sort u2} {α3 : Sort u3} {α4 : Sort u4} {α5 : Sort u5} {α6 : Sort u6} {α7 : Sort u7} {α8 : Sort u8} {α9 : Sort u9} {α10 : Sort u10} {α11 : Sort u11} {α12 : Sort u12} {P : α1 → α2 → α3 → α4 → α5 → α6 → α7 → α8 → α9 → α10 → α11 → α12 → Prop} {G : Prop} (h : ∃ x1 x2 x3 x4 x5 x6 x7 x8 x9 x10 x11 x12, P x1 x2 x3 x4 x5 x6 x7 x8 x9 x10 x11 x12) (g : ∀ x1 x2 x3 x4 x5 x6 x7 x8 x9 x10 x11 x12, P x1 x2 x3 x4 x5 x6 x7 x8 x9 x10 x11 x12 → G) : G := Exists.elim h fun x1 h1 => ex_11 h1 (g x1)
theorem ex_13.{u1, u2, u3, u4, u5, u6, u7, u8, u9, u10, u11, u12, u13} {α1 : Sort u1} {α2 : Sort u2} {α3 : Sort u3} {α4 : Sort u4} {α5 : Sort u5} {α6 : Sort u6} {α7 : Sort u7} {α8 : Sort u8} {α9 : Sort u9} {α10 : Sort u10} {α11 : Sort u11} {α12 : Sort u12} {α13 : Sort u13} {P : α1 → α2 → α3 → α4 → α5 → α6 → α7 → α8 → α9 → α10 → α11 → α12 → α13 → Prop} {G : Prop} (h : ∃ x1 x2 x3 x4 x5 x6 x7 x8 x9 x10 x11 x12 x13, P x1 x2 x3 x4 x5 x6 x7 x8 x9 x10 x11 x12 x13) (g : ∀ x1 x2 x3 x4 x5 x6 x7 x8 x9 x10 x11 x12 x13, P x1 x2 x3 x4 x5 x6 x7 x8 x9 x10 x11 x12 x13 → G) : G := Exists.elim h fun x1 h1 => ex_12 h1 (g x1)
theorem ex_14.{u1, u2, u3, u4, u5, u6, u7, u8, u9, u10, u11, u12, u13, u14} {α1 : Sort u1} {α2 : Sort u2} {α3 : Sort u3} {α4 : Sort u4} {α5 : Sort u5} {α6 : Sort u6} {α7 : Sort u7} {α8 : Sort u8} {α9 : Sort u9} {α10 : Sort u10} {α11 : Sort u11} {α12 : Sort u12} {α13 : Sort u13} {α14 : Sort u14} {P : α1 → α2 → α3 → α4 → α5 → α6 → α7 → α8 → α9 → α10 → α11 → α12 → α13 → α14 → Prop} {G : Prop} (h : ∃ x1 x2 x3 x4 x5 x6 x7 x8 x9 x10 x11 x12 x13 x14, P x1 x2 x3 x4 x5 x6 x7 x8 x9 x10 x11 x12 x13 x14) (g : ∀ x1 x2 x3 x4 x5 x6 x7 x8 x9 x10 x11 x12 x13 x14, P x1 x2 x3 x4 x5 x6 x7 x8 x9 x10 x11 x12 x13 x14 → G) : G := Exists.elim h fun x1 h1 => ex_13 h1 (g x1)
theorem ex_15.{u1, u2, u3, u4, u5, u6, u7, u8, u9, u10, u11, u12, u13, u14, u15} {α1 : Sort u1} {α2 : Sort u2} {α3 : Sort u3} {α4 : Sort u4} {α5 : Sort u5} {α6 : Sort u6} {α7 : Sort u7} {α8 : Sort u8} {α9 : Sort u9} {α10 : Sort u10} {α11 : Sort u11} {α12 : Sort u12} {α13 : Sort u13} {α14 : Sort u14} {α15 : Sort u15} {P : α1 → α2 → α3 → α4 → α5 → α6 → α7 → α8 → α9 → α10 → α11 → α12 → α13 → α14 → α15 → Prop} {G : Prop} (h : ∃ x1 x2 x3 x4 x5 x6 x7 x8 x9 x10 x11 x12 x13 x14 x15, P x1 x2 x3 x4 x5 x6 x7 x8 x9 x10 x11 x12 x13 x14 x15) (g : ∀ x1 x2 x3 x4 x5 x6 x7 x8 x9 x10 x11 x12 x13 x14 x15, P x1 x2 x3 x4 x5 x6 x7 x8 x9 x10 x11 x12 x13 x14 x15 → G) : G := Exists.elim h fun x1 h1 => ex_14 h1 (g x1)
theorem ex_16.{u1, u2, u3, u4, u5, u6, u7, u8, u9, u10, u11, u12, u13, u14, u15, u16} {α1 : Sort u1} {α2 : Sort u2} {α3 : Sort u3} {α4 : Sort u4} {α5 : Sort u5} {α6 : Sort u6} {α7 : Sort u7} {α8 : Sort u8} {α9 : Sort u9} {α10 : Sort u10} {α11 : Sort u11} {α12 : Sort u12} {α13 : Sort u13} {α14 : Sort u14} {α15 : Sort u15} {α16 : Sort u16} {P : α1 → α2 → α3 → α4 → α5 → α6 → α7 → α8 → α9 → α10 → α11 → α12 → α13 → α14 → α15 → α16 → Prop} {G : Prop} (h : ∃ x1 x2 x3 x4 x5 x6 x7 x8 x9 x10 x11 x12 x13 x14 x15 x16, P x1 x2 x3 x4 x5 x6 x7 x8 x9 x10 x11 x12 x13 x14 x15 x16) (g : ∀ x1 x2 x3 x4 x5 x6 x7 x8 x9 x10 x11 x12 x13 x14 x15 x16, P x1 x2 x3 x4 x5 x6 x7 x8 x9 x10 x11 x12 x13 x14 x15 x16 → G) : G := Exists.elim h fun x1 h1 => ex_15 h1 (g x1)
theorem ex_17.{u1, u2, u3, u4, u5, u6, u7, u8, u9, u10, u11, u12, u13, u14, u15, u16, u17} {α1 : Sort u1} {α2 : Sort u2} {α3 : Sort u3} {α4 : Sort u4} {α5 : Sort u5} {α6 : Sort u6} {α7 : Sort u7} {α8 : Sort u8} {α9 : Sort u9} {α10 : Sort u10} {α11 : Sort u11} {α12 : Sort u12} {α13 : Sort u13} {α14 : Sort u14} {α15 : Sort u15} {α16 : Sort u16} {α17 : Sort u17} {P : α1 → α2 → α3 → α4 → α5 → α6 → α7 → α8 → α9 → α10 → α11 → α12 → α13 → α14 → α15 → α16 → α17 → Prop} {G : Prop} (h : ∃ x1 x2 x3 x4 x5 x6 x7 x8 x9 x10 x11 x12 x13 x14 x15 x16 x17, P x1 x2 x3 x4 x5 x6 x7 x8 x9 x10 x11 x12 x13 x14 x15 x16 x17) (g : ∀ x1 x2 x3 x4 x5 x6 x7 x8 x9 x10 x11 x12 x13 x14 x15 x16 x17, P x1 x2 x3 x4 x5 x6 x7 x8 x9 x10 x11 x12 x13 x14 x15 x16 x17 → G) : G := Exists.elim h fun x1 h1 => ex_16 h1 (g x1)
theorem ex_18.{u1, u2, u3, u4, u5, u6, u7, u8, u9, u10, u11, u12, u13, u14, u15, u16, u17, u18} {α1 : Sort u1} {α2 : Sort u2} {α3 : Sort u3} {α4 : Sort u4} {α5 : Sort u5} {α6 : Sort u6} {α7 : Sort u7} {α8 : Sort u8} {α9 : Sort u9} {α10 : Sort u10} {α11 : Sort u11} {α12 : Sort u12} {α13 : Sort u13} {α14 : Sort u14} {α15 : Sort u15} {α16 : Sort u16} {α17 : Sort u17} {α18 : Sort u18} {P : α1 → α2 → α3 → α4 → α5 → α6 → α7 → α8 → α9 → α10 → α11 → α12 → α13 → α14 → α15 → α16 → α17 → α18 → Prop} {G : Prop} (h : ∃ x1 x2 x3 x4 x5 x6 x7 x8 x9 x10 x11 x12 x13 x14 x15 x16 x17 x18, P x1 x2 x3 x4 x5 x6 x7 x8 x9 x10 x11 x12 x13 x14 x15 x16 x17 x18) (g : ∀ x1 x2 x3 x4 x5 x6 x7 x8 x9 x10 x11 x12 x13 x14 x15 x16 x17 x18, P x1 x2 x3 x4 x5 x6 x7 x8 x9 x10 x11 x12 x13 x14 x15 x16 x17 x18 → G) : G := Exists.elim h fun x1 h1 => ex_17 h1 (g x1)
theorem ex_19.{u1, u2, u3, u4, u5, u6, u7, u8, u9, u10, u11, u12, u13, u14, u15, u16, u17, u18, u19} {α1 : Sort u1} {α2 : Sort u2} {α3 : Sort u3} {α4 : Sort u4} {α5 : Sort u5} {α6 : Sort u6} {α7 : Sort u7} {α8 : Sort u8} {α9 : Sort u9} {α10 : Sort u10} {α11 : Sort u11} {α12 : Sort u12} {α13 : Sort u13} {α14 : Sort u14} {α15 : Sort u15} {α16 : Sort u16} {α17 : Sort u17} {α18 : Sort u18} {α19 : Sort u19} {P : α1 → α2 → α3 → α4 → α5 → α6 → α7 → α8 → α9 → α10 → α11 → α12 → α13 → α14 → α15 → α16 → α17 → α18 → α19 → Prop} {G : Prop} (h : ∃ x1 x2 x3 x4 x5 x6 x7 x8 x9 x10 x11 x12 x13 x14 x15 x16 x17 x18 x19, P x1 x2 x3 x4 x5 x6 x7 x8 x9 x10 x11 x12 x13 x14 x15 x16 x17 x18 x19) (g : ∀ x1 x2 x3 x4 x5 x6 x7 x8 x9 x10 x11 x12 x13 x14 x15 x16 x17 x18 x19, P x1 x2 x3 x4 x5 x6 x7 x8 x9 x10 x11 x12 x13 x14 x15 x16 x17 x18 x19 → G) : G := Exists.elim h fun x1 h1 => ex_18 h1 (g x1)
theorem ex_20.{u1, u2, u3, u4, u5, u6, u7, u8, u9, u10, u11, u12, u13, u14, u15, u16, u17, u18, u19, u20} {α1 : Sort u1} {α2 : Sort u2} {α3 : Sort u3} {α4 : Sort u4} {α5 : Sort u5} {α6 : Sort u6} {α7 : Sort u7} {α8 : Sort u8} {α9 : Sort u9} {α10 : Sort u10} {α11 : Sort u11} {α12 : Sort u12} {α13 : Sort u13} {α14 : Sort u14} {α15 : Sort u15} {α16 : Sort u16} {α17 : Sort u17} {α18 : Sort u18} {α19 : Sort u19} {α20 : Sort u20} {P : α1 → α2 → α3 → α4 → α5 → α6 → α7 → α8 → α9 → α10 → α11 → α12 → α13 → α14 → α15 → α16 → α17 → α18 → α19 → α20 → Prop} {G : Prop} (h : ∃ x1 x2 x3 x4 x5 x6 x7 x8 x9 x10 x11 x12 x13 x14 x15 x16 x17 x18 x19 x20, P x1 x2 x3 x4 x5 x6 x7 x8 x9 x10 x11 x12 x13 x14 x15 x16 x17 x18 x19 x20) (g : ∀ x1 x2 x3 x4 x5 x6 x7 x8 x9 x10 x11 x12 x13 x14 x15 x16 x17 x18 x19 x20, P x1 x2 x3 x4 x5 x6 x7 x8 x9 x10 x11 x12 x13 x14 x15 x16 x17 x18 x19 x20 → G) : G := Exists.elim h fun x1 h1 => ex_19 h1 (g x1)
theorem an_2 {a1 a2 G : Prop} (h : a1 ∧ a2) (g : a1 → a2 → G) : G := g h.1 h.2
theorem an_3 {a1 a2 a3 G : Prop} (h : a1 ∧ a2 ∧ a3) (g : a1 → a2 → a3 → G) : G := an_2 h.2 (g h.1)
theorem an_4 {a1 a2 a3 a4 G : Prop} (h : a1 ∧ a2 ∧ a3 ∧ a4) (g : a1 → a2 → a3 → a4 → G) : G := an_3 h.2 (g h.1)
theorem an_5 {a1 a2 a3 a4 a5 G : Prop} (h : a1 ∧ a2 ∧ a3 ∧ a4 ∧ a5) (g : a1 → a2 → a3 → a4 → a5 → G) : G := an_4 h.2 (g h.1)
theorem an_6 {a1 a2 a3 a4 a5 a6 G : Prop} (h : a1 ∧ a2 ∧ a3 ∧ a4 ∧ a5 ∧ a6) (g : a1 → a2 → a3 → a4 → a5 → a6 → G) : G := an_5 h.2 (g h.1)
theorem an_7 {a1 a2 a3 a4 a5 a6 a7 G : Prop} (h : a1 ∧ a2 ∧ a3 ∧ a4 ∧ a5 ∧ a6 ∧ a7) (g : a1 → a2 → a3 → a4 → a5 → a6 → a7 → G) : G := an_6 h.2 (g h.1)
theorem an_8 {a1 a2 a3 a4 a5 a6 a7 a8 G : Prop} (h : a1 ∧ a2 ∧ a3 ∧ a4 ∧ a5 ∧ a6 ∧ a7 ∧ a8) (g : a1 → a2 → a3 → a4 → a5 → a6 → a7 → a8 → G) : G := an_7 h.2 (g h.1)
theorem an_9 {a1 a2 a3 a4 a5 a6 a7 a8 a9 G : Prop} (h : a1 ∧ a2 ∧ a3 ∧ a4 ∧ a5 ∧ a6 ∧ a7 ∧ a8 ∧ a9) (g : a1 → a2 → a3 → a4 → a5 → a6 → a7 → a8 → a9 → G) : G := an_8 h.2 (g h.1)
theorem an_10 {a1 a2 a3 a4 a5 a6 a7 a8 a9 a10 G : Prop} (h : a1 ∧ a2 ∧ a3 ∧ a4 ∧ a5 ∧ a6 ∧ a7 ∧ a8 ∧ a9 ∧ a10) (g : a1 → a2 → a3 → a4 → a5 → a6 → a7 → a8 → a9 → a10 → G) : G := an_9 h.2 (g h.1)
theorem an_11 {a1 a2 a3 a4 a5 a6 a7 a8 a9 a10 a11 G : Prop} (h : a1 ∧ a2 ∧ a3 ∧ a4 ∧ a5 ∧ a6 ∧ a7 ∧ a8 ∧ a9 ∧ a10 ∧ a11) (g : a1 → a2 → a3 → a4 → a5 → a6 → a7 → a8 → a9 → a10 → a11 → G) : G := an_10 h.2 (g h.1)
theorem an_12 {a1 a2 a3 a4 a5 a6 a7 a8 a9 a10 a11 a12 G : Prop} (h : a1 ∧ a2 ∧ a3 ∧ a4 ∧ a5 ∧ a6 ∧ a7 ∧ a8 ∧ a9 ∧ a10 ∧ a11 ∧ a12) (g : a1 → a2 → a3 → a4 → a5 → a6 → a7 → a8 → a9 → a10 → a11 → a12 → G) : G := an_11 h.2 (g h.1)
theorem an_13 {a1 a2 a3 a4 a5 a6 a7 a8 a9 a10 a11 a12 a13 G : Prop} (h : a1 ∧ a2 ∧ a3 ∧ a4 ∧ a5 ∧ a6 ∧ a7 ∧ a8 ∧ a9 ∧ a10 ∧ a11 ∧ a12 ∧ a13) (g : a1 → a2 → a3 → a4 → a5 → a6 → a7 → a8 → a9 → a10 → a11 → a12 → a13 → G) : G := an_12 h.2 (g h.1)
theorem an_14 {a1 a2 a3 a4 a5 a6 a7 a8 a9 a10 a11 a12 a13 a14 G : Prop} (h : a1 ∧ a2 ∧ a3 ∧ a4 ∧ a5 ∧ a6 ∧ a7 ∧ a8 ∧ a9 ∧ a10 ∧ a11 ∧ a12 ∧ a13 ∧ a14) (g : a1 → a2 → a3 → a4 → a5 → a6 → a7 → a8 → a9 → a10 → a11 → a12 → a13 → a14 → G) : G := an_13 h.2 (g h.1)
theorem an_15 {a1 a2 a3 a4 a5 a6 a7 a8 a9 a10 a11 a12 a13 a14 a15 G : Prop} (h : a1 ∧ a2 ∧ a3 ∧ a4 ∧ a5 ∧ a6 ∧ a7 ∧ a8 ∧ a9 ∧ a10 ∧ a11 ∧ a12 ∧ a13 ∧ a14 ∧ a15) (g : a1 → a2 → a3 → a4 → a5 → a6 → a7 → a8 → a9 → a10 → a11 → a12 → a13 → a14 → a15 → G) : G := an_14 h.2 (g h.1)

end
section
theorem offKeys : True := by
  w_top off
  trivial
local macro_rules | `(tactic| walk_at "zz") => `(tactic| skip)
local macro_rules | `(tactic| walk_at "zz") => `(tactic| skip)
local macro_rules | `(tactic| walk_at "zz") => `(tactic| skip)

inductive Key where
  | var
  | list
  | struct (n : Int)
  | const (k n : Int)
  deriving DecidableEq

def sVar : Str := Str.ofString "var"
def Key.dat : Key → Dat
  | .var => .tuple [.str (Str.ofString "var")]
  | .list => .tuple [.str (Str.ofString "list")]
  | .struct n => .tuple [.str (Str.ofString "struct"), .int n]
  | .const k n => .tuple [.str (Str.ofString "const"), .tuple [.int k, .int n]]

theorem ok_var : PyData.strOk (Str.ofString "var") = true := by decide +kernel
theorem ok_list : PyData.strOk (Str.ofString "list") = true := by decide +kernel
theorem ok_struct : PyData.strOk (Str.ofString "struct") = true := by decide +kernel
theorem ok_const : PyData.strOk (Str.ofString "const") = true := by decide +kernel
theorem Key.ok (k : Key) : kqdOk 8 k.dat = true := by
  cases k <;> simp [Key.dat, kqdOk, ok_var, ok_list, ok_struct, ok_const]
theorem ne_vl : Str.ofString "var" ≠ Str.ofString "list" := by decide +kernel
theorem ne_vs : Str.ofString "var" ≠ Str.ofString "struct" := by decide +kernel
theorem ne_vc : Str.ofString "var" ≠ Str.ofString "const" := by decide +kernel
theorem ne_ls : Str.ofString "list" ≠ Str.ofString "struct" := by decide +kernel
theorem ne_lc : Str.ofString "list" ≠ Str.ofString "const" := by decide +kernel
theorem ne_sc : Str.ofString "struct" ≠ Str.ofString "const" := by decide +kernel
theorem Key.dat_inj {k l : Key} : k.dat = l.dat ↔ k = l := by
  constructor
  · intro h
    cases k <;> cases l <;> simp_all [Key.dat, ne_vl, ne_vs, ne_vc, ne_ls, ne_lc, ne_sc, Ne.symm ne_vl, Ne.symm ne_vs, Ne.symm ne_vc, Ne.symm ne_ls, Ne.symm ne_lc, Ne.symm ne_sc]
  · rintro rfl; rfl

section
variable {prog : Program} {w : World} {A : Around} {E : Value → Shared → Prop} {s : Shared} {Q : Value → Shared → Prop} {a b : Value} {d e : Dat} {as bs : List Addr}
theorem shaped_of {d : Dat} (h : kqdOk 8 d = true) : SeqAt.shaped (kqdP d) = true := by
  have la := kqd_lay 8 d h
  unfold SeqAt.shaped; rw [la.1, Bool.true_and]; exact decide_eq_true (Nat.le_trans la.2 (by decide))
open Classical in
theorem eqv_dat (ha : kqdOk 8 d = true) (hb : kqdOk 8 e = true) : PyData.eqv (kqdP d) (kqdP e) = decide (d = e) := by
  have q := kqd_eqv 8 d e 8 ha hb
  by_cases hq : d = e
  · rw [decide_eq_true hq]; exact q.mpr hq
  · rw [decide_eq_false hq]; exact Bool.eq_false_iff.mpr fun x => hq (q.mp x)
open Classical in
theorem eq_dat (ra : Reads s.heap a (kqdP d) as) (rb : Reads s.heap b (kqdP e) bs) (ha : kqdOk 8 d = true) (hb : kqdOk 8 e = true) (hu : A.units + 64 < cLine)
    (h : Q (.bool (decide (d = e))) s) : wpAny (model prog w) A (compareOp .Eq a b) Q E s :=
  eq_dataH ra rb (shaped_of ha) (shaped_of hb) hu (by rw [eqv_dat ha hb]; exact h)
theorem eq_key {k l : Key} (ra : Reads s.heap a (kqdP k.dat) as) (rb : Reads s.heap b (kqdP l.dat) bs) (hu : A.units + 64 < cLine)
    (h : Q (.bool (decide (k = l))) s) : wpAny (model prog w) A (compareOp .Eq a b) Q E s := by
  classical
  refine eq_dat ra rb k.ok l.ok hu ?_
  have : decide (k.dat = l.dat) = decide (k = l) := by simp only [Key.dat_inj]
  rw [this]; exact h
end

/-- a key lies at v, in the ledger -/
abbrev KeyIn (l : Led) (v : Value) (k : Key) : Prop := DatIn l v k.dat
/-- a key lies at v, in the heap -/
def KeyAt (h : Heap) (v : Value) (k : Key) : Prop := ∃ as, Reads h v (kqdP k.dat) as
theorem KeyIn.at {h₀ h : Heap} {L : Addr} {l news : Led} {v : Value} {k : Key} (D : KeyIn l v k) (N : News h₀ L h news) (hs : ∀ p ∈ l, p ∈ news) : KeyAt h v k := kqd_in N 8 (D.mono hs) k.ok
theorem VAR_in (P : Params) (h : Heap) : PySem.Challenge.rw_rh0065_01 = PySem.Challenge.rw_rh0065_01 → (Mine.hd.heap_1 P).In h → KeyAt h (.ref 22) .var := by
  k_fill
  intro _ X
  refine ⟨_, Reads.tuple (X 22 _ (by k_is)) rfl rfl (ReadsAll.cons (Reads.str _ _) ReadsAll.nil)⟩
theorem eq_keyAt {prog : Program} {w : World} {A : Around} {E : Value → Shared → Prop} {s : Shared} {Q : Value → Shared → Prop} {a b : Value} {k l : Key} (ra : KeyAt s.heap a k) (rb : KeyAt s.heap b l) (hu : A.units + 64 < cLine)
    (h : Q (.bool (decide (k = l))) s) : wpAny (model prog w) A (compareOp .Eq a b) Q E s := by
  refine ex_1 (ra) ?_
  (try clear ra)
  intro _ ra
  refine ex_1 (rb) ?_
  (try clear rb)
  intro _ rb
  exact eq_key ra rb hu h

end
local macro_rules | `(tactic| kp_flats) => `(tactic| ((repeat (first | exact List.Mem.head _ | refine' List.Mem.tail _ ?_)); (all_goals (first | (refine' List.mem_append_left _ ?_; kp_flats) | (refine' List.mem_append_right _ ?_; kp_flats) | with_reducible_and_instances assumption | exact led_tr (by assumption) (by with_reducible_and_instances assumption)))))
local macro_rules | `(tactic| kat_tups) => `(tactic| (first | ((repeat (first | with_reducible assumption | exact Nod.nil | exact nodR (by with_reducible assumption) | (with_reducible refine nd_ca ?_) | (with_reducible refine nd_na ?_) | (with_reducible refine nd_lt (by ((repeat (first | with_reducible assumption | exact al_nil | (with_reducible refine al_cons (by with_reducible assumption) ?_) | (with_reducible refine al_app (by with_reducible assumption) ?_))); (first | done | fail "open"))) ?_) | (with_reducible refine nd_ap (by ((repeat (first | with_reducible assumption | exact ap_nil | exact Apart.lt (by with_reducible assumption) | exact Apart.ltk _ (by with_reducible assumption) | (with_reducible refine ap_cons (by first | with_reducible assumption | omega) ?_) | (with_reducible refine ap_app (by first | with_reducible assumption | exact Apart.lt (by with_reducible assumption) | exact Apart.ltk _ (by with_reducible assumption)) ?_))); (first | done | fail "open"))) ?_))); (first | done | fail "open")) | (refine nodA.mpr ?_; simp only [NodA, Apart, apart_append, and_true, true_and, and_assoc, List.cons_append, List.nil_append, List.append_assoc]; (all_goals ((repeat' apply And.intro) <;> first | assumption | omega | exact Apart.lt (by assumption) | exact Apart.ltk _ (by assumption))))))
local macro_rules | `(tactic| tlg_ne) => `(tactic| ((try simp only [units_in1, units_deeper, Around.mark_units, units_caller]); (try dsimp only [around]); first | exact room1 (by assumption) (by decide) | exact room2 (by assumption) (by decide) | exact room3 (by assumption) (by decide) | exact room0 (by assumption) | ((have hcL9 := cLine_is); omega)))
local macro_rules | `(tactic| allgen_close2_more) => `(tactic| first | exact Pick.head | (refine' Pick.tail ?pk; (case pk => allgen_close2_more)))
local macro_rules | `(tactic| kts_caughtN) => `(tactic| first | exact List.forall_mem_nil _ | (refine' fn_cons ?a ?b; (case a => k_ne); (case b => kts_caughtN)) | (refine' fn_app ?a ?b; (case a => kts_caughtN); (case b => kts_caughtN)) | (refine' List.forall_mem_cons.mpr ⟨?a, ?b⟩; (case a => k_ne); (case b => kts_caughtN)) | (refine' List.forall_mem_append.mpr ⟨?a, ?b⟩; (case a => kts_caughtN); (case b => kts_caughtN)) | exact Apart.off (by with_reducible assumption) | exact allLt_ne (by with_reducible assumption) | with_reducible assumption | exact Apart.off (Apart.ltk _ (by with_reducible assumption)) | exact Young.off (by with_reducible assumption) (by kp_flats))
local macro_rules | `(tactic| k_mem) => `(tactic| kp_flats)
local macro_rules | `(tactic| k_ne) => `(tactic| first | with_reducible assumption | (refine Ne.symm ?_; with_reducible assumption))
local macro_rules | `(tactic| k_all) => `(tactic| kts_caughtN)
local macro_rules | `(tactic| ktr_room) => `(tactic| ((try simp only [depth_under_make, depth_under_kw, depth_in1, depth_deeper, depth_caller]); (try dsimp only [around]); first | exact room1 (by assumption) (by decide) | exact room2 (by assumption) (by decide) | exact room3 (by assumption) (by decide) | exact room0 (by assumption)))
local macro_rules | `(tactic| walk_at "execs cons") => `(tactic| (refine wpAny_execs_cons ?_; refine wp_fold ?_; intro qk))
local macro_rules | `(tactic| k_lt $h:ident) => `(tactic| (replace $h := allLt_of $h; ((first | refine peelL $h (by with_reducible ((repeat (first | exact it_nil | (apply it_na) | (apply it_ca) | (apply it_aa) | (apply it_cons) | (apply it_app))); (try exact it_last))) ?_); (repeat (intro hq9)); refine Past.mk ?_)))

section
local macro_rules | `(tactic| omega) => `(tactic| first | with_reducible assumption | exact Nat.le_of_lt (by with_reducible assumption) | exact Nat.le_trans (by with_reducible assumption) (by decide) | exact Nat.lt_of_lt_of_le (by with_reducible assumption) (by decide) | exact Nat.lt_of_le_of_lt (by with_reducible assumption) (by decide) | exact Nat.le_trans (Nat.le_of_lt (by with_reducible assumption)) (by decide) | exact Nat.ne_of_lt (by with_reducible assumption) | exact Nat.ne_of_gt (by with_reducible assumption) | exact om_ne1 _ 0 | exact om_ne1 _ 1 | exact om_ne1 _ 2 | exact om_ne1 _ 3 | exact om_ne1 _ 4 | exact om_ne2 _ 0 | exact om_ne2 _ 1 | exact om_ne2 _ 2 | exact om_ne2 _ 3 | exact om_ne2 _ 4 | lia)
section
theorem offDraw : True := by
  w_top off
  trivial

theorem draw_does (w : World) (fa : Addr) (us : List Value) (c : Nat) (n : Int) (t : Tok) (rest : Led) (hf : Figs us) (hn : 0 < n) (hn2 : n ≤ 16) :
    Does w 141 [.ref fa, .int n t] [(fa, listOf us.toArray c)] rest 4 100
      (fun r chg add => ∃ k t' us' c', r = .int k t' ∧ 0 ≤ k ∧ k < n ∧ chg = [(fa, listOf us'.toArray c')] ∧ Figs us' ∧ add = []) := by
  refine ex_1 (hf) ?_
  (try clear hf)
  intro ns q9o
  refine an_3 q9o ?_
  clear q9o
  intro hi hb hl
  have hlu : us.length ≤ 90 := by rw [hi.length]; exact hl
  unfold Does
  k_fill
  intro dp un gd env outer A₀ base h₀ L m s mean mg mb Q E _ B F X N hnod T hk hL hd hu hret
  try simp only [List.cons_append, List.nil_append] at N hnod
  ((first | refine peelA hnod (by with_reducible ((repeat (first | exact it_nil | (apply it_na) | (apply it_ca) | (apply it_aa) | (apply it_cons) | (apply it_app))); (try exact it_last))) ?_ | refine peelN hnod (by with_reducible ((repeat (first | exact it_nil | (apply it_na) | (apply it_ca) | (apply it_aa) | (apply it_cons) | (apply it_app))); (try exact it_last))) ?_ | refine peelR hnod (by with_reducible ((repeat (first | exact it_nil | (apply it_na) | (apply it_ca) | (apply it_aa) | (apply it_cons) | (apply it_app))); (try exact it_last))) ?_); (repeat (intro hq9)); refine Past.mk ?_)
  refine wpAny_call ?_
  have ho := hnod.cons.1
  k_dflt (refine' code_def ?k1 ?k2 ?k3 ?k4 ?k5 ?kA ?kF ?kK ?k6 ?k7 ?k8 ?k9 ?kB ?_ ?c2 ?c3 ?c4 ?c5; (case kA => exact rfl); (case kF => assumption); (case kK => assumption); (case k1 => k_asm); (case k2 => k_asm); (case k3 => k_asm); (case k4 => k_asm); (case k5 => k_asm); (case k6 => k_is); (case k7 => k_is); (case k8 => ktr_room); (case k9 => exact BindsTo.of_eq rfl); (case c5 => decide); (case kB => exact locs rfl); (case c2 => exact rfl); (case c3 => exact rfl); (case c4 => exact rfl); k_whole; intro g' L' h' FG' F' N' B' X' T'; (try refine wp_toks fun tk9 => ?_); (try dsimp only); (try k_fold))
  k_steps
  · exact hret _ ([(fa, listOf us.toArray c)]) ([]) _ _ (by assumption) (kst_newsOf (by assumption) (by k_sub)) rfl Young.nil Nod.nil (⟨0, _, us, c, rfl, by omega, hn, rfl, ⟨ns, hi, hb, hl⟩, rfl⟩)
  · have hne : ns ≠ [] := by rename decide _ = false => h9; simpa using h9
    have hpos : 0 < us.length := by rw [hi.length]; exact List.length_pos_iff.mpr hne
    k_steps
    have h1 : 0 ≤ (ns.getLastD 0).fmod n := Int.fmod_nonneg_of_pos _ hn
    have h2 : (ns.getLastD 0).fmod n < n := Int.fmod_lt_of_pos _ hn
    exact hret _ ([(fa, listOf us.dropLast.toArray (c + 1))]) ([]) _ _ (by assumption) (kst_newsOf (by assumption) (by k_sub)) rfl Young.nil Nod.nil (⟨_, _, us.dropLast, c + 1, rfl, h1, h2, rfl, ⟨ns.dropLast, by assumption, fun k hk' => hb k (List.dropLast_subset _ hk'), by rw [List.length_dropLast]; omega⟩, rfl⟩)

end
section
theorem offDrawU : True := by
  w_top off
  trivial
local macro_rules | `(tactic| walk_at "zz") => `(tactic| skip)
/-- a draw, its end handed on -/
theorem draw_use {w : World} {fa : Addr} {us : List Value} {c : Nat} {n : Int} {t : Tok} {rest news : Led} {dp un : Nat} {gd : Option (List PySem.Code)} {env : Env} {outer : List Env} {A₀ : Around} {base h₀ : Heap} {L : Addr} {m : Str → Option Value} {s : Shared}
    {mean : ExcName → Option Value} {mg mb : Str → Option Value} {Q E : Value → Shared → Prop} (hf : Figs us) (ha : 0 < n) (hb : n ≤ 16) (P : Pick (fa, listOf us.toArray c) news rest)
    (B : Below A₀ base outer h₀) (F : Fr h₀ L s.heap m) (X : (Mine.hd.heap_1 w.params).In h₀) (N : News h₀ L s.heap news) (hn : Nod news)
    (T : Top Mine.V (looseW Mine.V []) mean mg mb h₀) (hk : env.scope.kind = .function) (hL : env.frame = some L) (hd : dp + 4 < recursionLimit) (hu : un + 100 < cLine)
    (hret : ∀ k t' us' c' h' tk', 0 ≤ k → k < n → Figs us' → Fr h₀ L h' m → News h₀ L h' ((fa, listOf us'.toArray c') :: rest) → Nod ((fa, listOf us'.toArray c') :: rest) → Q (.int k t') { s with heap := h', toks := tk' }) :
    wpAny (model PySem.Challenge.rw_rh0065_01.row.prog w) (around dp un gd env outer) (call (.ref 141) [.ref fa, .int n t]) Q E s := by
  refine Does.use1 (draw_does w fa us c n t rest hf ha hb) P B F X N hn T hk hL hd hu ?_
  rintro r chg add h' tk' F' N' nod' - ⟨k', t', us', c', rfl, h0', h1', rfl, hf', rfl⟩
  exact hret k' t' us' c' h' tk' h0' h1' hf' F' N' nod'

end
section
theorem offMatching : True := by
  w_top off
  trivial
local macro_rules | `(tactic| walk_at "zz") => `(tactic| skip)

local macro_rules | `(tactic| walk_at "compareOp Eq ref ref") => `(tactic| (k_here; (with_reducible show wpAny _ _ (compareOp CmpOp.Eq (Value.ref _) (Value.ref _)) _ _ _); k_dflt (refine eq_keyAt (by (first | exact KeyIn.at (by assumption) (by k_asm) (by k_sub) | exact VAR_in _ _ rfl (by k_in) | assumption)) (by (first | exact KeyIn.at (by assumption) (by k_asm) (by k_sub) | exact VAR_in _ _ rfl (by k_in) | assumption)) (by (first | exact room1 (by assumption) (by decide) | exact room2 (by assumption) (by decide) | exact room3 (by assumption) (by decide) | exact room0 (by assumption) | ke_room | ((try simp only [units_in1, units_deeper, Around.mark_units, units_caller]); (try dsimp only [around]); omega))) ?_)))

theorem matching_does (w : World) (a b : Addr) (k l : Key) (rest : Led) (ha : KeyIn rest (.ref a) k) (hb : KeyIn rest (.ref b) l) :
    Does w 29 [.ref a, .ref b] [] rest 4 200
      (fun r chg add => r = .bool (decide (k = .var ∨ l = .var ∨ k = l)) ∧ chg = [] ∧ add = []) := by
  unfold Does
  k_fill
  intro dp un gd env outer A₀ base h₀ L m s mean mg mb Q E _ B F X N hnod T hk hL hd hu hret
  try simp only [List.cons_append, List.nil_append] at N hnod
  ((first | refine peelA hnod (by with_reducible ((repeat (first | exact it_nil | (apply it_na) | (apply it_ca) | (apply it_aa) | (apply it_cons) | (apply it_app))); (try exact it_last))) ?_ | refine peelN hnod (by with_reducible ((repeat (first | exact it_nil | (apply it_na) | (apply it_ca) | (apply it_aa) | (apply it_cons) | (apply it_app))); (try exact it_last))) ?_ | refine peelR hnod (by with_reducible ((repeat (first | exact it_nil | (apply it_na) | (apply it_ca) | (apply it_aa) | (apply it_cons) | (apply it_app))); (try exact it_last))) ?_); (repeat (intro hq9)); refine Past.mk ?_)
  refine wpAny_call ?_
  k_dflt (refine' code_def ?k1 ?k2 ?k3 ?k4 ?k5 ?kA ?kF ?kK ?k6 ?k7 ?k8 ?k9 ?kB ?_ ?c2 ?c3 ?c4 ?c5; (case kA => exact rfl); (case kF => assumption); (case kK => assumption); (case k1 => k_asm); (case k2 => k_asm); (case k3 => k_asm); (case k4 => k_asm); (case k5 => k_asm); (case k6 => k_is); (case k7 => k_is); (case k8 => ktr_room); (case k9 => exact BindsTo.of_eq rfl); (case c5 => decide); (case kB => exact locs rfl); (case c2 => exact rfl); (case c3 => exact rfl); (case c4 => exact rfl); k_whole; intro g' L' h' FG' F' N' B' X' T'; (try refine wp_toks fun tk9 => ?_); (try dsimp only); (try k_fold))
  k_steps
  · exact hret _ ([]) ([]) _ _ (by assumption) (kst_newsOf (by assumption) (by k_sub)) rfl Young.nil Nod.nil (⟨by simp_all, rfl, rfl⟩)
  · exact hret _ ([]) ([]) _ _ (by assumption) (kst_newsOf (by assumption) (by k_sub)) rfl Young.nil Nod.nil (⟨by simp_all, rfl, rfl⟩)
  · exact hret _ ([]) ([]) _ _ (by assumption) (kst_newsOf (by assumption) (by k_sub)) rfl Young.nil Nod.nil (⟨by simp_all, rfl, rfl⟩)

end
section
theorem offFresh : True := by
  w_top off
  trivial
local macro_rules | `(tactic| walk_at "zz") => `(tactic| skip)
local macro_rules | `(tactic| walk_at "zz") => `(tactic| skip)
local macro_rules | `(tactic| walk_at "zz") => `(tactic| skip)

/-- hashes and names' marks of a builder's dict -/
structure BTok where
  (h1 h2 h3 h4 h5 h6 : Int)
  (t1 t2 t3 t4 t5 t6 : Tok)

/-- a builder's dict -/
abbrev bDict (x : BTok) (ar : Int) (ta : Tok) (co ro ch kn : Addr) (nl : Int) (tn : Tok) : Obj :=
  dictOf [⟨x.h1, .str (Str.ofString "arity") x.t1, .int ar ta⟩, ⟨x.h2, .str (Str.ofString "codes") x.t2, .ref co⟩, ⟨x.h3, .str (Str.ofString "rows") x.t3, .ref ro⟩,
    ⟨x.h4, .str (Str.ofString "chains") x.t4, .ref ch⟩, ⟨x.h5, .str (Str.ofString "known") x.t5, .ref kn⟩, ⟨x.h6, .str (Str.ofString "next_label") x.t6, .int nl tn⟩] 6

theorem fresh_does (w : World) (ba bd co ro ch kn : Addr) (x : BTok) (ar : Int) (ta : Tok) (nl : Int) (tn : Tok) (rest : Led) (hi : (ba, instObj 102 bd) ∈ rest) (hl : 0 ≤ nl ∧ nl ≤ 1000) :
    Does w 50 [.ref ba] [(bd, bDict x ar ta co ro ch kn nl tn)] rest 4 100
      (fun r chg add => (∃ t, r = .int nl t) ∧ (∃ tn', chg = [(bd, bDict x ar ta co ro ch kn (nl + 1) tn')]) ∧ add = []) := by
  unfold Does
  k_fill
  intro dp un gd env outer A₀ base h₀ L m s mean mg mb Q E _ B F X N hnod T hk hL hd hu hret
  try simp only [List.cons_append, List.nil_append] at N hnod
  ((first | refine peelA hnod (by with_reducible ((repeat (first | exact it_nil | (apply it_na) | (apply it_ca) | (apply it_aa) | (apply it_cons) | (apply it_app))); (try exact it_last))) ?_ | refine peelN hnod (by with_reducible ((repeat (first | exact it_nil | (apply it_na) | (apply it_ca) | (apply it_aa) | (apply it_cons) | (apply it_app))); (try exact it_last))) ?_ | refine peelR hnod (by with_reducible ((repeat (first | exact it_nil | (apply it_na) | (apply it_ca) | (apply it_aa) | (apply it_cons) | (apply it_app))); (try exact it_last))) ?_); (repeat (intro hq9)); refine Past.mk ?_)
  refine wpAny_call ?_
  have ho : Off bd rest := hnod.cons.1
  dsimp only [bDict] at N
  k_dflt (refine' code_def ?k1 ?k2 ?k3 ?k4 ?k5 ?kA ?kF ?kK ?k6 ?k7 ?k8 ?k9 ?kB ?_ ?c2 ?c3 ?c4 ?c5; (case kA => exact rfl); (case kF => assumption); (case kK => assumption); (case k1 => k_asm); (case k2 => k_asm); (case k3 => k_asm); (case k4 => k_asm); (case k5 => k_asm); (case k6 => k_is); (case k7 => k_is); (case k8 => ktr_room); (case k9 => exact BindsTo.of_eq rfl); (case c5 => decide); (case kB => exact locs rfl); (case c2 => exact rfl); (case c3 => exact rfl); (case c4 => exact rfl); k_whole; intro g' L' h' FG' F' N' B' X' T'; (try refine wp_toks fun tk9 => ?_); (try dsimp only); (try k_fold))
  k_steps
  rename News h₀ L _ _ => kN
  exact hret _ [(bd, bDict x ar ta co ro ch kn (nl + 1) _)] [] _ _ (by assumption) kN rfl Young.nil Nod.nil ⟨⟨_, rfl⟩, ⟨_, rfl⟩, rfl⟩

end
section
theorem offRules : True := by
  w_top off
  trivial

inductive All2 {α β : Type} (R : α → β → Prop) : List α → List β → Prop
  | nil : All2 R [] []
  | cons {a : α} {b : β} {as : List α} {bs : List β} : R a b → All2 R as bs → All2 R (a :: as) (b :: bs)
section
variable {α β : Type} {R S : α → β → Prop} {as as' : List α} {bs bs' : List β}
theorem All2.length (h : All2 R as bs) : as.length = bs.length := by
  induction h with
  | nil => rfl
  | cons _ _ ih => rw [List.length_cons, List.length_cons, ih]
theorem All2.mono (hs : ∀ a b, R a b → S a b) (h : All2 R as bs) : All2 S as bs := by
  induction h with
  | nil => exact .nil
  | cons h _ ih => exact .cons (hs _ _ h) ih
theorem All2.append (h : All2 R as bs) (h' : All2 R as' bs') : All2 R (as ++ as') (bs ++ bs') := by
  induction h with
  | nil => exact h'
  | cons h _ ih => exact .cons h ih
theorem All2.one {a : α} {b : β} (h : R a b) : All2 R [a] [b] := .cons h .nil
theorem All2.get (h : All2 R as bs) {i : Nat} {b : β} (hb : bs[i]? = some b) : ∃ a, as[i]? = some a ∧ R a b := by
  induction h generalizing i with
  | nil => cases hb
  | cons h _ ih =>
    cases i with
    | zero => cases hb; exact ⟨_, rfl, h⟩
    | succ i => exact ih hb
theorem All2.getL (h : All2 R as bs) {i : Nat} {a : α} (ha : as[i]? = some a) : ∃ b, bs[i]? = some b ∧ R a b := by
  induction h generalizing i with
  | nil => cases ha
  | cons h _ ih =>
    cases i with
    | zero => cases ha; exact ⟨_, rfl, h⟩
    | succ i => exact ih ha
end

abbrev PR : Program := PySem.Challenge.rw_rh0065_01.row.prog

section
variable {prog : Program} {w : World} {A : Around} {E : Value → Shared → Prop} {s : Shared} {h₀ : Heap} {L l : Addr} {news : Led} {m : Str → Option Value}

theorem item_led {value slice : PySem.Expr} {vs : List Value} {n : Nat} {k : Int} {u : Tok} {v : Value} {Q : Value → Shared → Prop} (N : News h₀ L s.heap news) (hm : (l, listOf vs.toArray n) ∈ news)
    (h0 : 0 ≤ k) (h1 : k < 2 ^ 63) (hx : vs[k.toNat]? = some v) (h : Q v s)
    (hs : subscripted slice false (.ref l) (.int k u) = operate [.ref l, .int k u] (getItem (.ref l) (.int k u)) := by with_unfolding_all rfl) :
    wpAny (model prog w) A (subscriptTail value slice (.ref l) (.int k u)) Q E s :=
  have hl : s.heap.IsList l vs.toArray := N.isList hm
  tail_any hl.typeIs slot_list_getitem.lookup (wpAny_getItem_list hl h0 h1 (by simpa using hx) h) hs
theorem len_led {us : List Value} {c k : Nat} {Q : Value → Shared → Prop} (N : News h₀ L s.heap news) (hm : (l, listOf us.toArray c) ∈ news) (e : us.length = k) (hfit : (k : Int) < 2 ^ 63)
    (h : Q (.int (k : Int) (s.toks + 1)) { s with toks := s.toks + 1 + 1 }) : wpAny (model prog w) A (call (.builtin "len") [.ref l]) Q E s := kst_len N hm e hfit h
theorem len0 : ([] : List Value).length = 0 := rfl
theorem len1 (a : Value) : [a].length = 1 := rfl
theorem len2 (a b : Value) (r : List Value) : (a :: b :: r).length = r.length + 2 := rfl

/-- a tuple of ints, as an object -/
def TupInts (ks : List Int) (o : Obj) : Prop := ∃ vs n, o = { cls := .type "tuple", data := .seq (List.toArray vs) n } ∧ IntsAre vs ks
theorem itemsAre_ints {vs : List Value} {ks : List Int} (h : IntsAre vs ks) : PySem.ItemsAre (PySem.intKind prog w) ks vs := by
  induction h with
  | nil => exact .nil
  | cons n t _ ih => exact .cons (intKind_is prog w n t) ih
theorem TupInts.key {ks : List Int} {o : Obj} (h : TupInts ks o) : TupKeyObj (PySem.intKind prog w) ks o := by
  refine with_goal fun X79 hX79 => ?_
  refine ex_2 (h) ?_
  (try clear h)
  intro vs n q9o
  refine an_2 q9o ?_
  clear q9o
  intro r9q
  subst r9q
  intro hi
  refine hX79 ?_
  exact ⟨rfl, _, _, rfl, by simpa using itemsAre_ints hi⟩
/-- a dict whose keys are tuples of ints that lie in the ledger, its values ints -/
def TD (prog : Program) (w : World) (l : Led) (o : Obj) (es : List (List Int × Int)) : Prop :=
  ∃ arr ep xs, o = ⟨.type "dict", none, .dict arr ep, #[]⟩ ∧ arr.toList = xs.map (entryOfKey (tupleKind (PySem.intKind prog w))) ∧ (xs.map (·.1)).Nodup ∧
    (∀ x ∈ xs, ∃ ok, (x.2.1, ok) ∈ l ∧ TupInts x.1 ok) ∧ All2 (fun x e => x.1 = e.1 ∧ ∃ t, x.2.2 = Value.int e.2 t) xs es
def findE (es : List (List Int × Int)) (ps : List Int) : Option Int := (es.find? fun e => decide (e.1 = ps)).map (·.2)

theorem TD.mono {l l' : Led} {o : Obj} {es : List (List Int × Int)} (T : TD prog w l o es) (hs : ∀ p ∈ l, p ∈ l') : TD prog w l' o es := by
  refine ex_3 (T) ?_
  (try clear T)
  intro arr ep xs q9o
  refine an_5 q9o ?_
  clear q9o
  intro h1 h2 h3 h4 h5
  exact ⟨arr, ep, xs, h1, h2, h3, fun x hx => let ⟨ok, a, b⟩ := h4 x hx; ⟨ok, hs _ a, b⟩, h5⟩
theorem find_all2 {xs : List (List Int × Addr × Value)} {es : List (List Int × Int)} (h : All2 (fun x e => x.1 = e.1 ∧ ∃ t, x.2.2 = Value.int e.2 t) xs es) (k : List Int) :
    (atKey xs k = none ∧ findE es k = none) ∨ ∃ p i t, atKey xs k = some p ∧ findE es k = some i ∧ p.2 = Value.int i t := by
  induction h with
  | nil => exact .inl ⟨rfl, rfl⟩
  | @cons x e xs es hx _ ih =>
    refine an_2 (hx) ?_
    (try clear hx)
    intro h1 q9o
    refine ex_1 q9o ?_
    clear q9o
    intro t h2
    by_cases hk : x.1 = k
    · right
      refine ⟨x.2, e.2, t, ?_, ?_, h2⟩
      · simp [atKey, List.find?_cons, hk]
      · simp [findE, List.find?_cons, ← h1, hk]
    · have e1 : atKey (x :: xs) k = atKey xs k := by simp [atKey, List.find?_cons, hk]
      have e2 : findE (e :: es) k = findE es k := by simp [findE, List.find?_cons, ← h1, hk]
      rw [e1, e2]; exact ih
theorem TD.dict {l : Led} {o : Obj} {es : List (List Int × Int)} {d : Addr} (T : TD prog w l o es) (N : News h₀ L s.heap news) (hm : (d, o) ∈ news) (hs : ∀ p ∈ l, p ∈ news) :
    ∃ xs, s.heap.DictOfH (tupleKind (PySem.intKind prog w)) d xs ∧ All2 (fun x e => x.1 = e.1 ∧ ∃ t, x.2.2 = Value.int e.2 t) xs es := by
  refine with_goal fun X79 hX79 => ?_
  refine ex_3 (T) ?_
  (try clear T)
  intro arr ep xs q9o
  refine an_5 q9o ?_
  clear q9o
  intro r9q
  subst r9q
  intro h2
  intro h3
  intro h4
  intro h5
  refine hX79 ?_
  exact ⟨xs, ⟨_, arr, ep, N.get hm, ⟨rfl, rfl, rfl⟩, rfl, h2, fun x hx => let ⟨ok, a, b⟩ := h4 x hx; b.key.key (N.get (hs _ a)), h3⟩, h5⟩

variable {l : Led} {o ok : Obj} {es : List (List Int × Int)} {d a : Addr} {ks : List Int}
theorem in_TD {Q : Value → Shared → Prop} (hu : A.units + 1 < cLine) (N : News h₀ L s.heap news) (T : TD prog w l o es) (hm : (d, o) ∈ news) (hs : ∀ p ∈ l, p ∈ news) (hd : (d == sysModules) = false) (ha : (a, ok) ∈ news) (hk : TupInts ks ok)
    (h : ∀ tk, Q (.bool (findE es ks).isSome) { s with toks := tk }) : wpAny (model prog w) A (compareOp .In (.ref a) (.ref d)) Q E s := by
  refine ex_1 (T.dict N hm hs) ?_
  intro xs q9o
  refine an_2 q9o ?_
  clear q9o
  intro D h5
  refine wpAny_in_heap (knd := tupleKind (PySem.intKind prog w)) (tupleKind_room_in1 hu) (hk.key.key (N.get ha)) hd D ?_
  rcases find_all2 h5 ks with ⟨e1, e2⟩ | ⟨p, i, t, e1, e2, _⟩
  · rw [e1]; have := h (s.toks + (tupleKind (PySem.intKind prog w)).draws ks); rw [e2] at this; exact this
  · rw [e1]; have := h (s.toks + (tupleKind (PySem.intKind prog w)).draws ks); rw [e2] at this; exact this
theorem get_TD {value slice : PySem.Expr} {Q : Value → Shared → Prop} {i : Int} (hu : A.units + 1 < cLine) (N : News h₀ L s.heap news) (T : TD prog w l o es) (hm : (d, o) ∈ news) (hs : ∀ p ∈ l, p ∈ news) (ha : (a, ok) ∈ news) (hk : TupInts ks ok)
    (hf : findE es ks = some i) (h : ∀ t tk, Q (.int i t) { s with toks := tk })
    (hsub : subscripted slice false (.ref d) (.ref a) = operate [.ref d, .ref a] (getItem (.ref d) (.ref a)) := by with_unfolding_all rfl) (hg : ∀ r, letTemporaryGo value (.ref d) r = pure () := by intro _; with_unfolding_all rfl) :
    wpAny (model prog w) A (subscriptTail value slice (.ref d) (.ref a)) Q E s := by
  refine ex_1 (T.dict N hm hs) ?_
  intro xs q9o
  refine an_2 q9o ?_
  clear q9o
  intro D h5
  rcases find_all2 h5 ks with ⟨e1, e2⟩ | ⟨p, i', t, e1, e2, e3⟩
  · rw [e2] at hf; cases hf
  · rw [e2] at hf; cases hf
    refine subscriptTail_builtin D.typeIs slot_dict_getitem.lookup (wpAny_getItem_heap (knd := tupleKind (PySem.intKind prog w)) (tupleKind_room_in1 hu) (hk.key.key (N.get ha)) D e1 ?_) hsub hg
    rw [e3]; exact h _ _
theorem set_TD {Q : Unit → Shared → Prop} {i : Int} {t : Tok} {news' : Obj → Led} (hu : A.units + 1 < cLine) (F : Fr h₀ L s.heap m) (N : News h₀ L s.heap news) (T : TD prog w l o es) (U : UpdF d o news news') (hs : ∀ p ∈ l, p ∈ news) (ha : (a, ok) ∈ l) (hk : TupInts ks ok)
    (hf : findE es ks = none) (hsz : es.length ≤ sizeLine) (h : ∀ h' o' tk, Fr h₀ L h' m → News h₀ L h' (news' o') → TD prog w l o' (es ++ [(ks, i)]) → Q () { s with heap := h', toks := tk }) :
    wpAny (model prog w) A (setItem (.ref d) (.ref a) (.int i t)) Q E s := by
  refine with_goal fun X79 hX79 => ?_
  refine ex_2 (U.split) ?_
  intro pre post q9o
  refine an_4 q9o ?_
  clear q9o
  intro r9q
  subst r9q
  intro hg
  intro q1
  intro q2
  refine hX79 ?_
  have hm : (d, o) ∈ pre ++ (d, o) :: post := List.mem_append_right _ (.head _)
  have hne : d ≠ L := (N _ hm).2.1
  refine ex_1 (T.dict N hm hs) ?_
  intro xs q9o
  refine an_2 q9o ?_
  clear q9o
  intro D h5
  refine with_goal fun X79 hX79 => ?_
  refine ex_3 (T) ?_
  (try clear T)
  intro arr ep xs0 q9o
  refine an_5 q9o ?_
  clear q9o
  intro r9q
  subst r9q
  intro h2
  intro h3
  intro h4
  intro h5'
  refine hX79 ?_
  rcases find_all2 h5 ks with ⟨e1, e2⟩ | ⟨p, i', t', e1, e2, e3⟩
  · refine wpAny_setItem_heap (knd := tupleKind (PySem.intKind prog w)) (hsz := by rw [h5.length]; exact hsz) (tupleKind_room_in1 hu) (hk.key.key (N.get (hs _ ha))) D fun h' D' S' => ?_
    rw [storedH_new e1] at D'
    refine ex_3 (D') ?_
    (try clear D')
    intro o' arr' ep' q9o
    refine an_6 q9o ?_
    clear q9o
    intro ho' hx' hd' ha' hkk' hn'
    refine with_goal fun X79 hX79 => ?_
    obtain ⟨oc, od, oda, osl⟩ := o'
    refine hX79 ?_
    refine with_goal fun X79 hX79 => ?_
    refine an_3 (hx') ?_
    (try clear hx')
    intro r9q
    subst r9q
    intro r9q
    subst r9q
    intro r9q
    subst r9q
    refine hX79 ?_
    dsimp only at hd'
    subst hd'
    refine h h' _ _ (F.change S' hne (N _ hm).2.2) (hg _ ▸ N.setIn q1 q2 S' ho') ⟨arr', ep', _, rfl, ha', hn', ?_, h5.append (.one ⟨rfl, t, rfl⟩)⟩
    intro x hx
    rcases List.mem_append.mp hx with hx | hx
    · have : ∃ x0 ∈ xs0, x0.1 = x.1 ∧ x0.2.1 = x.2.1 := by
        refine ex_3 (D) ?_
        (try clear D)
        intro o2 arr2 ep2 q9o
        refine an_6 q9o ?_
        clear q9o
        intro ho2 _ hd2 ha2 _ _
        have e := N.get hm
        rw [ho2] at e
        cases e
        cases hd2
        have : xs.map (entryOfKey (tupleKind (PySem.intKind prog w))) = xs0.map (entryOfKey (tupleKind (PySem.intKind prog w))) := ha2.symm.trans h2
        have hl := h5.length
        have hl' := h5'.length
        refine ex_1 (List.mem_iff_getElem?.mp hx) ?_
        intro j hj
        have hj0 : (xs.map (entryOfKey (tupleKind (PySem.intKind prog w))))[j]? = some (entryOfKey (tupleKind (PySem.intKind prog w)) x) := by rw [List.getElem?_map, hj]; rfl
        rw [this, List.getElem?_map] at hj0
        refine ex_1 (Option.map_eq_some_iff.mp hj0) ?_
        intro x0 q9o
        refine an_2 q9o ?_
        clear q9o
        intro hx0 hx1
        refine ex_1 (h5.getL hj) ?_
        intro eb q9o
        refine an_2 q9o ?_
        clear q9o
        intro hb1 hb2
        refine ex_1 (h5'.getL hx0) ?_
        intro eb' q9o
        refine an_2 q9o ?_
        clear q9o
        intro hb1' hb2'
        rw [hb1] at hb1'
        cases hb1'
        refine ⟨x0, List.mem_of_getElem? hx0, hb2'.1.trans hb2.1.symm, ?_⟩
        have := congrArg DictEntry.key hx1
        simpa [entryOfKey] using this
      refine ex_1 (this) ?_
      (try clear this)
      intro x0 q9o
      refine an_3 q9o ?_
      clear q9o
      intro hx0 e1' e2'
      refine ex_1 (h4 x0 hx0) ?_
      intro ok0 q9o
      refine an_2 q9o ?_
      clear q9o
      intro a0 b0
      exact ⟨ok0, e2' ▸ a0, e1' ▸ b0⟩
    · rw [List.mem_singleton] at hx
      subst hx
      exact ⟨ok, ha, hk⟩
  · rw [e2] at hf; cases hf
end

end
end
section
local macro_rules | `(tactic| omega) => `(tactic| first | with_reducible assumption | exact Nat.le_of_lt (by with_reducible assumption) | exact Nat.le_trans (by with_reducible assumption) (by decide) | exact Nat.lt_of_lt_of_le (by with_reducible assumption) (by decide) | exact Nat.lt_of_le_of_lt (by with_reducible assumption) (by decide) | exact Nat.le_trans (Nat.le_of_lt (by with_reducible assumption)) (by decide) | exact Nat.ne_of_lt (by with_reducible assumption) | exact Nat.ne_of_gt (by with_reducible assumption) | exact om_ne1 _ 0 | exact om_ne1 _ 1 | exact om_ne1 _ 2 | exact om_ne1 _ 3 | exact om_ne1 _ 4 | exact om_ne2 _ 0 | exact om_ne2 _ 1 | exact om_ne2 _ 2 | exact om_ne2 _ 3 | exact om_ne2 _ 4)
local macro_rules | `(tactic| walk_at "exec For") => `(tactic| (k_here; (with_reducible show wpAny _ _ (exec (Stmt.For (Expr.Name _ _) _ _ [] _) _) _ _ _); (rename Fr _ _ _ _ => lF'); (with_unfolding_all refine' For_invVF lF' ?k1 ?k2 ?_; (case k1 => exact rfl); (case k2 => exact rfl); k_whole)))
local macro_rules | `(tactic| walk_at "exec For Name Name cons nil") => `(tactic| (k_here; (with_reducible show wpAny _ _ (exec (Stmt.For (Expr.Name _ _) _ _ [] _) _) _ _ _); (rename Fr _ _ _ _ => lF'); (with_unfolding_all refine' For_invVF lF' ?k1 ?k2 ?_; (case k1 => exact rfl); (case k2 => exact rfl); k_whole)))
local macro_rules | `(tactic| walk_at "exec For Name Call cons nil") => `(tactic| (k_here; (with_reducible show wpAny _ _ (exec (Stmt.For (Expr.Name _ _) _ _ [] _) _) _ _ _); (rename Fr _ _ _ _ => lF'); (with_unfolding_all refine' For_invVF lF' ?k1 ?k2 ?_; (case k1 => exact rfl); (case k2 => exact rfl); k_whole)))
local macro_rules | `(tactic| walk_at "exec For Name Attribute cons nil") => `(tactic| (k_here; (with_reducible show wpAny _ _ (exec (Stmt.For (Expr.Name _ _) _ _ [] _) _) _ _ _); (rename Fr _ _ _ _ => lF'); (with_unfolding_all refine' For_invVF lF' ?k1 ?k2 ?_; (case k1 => exact rfl); (case k2 => exact rfl); k_whole)))
local macro_rules | `(tactic| walk_at "newTuple") => `(tactic| (k_here; k_dflt (refine' kup_newTuple ?F ?N ?_ ?z; (case F => k_asm); (case N => k_asm); (case z => ((try simp only [sizeLine_eq, List.length_cons, List.length_nil]); omega))); intro D' h' F' N' l1; (try k_lt l1); (try k_sweep)))
local macro_rules | `(tactic| walk_at "call builtin:list.append") => `(tactic| (k_here; (with_reducible show wpAny _ _ (call (Value.builtin _) [Value.ref _, _]) _ _ _); k_dflt (refine' append_K ?k1 ?k2 ?k3 ?_ ?z; (case k1 => k_asm); (case k2 => k_asm); (case k3 => k_upd); (case z => ((try simp only [List.size_toArray, List.length_append, List.length_cons, List.length_nil, sizeLine_eq]); omega)); k_whole); intro h' F' N'; (try simp only [List.push_toArray] at N'); (try k_sweep)))
local macro_rules | `(tactic| walk_at "subscriptTail") => `(tactic| (k_here; (with_reducible show wpAny _ _ (subscriptTail _ _ (Value.ref _) (Value.int _ _)) _ _ _); k_dflt (refine' item_led ?N ?m ?a ?b ?x ?_; (case N => k_asm); (case m => k_mem); (case a => first | decide | omega); (case b => first | decide | omega); (case x => first | rfl | assumption); k_whole)))
local macro_rules | `(tactic| walk_at "call builtin:len") => `(tactic| (k_here; (with_reducible show wpAny _ _ (call (Value.builtin "len") [Value.ref _]) _ _ _); k_dflt (refine' len_led ?N ?m ?e ?f ?_; (case N => k_asm); (case m => k_mem); (case e => first | exact len0 | exact len1 _ | exact len2 _ _ _ | assumption | exact rfl); (case f => first | omega | decide); k_whole)))
local macro_rules | `(tactic| walk_at "call type:tuple") => `(tactic| (k_here; (with_reducible show wpAny _ _ (call (Value.type _) [Value.ref _]) _ _ _); k_dflt (refine' kde_tupleOf ?k1 ?k2 ?k3 ?k4 ?k5 ?_; (case k1 => k_asm); (case k2 => k_asm); (case k3 => exact News.isList (by k_asm) (by k_mem)); (case k4 => (simp only [sizeLine_eq, List.length_cons, List.size_toArray]; omega)); (case k5 => rfl); k_whole); intro D' h' F' N' l1; (try k_lt l1); (try k_sweep)))
section
theorem offChain : True := by
  w_top off
  trivial

/-- the chains: pairs of a label and a row of clauses -/
def ChainsAre (l : Led) (cv : List Value) (es : List (List Int × Int)) : Prop :=
  All2 (fun v e => ∃ a b t n ok, v = Value.ref a ∧ (a, ({ cls := .type "tuple", data := .seq #[.int e.2 t, .ref b] n } : Obj)) ∈ l ∧ (b, ok) ∈ l ∧ TupInts e.1 ok) cv es
theorem ChainsAre.mono {l l' : Led} {cv : List Value} {es : List (List Int × Int)} (h : ChainsAre l cv es) (hs : ∀ p ∈ l, p ∈ l') : ChainsAre l' cv es :=
  All2.mono (fun _ _ ⟨a, b, t, n, ok, h1, h2, h3, h4⟩ => ⟨a, b, t, n, ok, h1, hs _ h2, hs _ h3, h4⟩) h

/-- a builder's state -/
structure BS (w : World) (l : Led) (many : Nat) (es : List (List Int × Int)) (nl : Int) (cv : List Value) (okn : Obj) : Prop where
  next : nl = many + es.length
  labels : es.map (·.2) = (List.range es.length).map fun (i : Nat) => ((many + i : Nat) : Int)
  known : TD PR w l okn es
  chains : ChainsAre l cv es
  few : es.length ≤ 400
  small : many ≤ 4
theorem BS.mono {w : World} {l l' : Led} {many : Nat} {es : List (List Int × Int)} {nl : Int} {cv : List Value} {okn : Obj} (S : BS w l many es nl cv okn) (hs : ∀ p ∈ l, p ∈ l') : BS w l' many es nl cv okn :=
  { S with known := S.known.mono hs, chains := S.chains.mono hs }

/-- what chain does, in plain words -/
def chainA (many : Nat) (es : List (List Int × Int)) (ps : List Int) : Int × List (List Int × Int) :=
  match ps with
  | [] => (-1, es)
  | [p] => (p, es)
  | ps => match findE es ps with
    | some l => (l, es)
    | none => (((many + es.length : Nat) : Int), es ++ [(ps, ((many + es.length : Nat) : Int))])

theorem cons_sub {x : Addr × Obj} {l l' : Led} (h : ∀ p ∈ l, p ∈ l') : ∀ p ∈ x :: l, p ∈ x :: l' := fun p hp => by
  rcases List.mem_cons.mp hp with rfl | hp
  · exact List.mem_cons_self
  · exact List.mem_cons_of_mem _ (h p hp)
theorem chain_perm {h₀ h : Heap} {L : Addr} {T bd D ch kn : Addr × Obj} {rest : Led} (N : News h₀ L h (T :: bd :: D :: ch :: kn :: rest)) : News h₀ L h ([bd, ch, kn] ++ ([T, D] ++ rest)) := by
  refine kst_newsOf N ?_
  intro p hp
  simp only [List.cons_append, List.nil_append, List.mem_cons] at hp ⊢
  rcases hp with h | h | h | h | h | h <;> simp [h]
theorem chain_does (w : World) (ba bd co ro ch kn pa : Addr) (x : BTok) (ar : Int) (ta : Tok) (nl : Int) (tn : Tok) (cv : List Value) (cc : Nat) (okn : Obj) (pv : List Value) (pc : Nat) (ps : List Int) (many : Nat) (es : List (List Int × Int)) (l0 rest : Led) (hl0 : ∀ p ∈ l0, p ∈ rest)
    (hi : (ba, instObj 102 bd) ∈ rest) (hp : (pa, listOf pv.toArray pc) ∈ rest) (hpi : IntsAre pv ps) (hpl : ps.length ≤ 8) (S : BS w l0 many es nl cv okn) (hkn : (kn == sysModules) = false) (hfew : es.length < 400) :
    Does w 64 [.ref ba, .ref pa] [(bd, bDict x ar ta co ro ch kn nl tn), (ch, listOf cv.toArray cc), (kn, okn)] rest 8 400
      (fun r chg add => ∃ t nl' tn' cv' cc' okn', r = .int (chainA many es ps).1 t ∧ chg = [(bd, bDict x ar ta co ro ch kn nl' tn'), (ch, listOf cv'.toArray cc'), (kn, okn')] ∧ BS w (add ++ l0) many (chainA many es ps).2 nl' cv' okn') := by
  unfold Does
  k_fill
  intro dp un gd env outer A₀ base h₀ L m s mean mg mb Q E _ B F X N hnod T hk hL hd hu hret
  try simp only [List.cons_append, List.nil_append] at N hnod
  ((first | refine peelA hnod (by with_reducible ((repeat (first | exact it_nil | (apply it_na) | (apply it_ca) | (apply it_aa) | (apply it_cons) | (apply it_app))); (try exact it_last))) ?_ | refine peelN hnod (by with_reducible ((repeat (first | exact it_nil | (apply it_na) | (apply it_ca) | (apply it_aa) | (apply it_cons) | (apply it_app))); (try exact it_last))) ?_ | refine peelR hnod (by with_reducible ((repeat (first | exact it_nil | (apply it_na) | (apply it_ca) | (apply it_aa) | (apply it_cons) | (apply it_app))); (try exact it_last))) ?_); (repeat (intro hq9)); refine Past.mk ?_)
  refine wpAny_call ?_
  have hsm := S.small
  have hnx := S.next
  have hcv : cv.length ≤ 400 := by rw [S.chains.length]; omega
  dsimp only [bDict] at N
  have hpl2 : pv.length ≤ 8 := by rw [hpi.length]; exact hpl
  rcases hpi with _ | @⟨p, t, vs1, ns1, hpi⟩
  · k_dflt (refine' code_def ?k1 ?k2 ?k3 ?k4 ?k5 ?kA ?kF ?kK ?k6 ?k7 ?k8 ?k9 ?kB ?_ ?c2 ?c3 ?c4 ?c5; (case kA => exact rfl); (case kF => assumption); (case kK => assumption); (case k1 => k_asm); (case k2 => k_asm); (case k3 => k_asm); (case k4 => k_asm); (case k5 => k_asm); (case k6 => k_is); (case k7 => k_is); (case k8 => ktr_room); (case k9 => exact BindsTo.of_eq rfl); (case c5 => decide); (case kB => exact locs rfl); (case c2 => exact rfl); (case c3 => exact rfl); (case c4 => exact rfl); k_whole; intro g' L' h' FG' F' N' B' X' T'; (try refine wp_toks fun tk9 => ?_); (try dsimp only); (try k_fold))
    k_steps
    rename News h₀ L _ _ => kN
    exact hret _ _ [] _ _ (by assumption) kN rfl Young.nil Nod.nil ⟨_, nl, tn, cv, cc, okn, rfl, rfl, S⟩
  · rcases hpi with _ | @⟨p2, t2, vs, ns, hpi⟩
    · k_dflt (refine' code_def ?k1 ?k2 ?k3 ?k4 ?k5 ?kA ?kF ?kK ?k6 ?k7 ?k8 ?k9 ?kB ?_ ?c2 ?c3 ?c4 ?c5; (case kA => exact rfl); (case kF => assumption); (case kK => assumption); (case k1 => k_asm); (case k2 => k_asm); (case k3 => k_asm); (case k4 => k_asm); (case k5 => k_asm); (case k6 => k_is); (case k7 => k_is); (case k8 => ktr_room); (case k9 => exact BindsTo.of_eq rfl); (case c5 => decide); (case kB => exact locs rfl); (case c2 => exact rfl); (case c3 => exact rfl); (case c4 => exact rfl); k_whole; intro g' L' h' FG' F' N' B' X' T'; (try refine wp_toks fun tk9 => ?_); (try dsimp only); (try k_fold))
      k_steps
      rename News h₀ L _ _ => kN
      exact hret _ _ [] _ _ (by assumption) kN rfl Young.nil Nod.nil ⟨_, nl, tn, cv, cc, okn, rfl, rfl, S⟩
    · simp only [List.length_cons] at hpl2
      k_dflt (refine' code_def ?k1 ?k2 ?k3 ?k4 ?k5 ?kA ?kF ?kK ?k6 ?k7 ?k8 ?k9 ?kB ?_ ?c2 ?c3 ?c4 ?c5; (case kA => exact rfl); (case kF => assumption); (case kK => assumption); (case k1 => k_asm); (case k2 => k_asm); (case k3 => k_asm); (case k4 => k_asm); (case k5 => k_asm); (case k6 => k_is); (case k7 => k_is); (case k8 => ktr_room); (case k9 => exact BindsTo.of_eq rfl); (case c5 => decide); (case kB => exact locs rfl); (case c2 => exact rfl); (case c3 => exact rfl); (case c4 => exact rfl); k_whole; intro g' L' h' FG' F' N' B' X' T'; (try refine wp_toks fun tk9 => ?_); (try dsimp only); (try k_fold))
      k_steps
      · exfalso; omega
      · exfalso; omega
      · have hTup : TupInts (p :: p2 :: ns) { cls := .type "tuple", data := .seq (List.toArray (Value.int p t :: Value.int p2 t2 :: _)) } := ⟨_, _, rfl, .cons _ _ (.cons _ _ hpi)⟩
        refine in_TD (by tlg_ne) (by k_asm) S.known (by k_mem) (fun p hp => (by (first | exact fun p hp => hp | ((repeat' (first | refine fa_app ?_ ?_ | refine fa_cons ?_ ?_ | refine List.forall_mem_append.mpr ⟨?_, ?_⟩ | refine List.forall_mem_cons.mpr ⟨?_, ?_⟩)) <;> (first | exact List.forall_mem_nil _ | (intro p9 hp9; kp_flats) | kp_flats))) : ∀ p ∈ rest, p ∈ _) p (hl0 p hp)) hkn (by k_mem) hTup ?_
        intro tk9
        cases hfe : findE es (p :: p2 :: ns) with
        | some i =>
          have hca : chainA many es (p :: p2 :: ns) = (i, es) := by simp [chainA, hfe]
          simp only [Option.isSome_some]
          k_steps
          refine get_TD (by tlg_ne) (by k_asm) S.known (by k_mem) (fun p hp => (by (first | exact fun p hp => hp | ((repeat' (first | refine fa_app ?_ ?_ | refine fa_cons ?_ ?_ | refine List.forall_mem_append.mpr ⟨?_, ?_⟩ | refine List.forall_mem_cons.mpr ⟨?_, ?_⟩)) <;> (first | exact List.forall_mem_nil _ | (intro p9 hp9; kp_flats) | kp_flats))) : ∀ p ∈ rest, p ∈ _) p (hl0 p hp)) (by k_mem) hTup hfe ?_
          intro t9 tk9
          k_steps
          rename News h₀ L _ _ => kN
          refine hret _ _ [] _ _ (by assumption) (kst_newsOf kN (by (first | exact fun p hp => hp | ((repeat' (first | refine fa_app ?_ ?_ | refine fa_cons ?_ ?_ | refine List.forall_mem_append.mpr ⟨?_, ?_⟩ | refine List.forall_mem_cons.mpr ⟨?_, ?_⟩)) <;> (first | exact List.forall_mem_nil _ | (intro p9 hp9; kp_flats) | kp_flats))))) rfl Young.nil Nod.nil ⟨t9, nl, tn, cv, cc, okn, ?_, rfl, ?_⟩
          · rw [hca]
          · rw [hca]; exact S
        | none =>
          have hca : chainA many es (p :: p2 :: ns) = (((many + es.length : Nat) : Int), es ++ [(p :: p2 :: ns, ((many + es.length : Nat) : Int))]) := by simp [chainA, hfe]
          simp only [Option.isSome_none]
          k_steps
          try dsimp only [List.nil_append, List.cons_append, List.append_nil]
          try k_fold
          k_dflt (refine' Does.use1 (fresh_does w ba bd co ro ch kn x ar ta nl tn _ ?hi ?hl) ?P1 ?uB ?uF ?uX ?uN ?un ?uT ?uk ?uL ?ud ?uu ?_; (case uN => k_asm); (case P1 => allgen_close2_more); (case uB => k_asm); (case uF => k_asm); (case uX => k_asm); (case un => first | assumption | kat_tups); (case uT => k_asm); (case uk => rfl); (case uL => rfl); (case ud => ktr_room); (case uu => tlg_ne); (case hi => k_mem); (case hl => omega)); intro r' chg' add' h' tk' F' N' nod' young' post'
          obtain ⟨⟨t8, rfl⟩, ⟨tn8, rfl⟩, rfl⟩ := post'
          simp only [List.cons_append, List.nil_append] at N' nod'
          dsimp only [bDict] at N'
          k_steps
          k_dflt (refine' set_TD ?u ?F ?N (S.known.mono (l' := (_, _) :: l0) (fun _ h => List.mem_cons_of_mem _ h)) ?U ?s ?m hTup hfe ?z ?_; (case u => tlg_ne); (case F => k_asm); (case N => k_asm); (case m => exact List.mem_cons_self); (case U => k_updF); (case s => exact fun p hp => (by (first | exact fun p hp => hp | ((repeat' (first | refine fa_app ?_ ?_ | refine fa_cons ?_ ?_ | refine List.forall_mem_append.mpr ⟨?_, ?_⟩ | refine List.forall_mem_cons.mpr ⟨?_, ?_⟩)) <;> (first | exact List.forall_mem_nil _ | (intro p9 hp9; kp_flats) | kp_flats))) : ∀ p ∈ (_, _) :: rest, p ∈ _) p (cons_sub hl0 p hp)); (case z => (rw [sizeLine_eq]; omega)))
          intro h7 o7 tk7 F7 N7 T7
          try dsimp only at N7
          k_steps
          rename News h₀ L _ _ => kN
          refine hret _ _ _ _ _ (by assumption) (chain_perm kN) rfl ?y ?n ⟨t8, nl + 1, _, _, _, _, ?_, rfl, ?_⟩
          case y => ((try simp only [List.cons_append, List.nil_append]); (repeat' (refine Young.cons ?_ ?_)); (all_goals (first | exact Young.nil | (first | ((repeat (first | with_reducible assumption | exact ap_nil | exact Apart.lt (by with_reducible assumption) | exact Apart.ltk _ (by with_reducible assumption) | (with_reducible refine ap_cons (by first | with_reducible assumption | omega) ?_) | (with_reducible refine ap_app (by first | with_reducible assumption | exact Apart.lt (by with_reducible assumption) | exact Apart.ltk _ (by with_reducible assumption)) ?_))); (first | done | fail "open")) | ((try simp only [List.cons_append, List.nil_append, Apart, apart_append, and_true, true_and, and_assoc]); (all_goals ((repeat' apply And.intro) <;> first | assumption | omega | exact Apart.lt (by assumption) | exact Apart.ltk _ (by assumption))))))))
          case n => kat_tups
          · rw [hca, hnx]; simp
          · rw [hca]
            have hnx2 : nl = ((many + es.length : Nat) : Int) := by rw [hnx]; simp
            refine { next := ?_, labels := ?_, known := ?_, chains := ?_, few := ?_, small := hsm }
            · rw [hnx]; simp; omega
            · rw [List.map_append, S.labels, List.length_append, List.length_singleton, List.range_succ, List.map_append]; rfl
            · rw [← hnx2]; exact T7.mono (by (first | exact fun p hp => hp | ((repeat' (first | refine fa_app ?_ ?_ | refine fa_cons ?_ ?_ | refine List.forall_mem_append.mpr ⟨?_, ?_⟩ | refine List.forall_mem_cons.mpr ⟨?_, ?_⟩)) <;> (first | exact List.forall_mem_nil _ | (intro p9 hp9; kp_flats) | kp_flats))))
            · rw [← hnx2]; exact (S.chains.mono (by (first | exact fun p hp => hp | ((repeat' (first | refine fa_app ?_ ?_ | refine fa_cons ?_ ?_ | refine List.forall_mem_append.mpr ⟨?_, ?_⟩ | refine List.forall_mem_cons.mpr ⟨?_, ?_⟩)) <;> (first | exact List.forall_mem_nil _ | (intro p9 hp9; kp_flats) | kp_flats))))).append (.one ⟨_, _, _, _, _, rfl, by k_mem, by k_mem, hTup⟩)
            · simp; omega

end
end
section
local macro_rules | `(tactic| omega) => `(tactic| first | with_reducible assumption | exact Nat.le_of_lt (by with_reducible assumption) | exact Nat.le_trans (by with_reducible assumption) (by decide) | exact Nat.lt_of_lt_of_le (by with_reducible assumption) (by decide) | exact Nat.lt_of_le_of_lt (by with_reducible assumption) (by decide) | exact Nat.le_trans (Nat.le_of_lt (by with_reducible assumption)) (by decide) | exact Nat.ne_of_lt (by with_reducible assumption) | exact Nat.ne_of_gt (by with_reducible assumption) | exact om_ne1 _ 0 | exact om_ne1 _ 1 | exact om_ne1 _ 2 | exact om_ne1 _ 3 | exact om_ne1 _ 4 | exact om_ne2 _ 0 | exact om_ne2 _ 1 | exact om_ne2 _ 2 | exact om_ne2 _ 3 | exact om_ne2 _ 4 | lia)
section
theorem offLoops : True := by
  w_top off
  trivial
local macro_rules | `(tactic| walk_at "zz") => `(tactic| skip)

section
variable {prog : Program} {w : World} {A : Around} {E : Value → Shared → Prop} {s s₂ : Shared} {env : Env} {h₀ : Heap} {x : Str} {body : List Stmt} {Q : Flow → Shared → Prop} {σ : Type}

/-- a turn's end -/
def Turned (h₀ : Heap) (L : Addr) (x : Str) (ps : σ → List (Str × Value)) (st : List Str) (m₀ : Str → Option Value) (I : Addr) (oI : Obj) (src : Led) (Jn : σ → Led → Prop) (s₁ s₂ : Shared) : Prop :=
  ∃ (c' : σ) (nx' : Led) (h' : Heap) (tk' : Nat) (m' : Str → Option Value), s₂ = { s₁ with heap := h', toks := tk' } ∧ Fr h₀ L h' m' ∧ (∀ p ∈ ps c', m' p.1 = some p.2) ∧ (∀ z, z ≠ x → (∀ p ∈ ps c', z ≠ p.1) → st.contains z = false → m' z = m₀ z) ∧
    News h₀ L h' ((I, oI) :: nx') ∧ Nod ((I, oI) :: nx') ∧ (∀ q ∈ src, q ∈ nx') ∧ Jn c' nx'
def TurnQ (h₀ : Heap) (L : Addr) (x : Str) (ps : σ → List (Str × Value)) (st : List Str) (m₀ : Str → Option Value) (I : Addr) (oI : Obj) (src : Led) (Jn : σ → Led → Prop) (s₁ : Shared) (Q : Flow → Shared → Prop) (f : Flow) (s₂ : Shared) : Prop :=
  match f with
  | .ret v => Q (.ret v) s₂
  | .brk => Q .next s₂
  | _ => Turned h₀ L x ps st m₀ I oI src Jn s₁ s₂

theorem loop_walk {I : Addr} {src : Led} {n : Nat} {P : Nat → Value → Prop} {St : Nat → Heap → Prop} {m₀ : Str → Option Value} {news : Led}
    (ps : σ → List (Str × Value)) (st : List Str) (J : Nat → σ → Led → Prop) (c₀ : σ)
    (W : Walks prog w A I (I :: src.map (·.1)) [I] n P St) (hIo : ∀ i h, St i h → ∃ o, h.get? I = some o)
    (hI0 : h₀.get? I = none) (hIL : env.locals ≠ I) (hoff : ∀ p ∈ news, p.1 ≠ I) (hsrc : ∀ q ∈ src, q ∈ news) (hst : St 0 s₂.heap)
    (F : Fr h₀ env.locals s₂.heap m₀) (N : News h₀ env.locals s₂.heap news) (hn : Nod news) (hk : ∀ p ∈ ps c₀, m₀ p.1 = some p.2) (hj : J 0 c₀ news)
    (turn : ∀ i v c nx (u : Str → Option Value) h tk oI, i < n → P i v → J i c nx → (∀ q ∈ src, q ∈ nx) → Nod ((I, oI) :: nx) →
      Fr h₀ env.locals h (fun y => if y = x then some v else kstB (fun z => if st.contains z then u z else m₀ z) (ps c) y) → News h₀ env.locals h ((I, oI) :: nx) →
      wpAny (model prog w) A (execs body env) (TurnQ h₀ env.locals x ps st m₀ I oI src (J (i + 1)) { s₂ with heap := h, toks := tk } Q) E { s₂ with heap := h, toks := tk })
    (done : ∀ c nx (u : Str → Option Value) h tk, J n c nx → (∀ q ∈ src, q ∈ nx) → Nod nx → Fr h₀ env.locals h (fun y => if y = x then u y else kstB (fun z => if st.contains z then u z else m₀ z) (ps c) y) → News h₀ env.locals h nx →
      Q .next { s₂ with heap := h, toks := tk }) :
    LoopAtV prog w A h₀ env x body Q E (.ref I) s₂ := by
  refine ⟨I, _, [I], n, P, St, m₀, news, (fun i m nx => ∃ c, Nod nx ∧ (∀ q ∈ src, q ∈ nx) ∧ (∀ p ∈ ps c, m p.1 = some p.2) ∧ (∀ z, z ≠ x → (∀ p ∈ ps c, z ≠ p.1) → st.contains z = false → m z = m₀ z) ∧ J i c nx), rfl, W, ?_, ?_, ?_, hst, F, N, ⟨c₀, hn, hsrc, hk, fun _ _ _ _ => rfl, hj⟩, ?_, ?_⟩
  · intro hm
    rcases List.mem_cons.mp hm with e | hm
    · exact hIL e
    · refine ex_1 (List.mem_map.mp hm) ?_
      intro q q9o
      refine an_2 q9o ?_
      clear q9o
      intro hq e
      exact (N _ (hsrc q hq)).2.1 e
  · intro b hb
    rw [List.mem_singleton.mp hb]
    exact hI0
  · intro p hp hI
    exact hoff p hp (List.mem_singleton.mp hI)
  · rintro i v m₁ news₁ s₁ own ⟨hh', tk', rfl⟩ hin hP ⟨c, hn₁, hs₁, h1, h2, hJ⟩ hoff₁ hown hget hfp hst₁ F₁ N₁
    refine ex_1 (hIo _ _ hst₁) ?_
    intro oI hoI
    have hIown : (I, oI) ∈ own := hfp I List.mem_cons_self hI0 oI hoI
    have hne : ∀ p ∈ news₁, p.1 ≠ I := fun p hp e => hoff₁ p hp (List.mem_singleton.mpr e)
    have N₂ : News h₀ env.locals hh' ((I, oI) :: news₁) := fun p hp => by
      rcases List.mem_cons.mp hp with rfl | hp
      · exact N₁ _ (List.mem_append.mpr (.inl hIown))
      · exact N₁ _ (List.mem_append.mpr (.inr hp))
    refine wpAny_mono (turn i v c news₁ m₁ hh' tk' oI hin hP hJ hs₁ (Nod.of_cons hne hn₁) (kst_fr h1 h2 F₁) N₂) (fun f s₂' p => ?_) fun _ _ e => e
    have fin : Turned h₀ env.locals x ps st m₀ I oI src (J (i + 1)) { s₂ with heap := hh', toks := tk' } s₂' →
        LoopStepU h₀ env.locals [I] own (fun m nx => ∃ c, Nod nx ∧ (∀ q ∈ src, q ∈ nx) ∧ (∀ p ∈ ps c, m p.1 = some p.2) ∧ (∀ z, z ≠ x → (∀ p ∈ ps c, z ≠ p.1) → st.contains z = false → m z = m₀ z) ∧ J (i + 1) c nx) { s₂ with heap := hh', toks := tk' } .next s₂' := by
      rintro ⟨c', nx', h', tk, m', e, F', h1', h2', N', hn', hs', hJ'⟩
      refine ⟨rfl, h', tk, m', nx', e, F', fun p hp => ?_, fun p hp hq => ?_, c', hn'.cons.2, hs', h1', h2', hJ'⟩
      · rcases List.mem_append.mp hp with h | h
        · rcases List.mem_cons.mp (hown p h) with h3 | h3
          · have h4 : hh'.get? p.1 = some p.2 := hget p h
            rw [h3, hoI] at h4
            have h5 : p = (I, oI) := Prod.ext h3 (Option.some.inj h4).symm
            rw [h5]
            exact N' _ List.mem_cons_self
          · refine ex_1 (List.mem_map.mp h3) ?_
            intro q q9o
            refine an_2 q9o ?_
            clear q9o
            intro hq e3
            have h4 : hh'.get? p.1 = some p.2 := hget p h
            have h6 : hh'.get? q.1 = some q.2 := (N₂ q (List.mem_cons_of_mem _ (hs₁ q hq))).1
            rw [← e3, h6] at h4
            have h5 : p = q := Prod.ext e3.symm (Option.some.inj h4).symm
            rw [h5]
            exact N' _ (List.mem_cons_of_mem _ (hs' q hq))
        · exact N' _ (List.mem_cons_of_mem _ h)
      · exact hn'.cons.1 p hp (List.mem_singleton.mp hq)
    cases f with
    | ret v => exact .ret p
    | brk => exact .brk p
    | next => exact .next (fin p)
    | cont => exact .cont (fin p)
  · rintro h' tk m' news' F' N' _ ⟨c, hn', hs', h1, h2, hJ⟩
    exact done c news' m' h' tk hJ hs' hn' (kst_frOut h1 h2 F') N'

theorem loop_list {l : Addr} {vs : List Value} {nn : Nat} {m₀ : Str → Option Value} {news : Led} (ps : σ → List (Str × Value)) (st : List Str) (J : Nat → σ → Led → Prop) (c₀ : σ)
    (hh : A.handled = none) (hl : (l, listOf vs.toArray nn) ∈ news) (F : Fr h₀ env.locals s.heap m₀) (N : News h₀ env.locals s.heap news) (hn : Nod news) (hk : ∀ p ∈ ps c₀, m₀ p.1 = some p.2) (hj : J 0 c₀ news)
    (turn : ∀ i v c nx (u : Str → Option Value) h tk I oI, i < vs.length → vs[i]? = some v → J i c nx → (l, listOf vs.toArray nn) ∈ nx → Nod ((I, oI) :: nx) →
      Fr h₀ env.locals h (fun y => if y = x then some v else kstB (fun z => if st.contains z then u z else m₀ z) (ps c) y) → News h₀ env.locals h ((I, oI) :: nx) →
      wpAny (model prog w) A (execs body env) (TurnQ h₀ env.locals x ps st m₀ I oI [(l, listOf vs.toArray nn)] (J (i + 1)) { s with heap := h, toks := tk } Q) E { s with heap := h, toks := tk })
    (done : ∀ c nx (u : Str → Option Value) h tk, J vs.length c nx → (l, listOf vs.toArray nn) ∈ nx → Nod nx → Fr h₀ env.locals h (fun y => if y = x then u y else kstB (fun z => if st.contains z then u z else m₀ z) (ps c) y) → News h₀ env.locals h nx →
      Q .next { s with heap := h, toks := tk }) :
    wpAny (model prog w) A (pyIter (.ref l)) (fun it s₂ => LoopAtV prog w A h₀ env x body Q E it s₂) E s := by
  have hol : s.heap.get? l = some (listOf vs.toArray nn) := (N _ hl).1
  have hls : s.heap.IsList l vs.toArray := ⟨_, hol, rfl, nn, rfl⟩
  have hne : l ≠ s.heap.objs.size := Nat.ne_of_lt (Heap.lt_size hol)
  refine wpAny_pyIter_list hls ?_
  have W := Walks.list (prog := prog) (w := w) hh s.heap.objs.size l hne vs.toArray
  have hlen : vs.toArray.size = vs.length := by simp
  rw [hlen] at W
  refine loop_walk (src := [(l, listOf vs.toArray nn)]) ps st J c₀ W (fun i h st => by obtain ⟨o, e, _⟩ := st.1; exact ⟨o, e⟩) (next_is_new F) (Nat.ne_of_lt F.ns.lt) (fun p hp => Nat.ne_of_lt (Heap.lt_size (N p hp).1)) (fun q hq => by rw [List.mem_singleton.mp hq]; exact hl)
    ⟨⟨_, Heap.get?_push_size _ rfl, rfl, rfl⟩, hls.at fun o e => Heap.get?_push_of_some _ e⟩ (F.push _) (fun p hp => ⟨Heap.get?_push_of_some _ (N p hp).1, (N p hp).2⟩) hn hk hj ?_ ?_
  · intro i v c nx u h tk oI hi hP hJ hs hn' F' N'
    exact turn i v c nx u h tk _ oI hi (by simpa using hP) hJ (hs _ (List.mem_singleton.mpr rfl)) hn' F' N'
  · intro c nx u h tk hJ hs hn' F' N'
    exact done c nx u h tk hJ (hs _ (List.mem_singleton.mpr rfl)) hn' F' N'

abbrev tupOf (vs : List Value) (n : Nat) : Obj := { cls := .type "tuple", data := .seq vs.toArray n }
theorem loop_tuple {l : Addr} {vs : List Value} {nn : Nat} {m₀ : Str → Option Value} {news : Led} (ps : σ → List (Str × Value)) (st : List Str) (J : Nat → σ → Led → Prop) (c₀ : σ)
    (hh : A.handled = none) (hl : (l, tupOf vs nn) ∈ news) (F : Fr h₀ env.locals s.heap m₀) (N : News h₀ env.locals s.heap news) (hn : Nod news) (hk : ∀ p ∈ ps c₀, m₀ p.1 = some p.2) (hj : J 0 c₀ news)
    (turn : ∀ i v c nx (u : Str → Option Value) h tk I oI, i < vs.length → vs[i]? = some v → J i c nx → (l, tupOf vs nn) ∈ nx → Nod ((I, oI) :: nx) →
      Fr h₀ env.locals h (fun y => if y = x then some v else kstB (fun z => if st.contains z then u z else m₀ z) (ps c) y) → News h₀ env.locals h ((I, oI) :: nx) →
      wpAny (model prog w) A (execs body env) (TurnQ h₀ env.locals x ps st m₀ I oI [(l, tupOf vs nn)] (J (i + 1)) { s with heap := h, toks := tk } Q) E { s with heap := h, toks := tk })
    (done : ∀ c nx (u : Str → Option Value) h tk, J vs.length c nx → (l, tupOf vs nn) ∈ nx → Nod nx → Fr h₀ env.locals h (fun y => if y = x then u y else kstB (fun z => if st.contains z then u z else m₀ z) (ps c) y) → News h₀ env.locals h nx →
      Q .next { s with heap := h, toks := tk }) :
    wpAny (model prog w) A (pyIter (.ref l)) (fun it s₂ => LoopAtV prog w A h₀ env x body Q E it s₂) E s := by
  have hol : s.heap.get? l = some (tupOf vs nn) := (N _ hl).1
  have hls : s.heap.IsTuple l vs.toArray := ⟨_, hol, rfl, nn, rfl⟩
  have hne : l ≠ s.heap.objs.size := Nat.ne_of_lt (Heap.lt_size hol)
  refine wpAny_pyIter_tuple hls ?_
  have W := Walks.tuple (prog := prog) (w := w) hh s.heap.objs.size l hne vs.toArray
  have hlen : vs.toArray.size = vs.length := by simp
  rw [hlen] at W
  refine loop_walk (src := [(l, tupOf vs nn)]) ps st J c₀ W (fun i h st => by obtain ⟨o, e, _⟩ := st.1; exact ⟨o, e⟩) (next_is_new F) (Nat.ne_of_lt F.ns.lt) (fun p hp => Nat.ne_of_lt (Heap.lt_size (N p hp).1)) (fun q hq => by rw [List.mem_singleton.mp hq]; exact hl)
    ⟨⟨_, Heap.get?_push_size _ rfl, rfl, rfl⟩, hls.at fun o e => Heap.get?_push_of_some _ e⟩ (F.push _) (fun p hp => ⟨Heap.get?_push_of_some _ (N p hp).1, (N p hp).2⟩) hn hk hj ?_ ?_
  · intro i v c nx u h tk oI hi hP hJ hs hn' F' N'
    exact turn i v c nx u h tk _ oI hi (by simpa using hP) hJ (hs _ (List.mem_singleton.mpr rfl)) hn' F' N'
  · intro c nx u h tk hJ hs hn' F' N'
    exact done c nx u h tk hJ (hs _ (List.mem_singleton.mpr rfl)) hn' F' N'

theorem loop_range {r : Addr} {a₀ b₀ : Int} {t₀ u₀ v₀ : Tok} {n : Nat} {m₀ : Str → Option Value} {news : Led} (ps : σ → List (Str × Value)) (st : List Str) (J : Nat → σ → Led → Prop) (c₀ : σ)
    (hh : A.handled = none) (hr : IsRange s.heap r a₀ b₀ 1 t₀ u₀ v₀) (hsmall : Builtin.Range.small a₀ b₀ 1 = true) (hsz : Builtin.Range.rangeSize a₀ b₀ 1 = (n : Int)) (F : Fr h₀ env.locals s.heap m₀) (N : News h₀ env.locals s.heap news) (hn : Nod news) (hk : ∀ p ∈ ps c₀, m₀ p.1 = some p.2) (hj : J 0 c₀ news)
    (turn : ∀ (i : Nat) t c nx (u : Str → Option Value) h tk I oI, i < n → J i c nx → Nod ((I, oI) :: nx) →
      Fr h₀ env.locals h (fun y => if y = x then some (.int (a₀ + (i : Int)) t) else kstB (fun z => if st.contains z then u z else m₀ z) (ps c) y) → News h₀ env.locals h ((I, oI) :: nx) →
      wpAny (model prog w) A (execs body env) (TurnQ h₀ env.locals x ps st m₀ I oI [] (J (i + 1)) { s with heap := h, toks := tk } Q) E { s with heap := h, toks := tk })
    (done : ∀ c nx (u : Str → Option Value) h tk, J n c nx → Nod nx → Fr h₀ env.locals h (fun y => if y = x then u y else kstB (fun z => if st.contains z then u z else m₀ z) (ps c) y) → News h₀ env.locals h nx →
      Q .next { s with heap := h, toks := tk }) :
    wpAny (model prog w) A (pyIter (.ref r)) (fun it s₂ => LoopAtV prog w A h₀ env x body Q E it s₂) E s := by
  refine wpAny_pyIter_range hr hsmall ?_
  have W : Walks prog w A s.heap.objs.size [s.heap.objs.size] [s.heap.objs.size] n (fun i v => ∃ t, v = .int (a₀ + (i : Int)) t) (fun i h => IsRangeIter h s.heap.objs.size (a₀ + (i : Nat) * 1) ((n : Int) - (i : Nat)) 1) := LCg.range_walks hh a₀ n
  refine loop_walk (src := []) ps st J c₀ W (fun i h st => ⟨_, st⟩) (next_is_new F) (Nat.ne_of_lt F.ns.lt) (fun p hp => Nat.ne_of_lt (Heap.lt_size (N p hp).1)) (fun q hq => nomatch hq)
    (by show IsRangeIter _ _ _ _ _; rw [hsz]; simpa using Heap.get?_push_size _ rfl) (F.push _) (fun p hp => ⟨Heap.get?_push_of_some _ (N p hp).1, (N p hp).2⟩) hn hk hj ?_ ?_
  · rintro i v c nx u h tk oI hi ⟨t, rfl⟩ hJ hs hn' F' N'
    exact turn i t c nx u h tk _ oI hi hJ hn' F' N'
  · intro c nx u h tk hJ hs hn' F' N'
    exact done c nx u h tk hJ hn' F' N'
end
theorem frame_keep {m₀ u : Str → Option Value} {x : Str} {ps : List (Str × Value)} {st : List Str} {v : Option Value} : ∀ z, z ≠ x → (∀ p ∈ ps, z ≠ p.1) → st.contains z = false →
    (fun y => if y = x then v else kstB (fun z => if st.contains z then u z else m₀ z) ps y) z = m₀ z := by
  intro z z1 z2 z3
  show (if z = x then v else kstB (fun z => if st.contains z then u z else m₀ z) ps z) = m₀ z
  rw [if_neg z1]
  induction ps with
  | nil => show (if st.contains z = true then u z else m₀ z) = m₀ z; rw [z3]; rfl
  | cons p r ih =>
    show (if z = p.1 then some p.2 else kstB _ r z) = m₀ z
    rw [if_neg (z2 p List.mem_cons_self)]
    exact ih fun q hq => z2 q (List.mem_cons_of_mem _ hq)
theorem frame_one {p : Str × Value} {m : Str → Option Value} (h : m p.1 = some p.2) : ∀ q ∈ [p], m q.1 = some q.2 := fun q hq => by rw [List.mem_singleton.mp hq]; exact h
theorem frame_two {p p2 : Str × Value} {m : Str → Option Value} (h : m p.1 = some p.2) (h2 : m p2.1 = some p2.2) : ∀ q ∈ [p, p2], m q.1 = some q.2 := fun q hq => by
  rcases List.mem_cons.mp hq with rfl | hq
  · exact h
  · rw [List.mem_singleton.mp hq]; exact h2
theorem filter_take {p : Int → Bool} {ps : List Int} {i : Nat} {a : Int} (h : ps[i]? = some a) : (ps.take (i + 1)).filter p = (ps.take i).filter p ++ if p a then [a] else [] := by
  rw [List.take_add_one, h, List.filter_append]
  cases hp : p a <;> simp [hp]

end
section
theorem offLoopU : True := by
  w_top off
  trivial
local macro_rules | `(tactic| walk_at "zz") => `(tactic| skip)
local macro_rules | `(tactic| walk_at "zz") => `(tactic| skip)
/-- a turn's end under a name of its own -/
theorem turn_cps {σ : Type} {prog : Program} {w : World} {A : Around} {E : Value → Shared → Prop} {s₁ s₂ : Shared} {env : Env} {h₀ : Heap} {L I : Addr} {oI : Obj} {x : Str} {body : List Stmt} {Q : Flow → Shared → Prop}
    {ps : σ → List (Str × Value)} {st : List Str} {m₀ : Str → Option Value} {src : Led} {Jn : σ → Led → Prop}
    (t : ∀ q : Flow → Shared → Prop, (∀ c' nx' h' tk' m', Fr h₀ L h' m' → (∀ p ∈ ps c', m' p.1 = some p.2) → (∀ z, z ≠ x → (∀ p ∈ ps c', z ≠ p.1) → st.contains z = false → m' z = m₀ z) →
        News h₀ L h' ((I, oI) :: nx') → Nod ((I, oI) :: nx') → (∀ q ∈ src, q ∈ nx') → Jn c' nx' → q .next { s₁ with heap := h', toks := tk' } ∧ q .cont { s₁ with heap := h', toks := tk' }) →
      (∀ s', Q .next s' → q .brk s') → (∀ v s', Q (.ret v) s' → q (.ret v) s') → wpAny (model prog w) A (execs body env) q E s₂) :
    wpAny (model prog w) A (execs body env) (TurnQ h₀ L x ps st m₀ I oI src Jn s₁ Q) E s₂ :=
  t _ (fun c' nx' h' tk' m' a b c d e f g => ⟨⟨c', nx', h', tk', m', rfl, a, b, c, d, e, f, g⟩, ⟨c', nx', h', tk', m', rfl, a, b, c, d, e, f, g⟩⟩) (fun _ h => h) (fun _ _ h => h)

end
section
theorem offComps : True := by
  w_top off
  trivial

/-- a goal that the walker leaves alone -/
structure Held (P : Prop) : Prop where
  out : P

def CEnd (h₀ : Heap) (L : Addr) (m : Str → Option Value) (s : Shared) (I : Addr) (oI : Obj) (C : Addr) (oC : Obj) (D : Addr) (oD : Obj) (R : Value → Led → Prop) (y : Value) (s₂ : Shared) : Prop :=
  ∃ h' tk nx, s₂ = { s with heap := h', toks := tk } ∧ Fr h₀ L h' m ∧ News h₀ L h' ((I, oI) :: (C, oC) :: (D, oD) :: nx) ∧ Nod ((I, oI) :: (C, oC) :: (D, oD) :: nx) ∧ R y nx
theorem CEnd.intro {h₀ : Heap} {L I C D : Addr} {m : Str → Option Value} {s : Shared} {oI oC oD : Obj} {R : Value → Led → Prop} {y : Value} {h' : Heap} {tk : Nat} (nx all : Led)
    (F : Fr h₀ L h' m) (N : News h₀ L h' all) (sub : ∀ p ∈ (I, oI) :: (C, oC) :: (D, oD) :: nx, p ∈ all) (hn : Nod ((I, oI) :: (C, oC) :: (D, oD) :: nx)) (r : R y nx) :
    CEnd h₀ L m s I oI C oC D oD R y { s with heap := h', toks := tk } := ⟨h', tk, nx, rfl, F, fun p hp => N p (sub p hp), hn, r⟩
theorem off3_nod {I C D : Addr} {oI oC oD : Obj} {nx : Led} (h : Nod ((I, oI) :: (C, oC) :: (D, oD) :: nx)) : LCg.Off3 I C D nx ∧ Nod nx := by
  refine an_2 (h.cons) ?_
  intro a h
  refine an_2 (h.cons) ?_
  intro b h
  refine an_2 (h.cons) ?_
  intro c h
  refine ⟨LCg.Off3.of fun p hp => ⟨a p (by simp [hp]), b p (by simp [hp]), c p hp⟩, h⟩
theorem nod_off3 {I C D : Addr} {oI oC oD : Obj} {nx : Led} (o : LCg.Off3 I C D nx) (e : (@Ne Nat I C) ∧ (@Ne Nat I D) ∧ (@Ne Nat C D)) (h : Nod nx) : Nod ((I, oI) :: (C, oC) :: (D, oD) :: nx) := by
  have o := o.mem
  refine Nod.of_cons (fun p hp => ?_) (Nod.of_cons (fun p hp => ?_) (Nod.of_cons (fun p hp => (o p hp).2.2) h))
  · rcases List.mem_cons.mp hp with rfl | hp
    · exact Ne.symm e.1
    rcases List.mem_cons.mp hp with rfl | hp
    · exact Ne.symm e.2.1
    exact (o p hp).1
  · rcases List.mem_cons.mp hp with rfl | hp
    · exact Ne.symm e.2.2
    exact (o p hp).2.1
theorem nod_off1 {D : Addr} {oD : Obj} : ∀ {nx : Led}, LCg.Off1 D nx → Nod nx → Nod ((D, oD) :: nx) := by
  intro nx o h
  refine Nod.of_cons ?_ h
  induction nx with
  | nil => exact fun _ h => nomatch h
  | cons q nx ih =>
    intro p hp
    rcases List.mem_cons.mp hp with rfl | hp
    · exact o.1
    · exact ih o.2 h.cons.2 p hp

section
variable {prog : Program} {w : World} {A : Around} {E : Value → Shared → Prop} {s : Shared} {h₀ : Heap} {L : Addr} {m : Str → Option Value} {env : Env} {ct elt : Expr} {x : Str} {scope : Scope} {cl : List (Str × Addr)} {S : Led → Prop} {P : Nat → Value → Prop} {Fin : List Value → Led → Prop}

theorem restT_inv {n : Nat} (J : Nat → List Value → Led → Prop) (hS : ∀ i ys nx, J i ys nx → S nx)
    (turn : ∀ i v ys nx I oI C oC D m₂ h tk (E' : Value → Shared → Prop), i < n → P i v → J i ys nx → LCg.NsObj oC m₂ → m₂ x = some v → Fr h₀ L h m → News h₀ L h ((I, oI) :: (C, oC) :: (D, LCg.lst ys) :: nx) → Nod ((I, oI) :: (C, oC) :: (D, LCg.lst ys) :: nx) →
      wpAny (model prog w) A (isTrue ct (compEnvC scope cl C env) (eval ct (compEnvC scope cl C env))) (fun ok s' => if ok = true then
        wpAny (model prog w) A (eval elt (compEnvC scope cl C env)) (CEnd h₀ L m { s with heap := h, toks := tk } I oI C oC D (LCg.lst ys) (fun y nx' => J (i + 1) (ys ++ [y]) nx')) E' s'
        else CEnd h₀ L m { s with heap := h, toks := tk } I oI C oC D (LCg.lst ys) (fun _ nx' => J (i + 1) ys nx') Value.none s') E' { s with heap := h, toks := tk })
    (fin : ∀ ys nx, Nod nx → J n ys nx → Fin ys nx) : ∀ k i ys nx, i + k = n → Nod nx → J i ys nx → LCt.CompRestT prog w A h₀ L m env ct elt x scope cl s S P Fin k i ys nx := by
  intro k
  induction k with
  | zero =>
    intro i ys nx hi hn hj
    obtain rfl : i = n := by omega
    exact LCt.CompRestT.zero (fin ys nx hn hj)
  | succ k ih =>
    intro i ys nx hi hn hj
    refine LCt.CompRestT.succ ?_
    intro v I oI C oC D m₂ h tk E' hv hC hx F N off ne
    refine wpAny_mono (turn i v ys nx I oI C oC D m₂ h tk E' (by omega) hv hj hC hx F N (nod_off3 off ne hn)) (fun b s₂ hq => ?_) fun _ _ e => e
    cases b with
    | true =>
      simp only [if_true] at hq ⊢
      refine wpAny_mono hq (fun y s₃ hr => ?_) fun _ _ e => e
      refine ex_3 (hr) ?_
      (try clear hr)
      intro h' tk' nx' q9o
      refine an_5 q9o ?_
      clear q9o
      intro e F' N' hn' hr'
      refine an_2 (off3_nod hn') ?_
      intro o3 hn2
      exact ⟨h', tk', nx', e, F', N', o3, hS _ _ _ hr', ih (i + 1) _ _ (by omega) hn2 hr'⟩
    | false =>
      simp only [Bool.false_eq_true, if_false] at hq ⊢
      refine ex_3 (hq) ?_
      (try clear hq)
      intro h' tk' nx' q9o
      refine an_5 q9o ?_
      clear q9o
      intro e F' N' hn' hr'
      refine an_2 (off3_nod hn') ?_
      intro o3 hn2
      exact ⟨h', tk', nx', e, F', N', o3, hS _ _ _ hr', ih (i + 1) _ _ (by omega) hn2 hr'⟩

theorem restU_inv {n : Nat} (J : Nat → List Value → Led → Prop) (hS : ∀ i ys nx, J i ys nx → S nx)
    (turn : ∀ i v ys nx I oI C oC D m₂ h tk (E' : Value → Shared → Prop), i < n → P i v → J i ys nx → LCg.NsObj oC m₂ → m₂ x = some v → Fr h₀ L h m → News h₀ L h ((I, oI) :: (C, oC) :: (D, LCg.lst ys) :: nx) → Nod ((I, oI) :: (C, oC) :: (D, LCg.lst ys) :: nx) →
        wpAny (model prog w) A (eval elt (compEnvC scope cl C env)) (CEnd h₀ L m { s with heap := h, toks := tk } I oI C oC D (LCg.lst ys) (fun y nx' => J (i + 1) (ys ++ [y]) nx')) E' { s with heap := h, toks := tk })
    (fin : ∀ ys nx, Nod nx → J n ys nx → Fin ys nx) : ∀ k i ys nx, i + k = n → Nod nx → J i ys nx → LCg.CompRest prog w A h₀ L m env elt x scope cl s S P Fin k i ys nx := by
  intro k
  induction k with
  | zero =>
    intro i ys nx hi hn hj
    obtain rfl : i = n := by omega
    exact LCg.CompRest.zero (fin ys nx hn hj)
  | succ k ih =>
    intro i ys nx hi hn hj
    refine LCg.CompRest.succ ?_
    intro v I oI C oC D m₂ h tk E' hv hC hx F N off ne
    refine wpAny_mono (turn i v ys nx I oI C oC D m₂ h tk E' (by omega) hv hj hC hx F N (nod_off3 off ne hn)) (fun y s₃ hr => ?_) fun _ _ e => e
    refine ex_3 (hr) ?_
    (try clear hr)
    intro h' tk' nx' q9o
    refine an_5 q9o ?_
    clear q9o
    intro e F' N' hn' hr'
    refine an_2 (off3_nod hn') ?_
    intro o3 hn2
    exact ⟨h', tk', nx', e, F', N', o3, hS _ _ _ hr', ih (i + 1) _ _ (by omega) hn2 hr'⟩

theorem finE {Q : Value → Shared → Prop} {s₁ : Shared} {ys : List Value} {nx : Led} (hn : Nod nx)
    (h : ∀ D h tk, Fr h₀ L h m → News h₀ L h ((D, LCg.lst ys) :: nx) → Nod ((D, LCg.lst ys) :: nx) → Q (.ref D) { s₁ with heap := h, toks := tk }) : LCg.FinE h₀ L m s₁ Q ys nx :=
  fun D h' tk F N o => h D h' tk F N (nod_off1 o hn)

theorem compT_range {Q : Value → Shared → Prop} {r : Addr} {a b : Int} {t u v : Tok} {n : Nat} {news : Led} {s₁ : Shared} (J : Nat → List Value → Led → Prop)
    (hh : A.handled = none) (F : Fr h₀ L s₁.heap m) (N : News h₀ L s₁.heap news) (hn : Nod news) (hr : IsRange s₁.heap r a b 1 t u v) (hsm : Builtin.Range.small a b 1 = true) (hsz : Builtin.Range.rangeSize a b 1 = ((n : Nat) : Int)) (hfew : n ≤ 400) (hj : J 0 [] news)
    (turn : ∀ (i : Nat) t ys nx I oI C oC D m₂ h tk (E' : Value → Shared → Prop), i < n → J i ys nx → LCg.NsObj oC m₂ → m₂ x = some (.int (a + (i : Int)) t) → Fr h₀ L h m → News h₀ L h ((I, oI) :: (C, oC) :: (D, LCg.lst ys) :: nx) → Nod ((I, oI) :: (C, oC) :: (D, LCg.lst ys) :: nx) →
      wpAny (model prog w) A (isTrue ct (compEnvC scope cl C env) (eval ct (compEnvC scope cl C env))) (fun ok s' => if ok = true then
        wpAny (model prog w) A (eval elt (compEnvC scope cl C env)) (CEnd h₀ L m { s₁ with heap := h, toks := tk } I oI C oC D (LCg.lst ys) (fun y nx' => J (i + 1) (ys ++ [y]) nx')) E' s'
        else CEnd h₀ L m { s₁ with heap := h, toks := tk } I oI C oC D (LCg.lst ys) (fun _ nx' => J (i + 1) ys nx') Value.none s') E' { s₁ with heap := h, toks := tk })
    (fin : ∀ ys nx D h tk, J n ys nx → Fr h₀ L h m → News h₀ L h ((D, LCg.lst ys) :: nx) → Nod ((D, LCg.lst ys) :: nx) → Q (.ref D) { s₁ with heap := h, toks := tk }) :
    LCt.CompSrcT prog w A h₀ L m env ct elt x scope cl (fun s₂ => LCg.FinE h₀ L m s₂ Q) (.ref r) s₁ := by
  refine LCt.CompSrcT.range (n := n) hh F N hr hsm hsz (by rw [sizeLine_eq]; omega) fun g => ?_
  refine restT_inv J (fun _ _ _ _ => trivial) ?_ ?_ n 0 [] news (Nat.zero_add _) hn hj
  · intro i v ys nx I oI C oC D m₂ h tk E' hi hP hJ hC hx F N hn
    refine ex_1 (hP) ?_
    (try clear hP)
    intro t hP
    subst hP
    exact turn i t ys nx I oI C oC D m₂ h tk E' hi hJ hC hx F N hn
  · exact fun ys nx hn hJ => finE hn fun D h tk F N hn => fin ys nx D h tk hJ F N hn

theorem compU_range {Q : Value → Shared → Prop} {r : Addr} {a b : Int} {t u v : Tok} {n : Nat} {news : Led} {s₁ : Shared} (J : Nat → List Value → Led → Prop)
    (hh : A.handled = none) (F : Fr h₀ L s₁.heap m) (N : News h₀ L s₁.heap news) (hn : Nod news) (hr : IsRange s₁.heap r a b 1 t u v) (hsm : Builtin.Range.small a b 1 = true) (hsz : Builtin.Range.rangeSize a b 1 = ((n : Nat) : Int)) (hfew : n ≤ 400) (hj : J 0 [] news)
    (turn : ∀ (i : Nat) t ys nx I oI C oC D m₂ h tk (E' : Value → Shared → Prop), i < n → J i ys nx → LCg.NsObj oC m₂ → m₂ x = some (.int (a + (i : Int)) t) → Fr h₀ L h m → News h₀ L h ((I, oI) :: (C, oC) :: (D, LCg.lst ys) :: nx) → Nod ((I, oI) :: (C, oC) :: (D, LCg.lst ys) :: nx) →
        wpAny (model prog w) A (eval elt (compEnvC scope cl C env)) (CEnd h₀ L m { s₁ with heap := h, toks := tk } I oI C oC D (LCg.lst ys) (fun y nx' => J (i + 1) (ys ++ [y]) nx')) E' { s₁ with heap := h, toks := tk })
    (fin : ∀ ys nx D h tk, J n ys nx → Fr h₀ L h m → News h₀ L h ((D, LCg.lst ys) :: nx) → Nod ((D, LCg.lst ys) :: nx) → Q (.ref D) { s₁ with heap := h, toks := tk }) :
    LCg.CompSrc prog w A h₀ L m env elt x scope cl (fun s₂ => LCg.FinE h₀ L m s₂ Q) (.ref r) s₁ := by
  refine LCg.CompSrc.range (n := n) hh F N hr hsm hsz (by rw [sizeLine_eq]; omega) fun g => ?_
  refine restU_inv J (fun _ _ _ _ => trivial) ?_ ?_ n 0 [] news (Nat.zero_add _) hn hj
  · intro i v ys nx I oI C oC D m₂ h tk E' hi hP hJ hC hx F N hn
    refine ex_1 (hP) ?_
    (try clear hP)
    intro t hP
    subst hP
    exact turn i t ys nx I oI C oC D m₂ h tk E' hi hJ hC hx F N hn
  · exact fun ys nx hn hJ => finE hn fun D h tk F N hn => fin ys nx D h tk hJ F N hn

theorem compT_list {Q : Value → Shared → Prop} {ax : Addr} {vs : List Value} {k : Nat} {news : Led} {s₁ : Shared} (J : Nat → List Value → Led → Prop)
    (hh : A.handled = none) (F : Fr h₀ L s₁.heap m) (N : News h₀ L s₁.heap news) (hn : Nod news) (hm : (ax, listOf vs.toArray k) ∈ news) (hfew : vs.length ≤ 400) (hj : J 0 [] news)
    (turn : ∀ i v ys nx I oI C oC D m₂ h tk (E' : Value → Shared → Prop), i < vs.length → vs[i]? = some v → J i ys nx → (ax, listOf vs.toArray k) ∈ nx → LCg.NsObj oC m₂ → m₂ x = some v → Fr h₀ L h m → News h₀ L h ((I, oI) :: (C, oC) :: (D, LCg.lst ys) :: nx) → Nod ((I, oI) :: (C, oC) :: (D, LCg.lst ys) :: nx) →
      wpAny (model prog w) A (isTrue ct (compEnvC scope cl C env) (eval ct (compEnvC scope cl C env))) (fun ok s' => if ok = true then
        wpAny (model prog w) A (eval elt (compEnvC scope cl C env)) (CEnd h₀ L m { s₁ with heap := h, toks := tk } I oI C oC D (LCg.lst ys) (fun y nx' => (ax, listOf vs.toArray k) ∈ nx' ∧ J (i + 1) (ys ++ [y]) nx')) E' s'
        else CEnd h₀ L m { s₁ with heap := h, toks := tk } I oI C oC D (LCg.lst ys) (fun _ nx' => (ax, listOf vs.toArray k) ∈ nx' ∧ J (i + 1) ys nx') Value.none s') E' { s₁ with heap := h, toks := tk })
    (fin : ∀ ys nx D h tk, J vs.length ys nx → (ax, listOf vs.toArray k) ∈ nx → Fr h₀ L h m → News h₀ L h ((D, LCg.lst ys) :: nx) → Nod ((D, LCg.lst ys) :: nx) → Q (.ref D) { s₁ with heap := h, toks := tk }) :
    LCt.CompSrcT prog w A h₀ L m env ct elt x scope cl (fun s₂ => LCg.FinE h₀ L m s₂ Q) (.ref ax) s₁ := by
  have hlen : vs.toArray.size = vs.length := by simp
  refine LCt.CompSrcT.ledger hh F N hm (by rw [sizeLine_eq, hlen]; omega) fun g => ?_
  rw [hlen]
  refine restT_inv (fun i ys nx => (ax, listOf vs.toArray k) ∈ nx ∧ J i ys nx) (fun _ _ _ h => .inr ⟨_, h.1, rfl, _, rfl⟩) ?_ ?_ vs.length 0 [] news (Nat.zero_add _) hn ⟨hm, hj⟩
  · intro i v ys nx I oI C oC D m₂ h tk E' hi hP hJ hC hx F N hn
    exact turn i v ys nx I oI C oC D m₂ h tk E' hi (by simpa using hP) hJ.2 hJ.1 hC hx F N hn
  · exact fun ys nx hn hJ => finE hn fun D h tk F N hn => fin ys nx D h tk hJ.2 hJ.1 F N hn

theorem tup_st {ax I : Addr} {its : Array Value} {k : Nat} : ∀ i (h h' : Heap) (o : Obj) (nw : Led), (h.IsTupleIter I ax i ∧ h.IsTuple ax its) → h.get? I = some o → h'.get? I = some o → (∀ b o, h₀.get? b = some o → h'.get? b = some o) → News h₀ L h' nw → (ax, ({ cls := .type "tuple", data := .seq its k } : Obj)) ∈ nw → (h'.IsTupleIter I ax i ∧ h'.IsTuple ax its) :=
  fun i h h' o nw st e e' _ N S => ⟨by obtain ⟨o', q, r⟩ := st.1; rw [e] at q; cases q; exact ⟨o, e', r⟩, ⟨_, (N _ S).1, rfl, _, rfl⟩⟩

theorem compU_tuple {iter : Expr} {px : Pos} {pos : Pos} {Q : Value → Shared → Prop} (F₀ : Fr h₀ L s.heap m)
    (hclos : closureFor scope env = pure cl) (hcell : ∀ y ∈ scope.names, y.2 ≠ .cell) (hkind : scope.kind = .function)
    (hnames : ∀ y ∈ scope.names, y.2 = .local → scope.names.lookup y.1 = some .local) (hx : scope.names.lookup x = some .local)
    (h : wpAny (model prog w) A (eval iter env) (fun xv s₁ => ∃ ax vs k news, xv = .ref ax ∧ A.handled = none ∧ Fr h₀ L s₁.heap m ∧ News h₀ L s₁.heap news ∧ Nod news ∧ (ax, tupOf vs k) ∈ news ∧ vs.length ≤ 400 ∧
      ∃ J : Nat → List Value → Led → Prop, J 0 [] news ∧
      (∀ i v ys nx I oI C oC D m₂ h tk (E' : Value → Shared → Prop), i < vs.length → vs[i]? = some v → J i ys nx → (ax, tupOf vs k) ∈ nx → LCg.NsObj oC m₂ → m₂ x = some v → Fr h₀ L h m → News h₀ L h ((I, oI) :: (C, oC) :: (D, LCg.lst ys) :: nx) → Nod ((I, oI) :: (C, oC) :: (D, LCg.lst ys) :: nx) →
        wpAny (model prog w) A (eval elt (compEnvC scope cl C env)) (CEnd h₀ L m { s₁ with heap := h, toks := tk } I oI C oC D (LCg.lst ys) (fun y nx' => (ax, tupOf vs k) ∈ nx' ∧ J (i + 1) (ys ++ [y]) nx')) E' { s₁ with heap := h, toks := tk }) ∧
      (∀ ys nx D h tk, J vs.length ys nx → (ax, tupOf vs k) ∈ nx → Fr h₀ L h m → News h₀ L h ((D, LCg.lst ys) :: nx) → Nod ((D, LCg.lst ys) :: nx) → Q (.ref D) { s₁ with heap := h, toks := tk })) E s)
    (hs : ∀ x, foldedSetIterable iter env x = pure x := by intro _; rfl) :
    wpAny (model prog w) A (eval (.ListComp elt [⟨.Name x px, iter, [], 0⟩] scope pos) env) Q E s := by
  rw [eval_ListComp]
  refine wpAny_comprehension_free (use := none) rfl hs hclos hkind hnames (wpAny_mono h (fun xv s₁ h₁ => ?_) fun _ _ e => e)
  refine with_goal fun X79 hX79 => ?_
  refine ex_4 (h₁) ?_
  (try clear h₁)
  intro ax vs k news q9o
  refine an_8 q9o ?_
  clear q9o
  intro r9q
  subst r9q
  intro hh
  intro F
  intro N
  intro hn
  intro hm
  intro hfew
  intro q9o
  refine ex_1 q9o ?_
  clear q9o
  intro J q9o
  refine an_3 q9o ?_
  clear q9o
  intro hj turn fin
  refine hX79 ?_
  have hlen : vs.toArray.size = vs.length := by simp
  have hl : s₁.heap.IsTuple ax vs.toArray := ⟨_, (N _ hm).1, rfl, _, rfl⟩
  have hlt : ax < s₁.heap.objs.size := by obtain ⟨_, e, _⟩ := hl; exact Heap.lt_size e
  refine wpAny_pyIter_tuple hl ?_
  have up : ∀ b o, s₁.heap.get? b = some o → (s₁.heap.push { cls := .type "tuple_iterator", data := .fields #[.ref ax, .int 0 0] }).get? b = some o := fun b o e => Heap.get?_push_of_some _ e
  have W := Walks.tuple (prog := prog) (w := w) hh s₁.heap.objs.size ax (Nat.ne_of_lt hlt) vs.toArray
  rw [hlen] at W
  refine LCg.block_U (S := fun nx => (ax, tupOf vs k) ∈ nx) (Fin := LCg.FinE h₀ L m { s₁ with heap := s₁.heap.push { cls := .type "tuple_iterator", data := .fields #[.ref ax, .int 0 0] } } Q) W (by rw [sizeLine_eq]; omega) (fun i h st => by obtain ⟨o, e, _⟩ := st.1; exact ⟨o, e⟩) tup_st hcell hkind hx ⟨⟨_, Heap.get?_push_size _ rfl, rfl, rfl⟩, hl.at (up ax)⟩ (fun b hb => ?_)
    (F.keeps up) (N.grown up) (Nat.ne_of_lt F.ns.lt) (next_is_new F) (fun p hp => Nat.ne_of_lt (Heap.lt_size (N p hp).1)) hm ?_ ?_
  · show b < (s₁.heap.push _).objs.size
    rw [Heap.size_push]
    rcases List.mem_cons.mp hb with rfl | hb
    · exact Nat.lt_succ_self _
    · rw [List.mem_singleton.mp hb]; exact Nat.lt_succ_of_lt hlt
  · refine restU_inv (fun i ys nx => (ax, tupOf vs k) ∈ nx ∧ J i ys nx) (fun _ _ _ h => h.1) ?_ ?_ vs.length 0 [] news (Nat.zero_add _) hn ⟨hm, hj⟩
    · intro i v ys nx I oI C oC D m₂ h tk E' hi hP hJ hC hx F N hn
      exact turn i v ys nx I oI C oC D m₂ h tk E' hi (by simpa using hP) hJ.2 hJ.1 hC hx F N hn
    · exact fun ys nx hn hJ => finE hn fun D h tk F N hn => fin ys nx D h tk hJ.2 hJ.1 F N hn
  · intro D C h tk m' ys news' F' N' o1 hn hC₀ hD₀ hCL hDL hCD offC fin
    refine ⟨m', hn, fun h'' hs'' => fin D h'' tk (F'.change hs'' hCL hC₀) (fun p hp => ?_) o1⟩
    refine ⟨hs''.extBut _ _ ?_ (N' p hp).1, (N' p hp).2⟩
    rcases List.mem_cons.mp hp with rfl | hp
    · exact Ne.symm hCD
    · exact offC p hp

theorem compT_range0 {Q : Value → Shared → Prop} {r : Addr} {a b : Int} {t u v : Tok} {n : Nat} {news : Led} {s₁ : Shared} (I₀ : Nat → List Value → Prop)
    (hh : A.handled = none) (F : Fr h₀ L s₁.heap m) (N : News h₀ L s₁.heap news) (hn : Nod news) (hr : IsRange s₁.heap r a b 1 t u v) (hsm : Builtin.Range.small a b 1 = true) (hsz : Builtin.Range.rangeSize a b 1 = ((n : Nat) : Int)) (hfew : n ≤ 400) (hj : I₀ 0 [])
    (turn : ∀ (i : Nat) t ys I oI C oC D m₂ h tk (E' : Value → Shared → Prop), i < n → I₀ i ys → LCg.NsObj oC m₂ → m₂ x = some (.int (a + (i : Int)) t) → Fr h₀ L h m → News h₀ L h ((I, oI) :: (C, oC) :: (D, LCg.lst ys) :: news) → Nod ((I, oI) :: (C, oC) :: (D, LCg.lst ys) :: news) →
      wpAny (model prog w) A (isTrue ct (compEnvC scope cl C env) (eval ct (compEnvC scope cl C env))) (fun ok s' => if ok = true then
        wpAny (model prog w) A (eval elt (compEnvC scope cl C env)) (CEnd h₀ L m { s₁ with heap := h, toks := tk } I oI C oC D (LCg.lst ys) (fun y nx' => nx' = news ∧ I₀ (i + 1) (ys ++ [y]))) E' s'
        else CEnd h₀ L m { s₁ with heap := h, toks := tk } I oI C oC D (LCg.lst ys) (fun _ nx' => nx' = news ∧ I₀ (i + 1) ys) Value.none s') E' { s₁ with heap := h, toks := tk })
    (fin : ∀ ys D h tk, I₀ n ys → Fr h₀ L h m → News h₀ L h ((D, LCg.lst ys) :: news) → Nod ((D, LCg.lst ys) :: news) → Q (.ref D) { s₁ with heap := h, toks := tk }) :
    LCt.CompSrcT prog w A h₀ L m env ct elt x scope cl (fun s₂ => LCg.FinE h₀ L m s₂ Q) (.ref r) s₁ :=
  compT_range (fun i ys nx => nx = news ∧ I₀ i ys) hh F N hn hr hsm hsz hfew ⟨rfl, hj⟩
    (fun i t ys nx I oI C oC D m₂ h tk E' hi hJ hC hx F₁ N₁ hn₁ => by
      refine an_2 (hJ) ?_
      (try clear hJ)
      intro e hJ
      subst e
      exact turn i t ys I oI C oC D m₂ h tk E' hi hJ hC hx F₁ N₁ hn₁)
    (fun ys nx D h tk hJ F₁ N₁ hn₁ => by
      refine an_2 (hJ) ?_
      (try clear hJ)
      intro e hJ
      subst e
      exact fin ys D h tk hJ F₁ N₁ hn₁)

theorem compT_list0 {Q : Value → Shared → Prop} {ax : Addr} {vs : List Value} {k : Nat} {news : Led} {s₁ : Shared} (I₀ : Nat → List Value → Prop)
    (hh : A.handled = none) (F : Fr h₀ L s₁.heap m) (N : News h₀ L s₁.heap news) (hn : Nod news) (hm : (ax, listOf vs.toArray k) ∈ news) (hfew : vs.length ≤ 400) (hj : I₀ 0 [])
    (turn : ∀ i v ys I oI C oC D m₂ h tk (E' : Value → Shared → Prop), i < vs.length → vs[i]? = some v → I₀ i ys → LCg.NsObj oC m₂ → m₂ x = some v → Fr h₀ L h m → News h₀ L h ((I, oI) :: (C, oC) :: (D, LCg.lst ys) :: news) → Nod ((I, oI) :: (C, oC) :: (D, LCg.lst ys) :: news) →
      wpAny (model prog w) A (isTrue ct (compEnvC scope cl C env) (eval ct (compEnvC scope cl C env))) (fun ok s' => if ok = true then
        wpAny (model prog w) A (eval elt (compEnvC scope cl C env)) (CEnd h₀ L m { s₁ with heap := h, toks := tk } I oI C oC D (LCg.lst ys) (fun y nx' => nx' = news ∧ I₀ (i + 1) (ys ++ [y]))) E' s'
        else CEnd h₀ L m { s₁ with heap := h, toks := tk } I oI C oC D (LCg.lst ys) (fun _ nx' => nx' = news ∧ I₀ (i + 1) ys) Value.none s') E' { s₁ with heap := h, toks := tk })
    (fin : ∀ ys D h tk, I₀ vs.length ys → Fr h₀ L h m → News h₀ L h ((D, LCg.lst ys) :: news) → Nod ((D, LCg.lst ys) :: news) → Q (.ref D) { s₁ with heap := h, toks := tk }) :
    LCt.CompSrcT prog w A h₀ L m env ct elt x scope cl (fun s₂ => LCg.FinE h₀ L m s₂ Q) (.ref ax) s₁ :=
  compT_list (fun i ys nx => nx = news ∧ I₀ i ys) hh F N hn hm hfew ⟨rfl, hj⟩
    (fun i v ys nx I oI C oC D m₂ h tk E' hi hv hJ _ hC hx F₁ N₁ hn₁ => by
      refine an_2 (hJ) ?_
      (try clear hJ)
      intro e hJ
      subst e
      refine wpAny_mono (turn i v ys I oI C oC D m₂ h tk E' hi hv hJ hC hx F₁ N₁ hn₁) (fun b s₂ hq => ?_) fun _ _ e => e
      cases b with
      | true =>
        simp only [if_true] at hq ⊢
        refine wpAny_mono hq (fun y s₃ hr => ?_) fun _ _ e => e
        refine ex_3 (hr) ?_
        (try clear hr)
        intro h' tk' nx' q9o
        refine an_6 q9o ?_
        clear q9o
        intro e F' N' hn' e2 hr'
        exact ⟨h', tk', nx', e, F', N', hn', e2 ▸ hm, e2, hr'⟩
      | false =>
        simp only [Bool.false_eq_true, if_false] at hq ⊢
        refine ex_3 (hq) ?_
        (try clear hq)
        intro h' tk' nx' q9o
        refine an_6 q9o ?_
        clear q9o
        intro e F' N' hn' e2 hr'
        exact ⟨h', tk', nx', e, F', N', hn', e2 ▸ hm, e2, hr'⟩)
    (fun ys nx D h tk hJ _ F₁ N₁ hn₁ => by
      refine an_2 (hJ) ?_
      (try clear hJ)
      intro e hJ
      subst e
      exact fin ys D h tk hJ F₁ N₁ hn₁)
end

end
end
section
local macro_rules | `(tactic| omega) => `(tactic| first | with_reducible assumption | exact Nat.le_of_lt (by with_reducible assumption) | exact Nat.le_trans (by with_reducible assumption) (by decide) | exact Nat.lt_of_lt_of_le (by with_reducible assumption) (by decide) | exact Nat.lt_of_le_of_lt (by with_reducible assumption) (by decide) | exact Nat.le_trans (Nat.le_of_lt (by with_reducible assumption)) (by decide) | exact Nat.ne_of_lt (by with_reducible assumption) | exact Nat.ne_of_gt (by with_reducible assumption) | exact om_ne1 _ 0 | exact om_ne1 _ 1 | exact om_ne1 _ 2 | exact om_ne1 _ 3 | exact om_ne1 _ 4 | exact om_ne2 _ 0 | exact om_ne2 _ 1 | exact om_ne2 _ 2 | exact om_ne2 _ 3 | exact om_ne2 _ 4)
local macro_rules | `(tactic| walk_at "exec For") => `(tactic| (k_here; (with_reducible show wpAny _ _ (exec (Stmt.For (Expr.Name _ _) _ _ [] _) _) _ _ _); (rename Fr _ _ _ _ => lF'); (with_unfolding_all refine' For_invVF lF' ?k1 ?k2 ?_; (case k1 => exact rfl); (case k2 => exact rfl); k_whole)))
local macro_rules | `(tactic| walk_at "exec For Name Name cons nil") => `(tactic| (k_here; (with_reducible show wpAny _ _ (exec (Stmt.For (Expr.Name _ _) _ _ [] _) _) _ _ _); (rename Fr _ _ _ _ => lF'); (with_unfolding_all refine' For_invVF lF' ?k1 ?k2 ?_; (case k1 => exact rfl); (case k2 => exact rfl); k_whole)))
local macro_rules | `(tactic| walk_at "exec For Name Call cons nil") => `(tactic| (k_here; (with_reducible show wpAny _ _ (exec (Stmt.For (Expr.Name _ _) _ _ [] _) _) _ _ _); (rename Fr _ _ _ _ => lF'); (with_unfolding_all refine' For_invVF lF' ?k1 ?k2 ?_; (case k1 => exact rfl); (case k2 => exact rfl); k_whole)))
local macro_rules | `(tactic| walk_at "exec For Name Attribute cons nil") => `(tactic| (k_here; (with_reducible show wpAny _ _ (exec (Stmt.For (Expr.Name _ _) _ _ [] _) _) _ _ _); (rename Fr _ _ _ _ => lF'); (with_unfolding_all refine' For_invVF lF' ?k1 ?k2 ?_; (case k1 => exact rfl); (case k2 => exact rfl); k_whole)))
local macro_rules | `(tactic| walk_at "newTuple") => `(tactic| (k_here; k_dflt (refine' kup_newTuple ?F ?N ?_ ?z; (case F => k_asm); (case N => k_asm); (case z => ((try simp only [sizeLine_eq, List.length_cons, List.length_nil]); omega))); intro D' h' F' N' l1; (try k_lt l1); (try k_sweep)))
local macro_rules | `(tactic| walk_at "call builtin:list.append") => `(tactic| (k_here; (with_reducible show wpAny _ _ (call (Value.builtin _) [Value.ref _, _]) _ _ _); k_dflt (refine' append_K ?k1 ?k2 ?k3 ?_ ?z; (case k1 => k_asm); (case k2 => k_asm); (case k3 => k_upd); (case z => ((try simp only [List.size_toArray, List.length_append, List.length_cons, List.length_nil, sizeLine_eq]); omega)); k_whole); intro h' F' N'; (try simp only [List.push_toArray] at N'); (try k_sweep)))
local macro_rules | `(tactic| walk_at "subscriptTail") => `(tactic| (k_here; (with_reducible show wpAny _ _ (subscriptTail _ _ (Value.ref _) (Value.int _ _)) _ _ _); k_dflt (refine' item_led ?N ?m ?a ?b ?x ?_; (case N => k_asm); (case m => k_mem); (case a => first | decide | omega); (case b => first | decide | omega); (case x => first | rfl | assumption); k_whole)))
local macro_rules | `(tactic| walk_at "call builtin:len") => `(tactic| (k_here; (with_reducible show wpAny _ _ (call (Value.builtin "len") [Value.ref _]) _ _ _); k_dflt (refine' len_led ?N ?m ?e ?f ?_; (case N => k_asm); (case m => k_mem); (case e => first | exact len0 | exact len1 _ | exact len2 _ _ _ | assumption | exact rfl); (case f => first | omega | decide); k_whole)))
local macro_rules | `(tactic| walk_at "call type:tuple") => `(tactic| (k_here; (with_reducible show wpAny _ _ (call (Value.type _) [Value.ref _]) _ _ _); k_dflt (refine' kde_tupleOf ?k1 ?k2 ?k3 ?k4 ?k5 ?_; (case k1 => k_asm); (case k2 => k_asm); (case k3 => exact News.isList (by k_asm) (by k_mem)); (case k4 => (simp only [sizeLine_eq, List.length_cons, List.size_toArray]; omega)); (case k5 => rfl); k_whole); intro D' h' F' N' l1; (try k_lt l1); (try k_sweep)))
section
theorem offMatch2 : True := by
  w_top off
  trivial

/-- ints at the values; hidden from the library's lines -/
structure Ints (vs : List Value) (ns : List Int) : Prop where
  is : IntsAre vs ns
theorem Ints.length {vs : List Value} {ns : List Int} (h : Ints vs ns) : vs.length = ns.length := h.is.length
theorem Ints.nil : Ints [] [] := ⟨.nil⟩
theorem Ints.append {vs ws : List Value} {ns ms : List Int} (h : Ints vs ns) (k : Ints ws ms) : Ints (vs ++ ws) (ns ++ ms) := by
  obtain ⟨h⟩ := h
  refine ⟨?_⟩
  induction h with
  | nil => exact k.is
  | cons n t _ ih => exact .cons n t ih
theorem Ints.one (n : Int) (t : Tok) : Ints [.int n t] [n] := ⟨.cons n t .nil⟩
theorem Ints.get {vs : List Value} {ns : List Int} (h : Ints vs ns) {i : Nat} {v : Value} (hv : vs[i]? = some v) : ∃ n t, ns[i]? = some n ∧ v = .int n t := by
  obtain ⟨h⟩ := h
  induction h generalizing i with
  | nil => cases hv
  | cons n t _ ih =>
    cases i with
    | zero => cases hv; exact ⟨n, t, rfl, rfl⟩
    | succ i => exact ih hv

/-- a clause's code -/
structure Cod where
  key : Key
  ins : List Dat
  
/-- a clause's code, in the ledger -/
def CodIn (l : Led) (v : Value) (c : Cod) : Prop :=
  ∃ (xa xd ka ia : Addr) (h1 h2 h3 h4 : Int) (t1 t2 t3 t4 : Tok) (fv uv : Value) (iv : List Value) (n e : Nat), v = .ref xa ∧ (xa, instObj 123 xd) ∈ l ∧
    (xd, dictOf [⟨h1, .str (Str.ofString "functor") t1, fv⟩, ⟨h2, .str (Str.ofString "key") t2, .ref ka⟩, ⟨h3, .str (Str.ofString "instrs") t3, .ref ia⟩, ⟨h4, .str (Str.ofString "used") t4, uv⟩] e) ∈ l ∧
    KeyIn l (.ref ka) c.key ∧ (ia, listOf iv.toArray n) ∈ l ∧ DatAll l iv c.ins
def CodsAre (l : Led) (vs : List Value) (cs : List Cod) : Prop := All2 (CodIn l) vs cs
theorem CodIn.mono {l l' : Led} {v : Value} {c : Cod} (h : CodIn l v c) (hs : ∀ p ∈ l, p ∈ l') : CodIn l' v c := by
  refine with_goal fun X79 hX79 => ?_
  refine ex_17 (h) ?_
  (try clear h)
  intro xa xd kb ia h1 h2 h3 h4 t1 t2 t3 t4 fv uv iv n e q9o
  refine an_6 q9o ?_
  clear q9o
  intro r9q
  subst r9q
  intro hx1
  intro hx2
  intro hx3
  intro hx4
  intro hx5
  refine hX79 ?_
  exact ⟨xa, xd, kb, ia, h1, h2, h3, h4, t1, t2, t3, t4, fv, uv, iv, n, e, rfl, hs _ hx1, hs _ hx2, hx3.mono hs, hs _ hx4, hx5.mono hs⟩
theorem CodsAre.mono {l l' : Led} {vs : List Value} {cs : List Cod} (h : CodsAre l vs cs) (hs : ∀ p ∈ l, p ∈ l') : CodsAre l' vs cs := All2.mono (fun _ _ h => h.mono hs) h
theorem KeyIn.mono {l l' : Led} {v : Value} {k : Key} (hs : ∀ p ∈ l, p ∈ l') (h : KeyIn l v k) : KeyIn l' v k := DatIn.mono hs h
def keyOf (cs : List Cod) (p : Int) : Key := (cs[p.toNat]?.map (·.key)).getD .var
/-- which clauses match the key -/
def matchA (cs : List Cod) (ps : List Int) (k : Key) : List Int := ps.filter fun p => decide (keyOf cs p = .var ∨ k = .var ∨ keyOf cs p = k)

theorem matching_places_does (w : World) (ba bd co ro ch kn pa ka : Addr) (x : BTok) (ar : Int) (ta : Tok) (nl : Int) (tn : Tok) (cv : List Value) (cn : Nat) (cs : List Cod) (pv : List Value) (pc : Nat) (ps : List Int) (k : Key) (rest : Led)
    (hi : (ba, instObj 102 bd) ∈ rest) (hb : (bd, bDict x ar ta co ro ch kn nl tn) ∈ rest) (hc : (co, listOf cv.toArray cn) ∈ rest) (hcs : CodsAre rest cv cs) (hp : (pa, listOf pv.toArray pc) ∈ rest) (hpi : Ints pv ps) (hpl : ps.length ≤ 8)
    (hin : ∀ p ∈ ps, 0 ≤ p ∧ p < cs.length) (hcl : cs.length ≤ 4) (hkey : KeyIn rest (.ref ka) k) :
    Does w 71 [.ref ba, .ref pa, .ref ka] [] rest 12 600
      (fun r chg add => ∃ D vs c, r = .ref D ∧ chg = [] ∧ add = [(D, listOf vs.toArray c)] ∧ Ints vs (matchA cs ps k)) := by
  unfold Does
  k_fill
  intro dp un gd env outer A₀ base h₀ L m s mean mg mb Q E _ B F X N hnod T hk hL hd hu hret
  try simp only [List.cons_append, List.nil_append] at N hnod
  ((first | refine peelA hnod (by with_reducible ((repeat (first | exact it_nil | (apply it_na) | (apply it_ca) | (apply it_aa) | (apply it_cons) | (apply it_app))); (try exact it_last))) ?_ | refine peelN hnod (by with_reducible ((repeat (first | exact it_nil | (apply it_na) | (apply it_ca) | (apply it_aa) | (apply it_cons) | (apply it_app))); (try exact it_last))) ?_ | refine peelR hnod (by with_reducible ((repeat (first | exact it_nil | (apply it_na) | (apply it_ca) | (apply it_aa) | (apply it_cons) | (apply it_app))); (try exact it_last))) ?_); (repeat (intro hq9)); refine Past.mk ?_)
  refine wpAny_call ?_
  dsimp only [bDict] at hb
  k_dflt (refine' code_def ?k1 ?k2 ?k3 ?k4 ?k5 ?kA ?kF ?kK ?k6 ?k7 ?k8 ?k9 ?kB ?_ ?c2 ?c3 ?c4 ?c5; (case kA => exact rfl); (case kF => assumption); (case kK => assumption); (case k1 => k_asm); (case k2 => k_asm); (case k3 => k_asm); (case k4 => k_asm); (case k5 => k_asm); (case k6 => k_is); (case k7 => k_is); (case k8 => ktr_room); (case k9 => exact BindsTo.of_eq rfl); (case c5 => decide); (case kB => exact locs rfl); (case c2 => exact rfl); (case c3 => exact rfl); (case c4 => exact rfl); k_whole; intro g' L' h' FG' F' N' B' X' T'; (try refine wp_toks fun tk9 => ?_); (try dsimp only); (try k_fold))
  have hlp : pv.length ≤ 8 := by rw [hpi.length]; exact hpl
  k_steps
  rename AllLt _ rest => hlt
  rename News _ _ _ _ => N1
  rename Fr _ _ _ _ => F1
  apply loop_list (σ := Addr × List Value × Nat) (fun c => [(Str.ofString "found", .ref c.1)]) [] (fun i c nx => AllLt c.1 rest ∧ nx = (c.1, listOf c.2.1.toArray c.2.2) :: rest ∧ Ints c.2.1 (matchA cs (ps.take i) k)) (_, [], 0)
  case hh => rfl
  case F => exact F1
  case N => exact N1
  case hj => exact ⟨hlt, rfl, Ints.nil⟩
  case hl => k_mem
  case hn => kat_tups
  case hk => first | ((repeat (first | exact fr_nil | refine fr_cons (by rfl) ?_)); done) | (intro p hp; rw [List.mem_singleton.mp hp]; rfl)
  case turn =>
    rintro i v ⟨D, vs, c⟩ nx u h tk I oI hi' hv hJ79 hl hn F2 N2
    refine turn_cps ?_
    intro q79 hq79 hb79 hr79
    refine an_3 (hJ79) ?_
    (try clear hJ79)
    intro hD
    intro r9q
    subst r9q
    intro hI
    refine with_goal fun X79 hX79 => ?_
    refine ex_2 (hpi.get hv) ?_
    intro p t q9o
    refine an_2 q9o ?_
    clear q9o
    intro hpp
    intro r9q
    subst r9q
    refine hX79 ?_
    refine an_2 (hin p (List.mem_of_getElem? hpp)) ?_
    intro hp0 hp1
    obtain ⟨cd, hcd⟩ : ∃ cd, cs[p.toNat]? = some cd := ⟨cs[p.toNat]'(by omega), List.getElem?_eq_getElem (by omega)⟩
    refine with_goal fun X79 hX79 => ?_
    refine ex_1 (hcs.get hcd) ?_
    intro _ q9o
    refine an_2 q9o ?_
    clear q9o
    intro hv1 q9o
    refine ex_17 q9o ?_
    clear q9o
    intro xa xd kb ia h1 h2 h3 h4 t1 t2 t3 t4 fv uv iv n e q9o
    refine an_6 q9o ?_
    clear q9o
    intro r9q
    subst r9q
    intro hx1
    intro hx2
    intro hx3
    intro hx4
    intro hx5
    refine hX79 ?_
    have hnI := nodA.mp hn
    ((first | refine peelA hnI (by with_reducible ((repeat (first | exact it_nil | (apply it_na) | (apply it_ca) | (apply it_aa) | (apply it_cons) | (apply it_app))); (try exact it_last))) ?_ | refine peelN hnI (by with_reducible ((repeat (first | exact it_nil | (apply it_na) | (apply it_ca) | (apply it_aa) | (apply it_cons) | (apply it_app))); (try exact it_last))) ?_ | refine peelR hnI (by with_reducible ((repeat (first | exact it_nil | (apply it_na) | (apply it_ca) | (apply it_aa) | (apply it_cons) | (apply it_app))); (try exact it_last))) ?_); (repeat (intro hq9)); refine Past.mk ?_)
    have hvl : vs.length ≤ 8 := by rw [hI.length]; exact Nat.le_trans (List.length_filter_le _ _) (by rw [List.length_take]; omega)
    have hko : keyOf cs p = cd.key := by unfold keyOf; rw [hcd]; rfl
    dsimp only [kstB] at F2
    try k_fold
    k_steps
    try dsimp only [List.nil_append, List.cons_append, List.append_nil]
    try k_fold
    k_dflt (refine' Does.use0 (matching_does w kb ka cd.key k _ ?hA ?hB) ?uB ?uF ?uX ?uN ?un ?uT ?uk ?uL ?ud ?uu ?_; (case uN => k_asm); (case uB => k_asm); (case uF => k_asm); (case uX => k_asm); (case un => first | assumption | kat_tups); (case uT => k_asm); (case uk => rfl); (case uL => rfl); (case ud => ktr_room); (case uu => tlg_ne); (case hA => exact DatIn.mono (by k_sub) hx3); (case hB => exact DatIn.mono (by k_sub) hkey)); intro r' chg' add' h' tk' F' N' nod' young' post'
    refine with_goal fun X79 hX79 => ?_
    refine an_3 (post') ?_
    (try clear post')
    intro r9q
    subst r9q
    intro r9q
    subst r9q
    intro r9q
    subst r9q
    refine hX79 ?_
    simp only [List.cons_append, List.nil_append] at N' nod'
    k_steps
    · rename _ ∨ _ => hy
      rename News g' L' _ _ => kN
      rename Fr g' L' _ _ => kF
      skip
      refine (hq79 (D, vs ++ [.int p t], c + 1) _ _ _ _ kF (by first | ((repeat (first | exact fr_nil | refine fr_cons (by rfl) ?_)); done) | (intro q hq; rw [List.mem_singleton.mp hq]; rfl)) (by intro z z1 z2 z3; first | ((repeat (first | with_reducible rfl | with_reducible assumption | refine kp_st (by with_reducible assumption) ?_ | refine kp_set (by first | with_reducible exact z1 | with_reducible exact z2 _ List.mem_cons_self | with_reducible exact z2 _ (List.mem_cons_of_mem _ List.mem_cons_self) | with_reducible exact z2 _ (List.mem_cons_of_mem _ (List.mem_cons_of_mem _ List.mem_cons_self)) | exact kp_con z3 (by ((repeat (with_reducible_and_instances first | exact List.Mem.head _ | refine List.Mem.tail _ ?_)); (first | done | fail "open")))) ?_ | refine kp_same (by assumption) ?_ | exact rfl)); done) | ((have z4 := z2 _ List.mem_cons_self); (try dsimp only); simp only [if_neg z1, if_neg z4, z3, Bool.false_eq_true, if_false])) kN hn (by (first | exact fun p hp => hp | ((repeat' (first | refine fa_app ?_ ?_ | refine fa_cons ?_ ?_ | refine List.forall_mem_append.mpr ⟨?_, ?_⟩ | refine List.forall_mem_cons.mpr ⟨?_, ?_⟩)) <;> (first | exact List.forall_mem_nil _ | (intro p9 hp9; kp_flats) | kp_flats)))) ⟨hD, rfl, ?_⟩).1
      have := hI.append (.one p t)
      unfold matchA at this ⊢
      rw [filter_take hpp, hko, if_pos (decide_eq_true hy)]
      exact this
    · rename ¬ (_ ∨ _) => hy
      rename News g' L' _ _ => kN
      rename Fr g' L' _ _ => kF
      skip
      refine (hq79 (D, vs, c) _ _ _ _ kF (by first | ((repeat (first | exact fr_nil | refine fr_cons (by rfl) ?_)); done) | (intro q hq; rw [List.mem_singleton.mp hq]; rfl)) (by intro z z1 z2 z3; first | ((repeat (first | with_reducible rfl | with_reducible assumption | refine kp_st (by with_reducible assumption) ?_ | refine kp_set (by first | with_reducible exact z1 | with_reducible exact z2 _ List.mem_cons_self | with_reducible exact z2 _ (List.mem_cons_of_mem _ List.mem_cons_self) | with_reducible exact z2 _ (List.mem_cons_of_mem _ (List.mem_cons_of_mem _ List.mem_cons_self)) | exact kp_con z3 (by ((repeat (with_reducible_and_instances first | exact List.Mem.head _ | refine List.Mem.tail _ ?_)); (first | done | fail "open")))) ?_ | refine kp_same (by assumption) ?_ | exact rfl)); done) | ((have z4 := z2 _ List.mem_cons_self); (try dsimp only); simp only [if_neg z1, if_neg z4, z3, Bool.false_eq_true, if_false])) kN hn (by (first | exact fun p hp => hp | ((repeat' (first | refine fa_app ?_ ?_ | refine fa_cons ?_ ?_ | refine List.forall_mem_append.mpr ⟨?_, ?_⟩ | refine List.forall_mem_cons.mpr ⟨?_, ?_⟩)) <;> (first | exact List.forall_mem_nil _ | (intro p9 hp9; kp_flats) | kp_flats)))) ⟨hD, rfl, ?_⟩).1
      unfold matchA at hI ⊢
      rw [filter_take hpp, hko, if_neg (by simpa using hy), List.append_nil]
      exact hI
  case done => 
    rintro ⟨D, vs, c⟩ nx u h tk hJ79 hl hn F2 N2
    refine an_3 (hJ79) ?_
    (try clear hJ79)
    intro hD
    intro r9q
    subst r9q
    intro hI
    dsimp only [kstB] at F2
    k_steps
    rename News h₀ L _ _ => kN
    rw [List.take_of_length_le (by rw [hpi.length]; exact Nat.le_refl _)] at hI
    exact hret _ [] [(D, _)] _ _ (by assumption) kN rfl (by ((try simp only [List.cons_append, List.nil_append]); (repeat' (refine Young.cons ?_ ?_)); (all_goals (first | exact Young.nil | (first | ((repeat (first | with_reducible assumption | exact ap_nil | exact Apart.lt (by with_reducible assumption) | exact Apart.ltk _ (by with_reducible assumption) | (with_reducible refine ap_cons (by first | with_reducible assumption | omega) ?_) | (with_reducible refine ap_app (by first | with_reducible assumption | exact Apart.lt (by with_reducible assumption) | exact Apart.ltk _ (by with_reducible assumption)) ?_))); (first | done | fail "open")) | ((try simp only [List.cons_append, List.nil_append, Apart, apart_append, and_true, true_and, and_assoc]); (all_goals ((repeat' apply And.intro) <;> first | assumption | omega | exact Apart.lt (by assumption) | exact Apart.ltk _ (by assumption))))))))) (Nod.one _) ⟨D, vs, c, rfl, rfl, rfl, hI⟩

end
section
theorem offVar2 : True := by
  w_top off
  trivial

local macro_rules | `(tactic| walk_at "compareOp Eq ref ref") => `(tactic| (k_here; (with_reducible show wpAny _ _ (compareOp CmpOp.Eq (Value.ref _) (Value.ref _)) _ _ _); k_dflt (refine eq_keyAt (by (first | exact KeyIn.at (by assumption) (by k_asm) (by k_sub) | exact VAR_in _ _ rfl (by k_in) | assumption)) (by (first | exact KeyIn.at (by assumption) (by k_asm) (by k_sub) | exact VAR_in _ _ rfl (by k_in) | assumption)) (by (first | exact room1 (by assumption) (by decide) | exact room2 (by assumption) (by decide) | exact room3 (by assumption) (by decide) | exact room0 (by assumption) | ke_room | ((try simp only [units_in1, units_deeper, Around.mark_units, units_caller]); (try dsimp only [around]); omega))) ?_)))

/-- which clauses have a variable's key -/
def varA (cs : List Cod) (ps : List Int) : List Int := ps.filter fun p => decide (keyOf cs p = .var)

theorem variable_places_does (w : World) (ba bd co ro ch kn pa : Addr) (x : BTok) (ar : Int) (ta : Tok) (nl : Int) (tn : Tok) (cv : List Value) (cn : Nat) (cs : List Cod) (pv : List Value) (pc : Nat) (ps : List Int) (rest : Led)
    (hi : (ba, instObj 102 bd) ∈ rest) (hb : (bd, bDict x ar ta co ro ch kn nl tn) ∈ rest) (hc : (co, listOf cv.toArray cn) ∈ rest) (hcs : CodsAre rest cv cs) (hp : (pa, listOf pv.toArray pc) ∈ rest) (hpi : Ints pv ps) (hpl : ps.length ≤ 8)
    (hin : ∀ p ∈ ps, 0 ≤ p ∧ p < cs.length) (hcl : cs.length ≤ 4) :
    Does w 78 [.ref ba, .ref pa] [] rest 12 600
      (fun r chg add => ∃ D vs c, r = .ref D ∧ chg = [] ∧ add = [(D, listOf vs.toArray c)] ∧ Ints vs (varA cs ps)) := by
  unfold Does
  k_fill
  intro dp un gd env outer A₀ base h₀ L m s mean mg mb Q E _ B F X N hnod T hk hL hd hu hret
  try simp only [List.cons_append, List.nil_append] at N hnod
  ((first | refine peelA hnod (by with_reducible ((repeat (first | exact it_nil | (apply it_na) | (apply it_ca) | (apply it_aa) | (apply it_cons) | (apply it_app))); (try exact it_last))) ?_ | refine peelN hnod (by with_reducible ((repeat (first | exact it_nil | (apply it_na) | (apply it_ca) | (apply it_aa) | (apply it_cons) | (apply it_app))); (try exact it_last))) ?_ | refine peelR hnod (by with_reducible ((repeat (first | exact it_nil | (apply it_na) | (apply it_ca) | (apply it_aa) | (apply it_cons) | (apply it_app))); (try exact it_last))) ?_); (repeat (intro hq9)); refine Past.mk ?_)
  refine wpAny_call ?_
  dsimp only [bDict] at hb
  k_dflt (refine' code_def ?k1 ?k2 ?k3 ?k4 ?k5 ?kA ?kF ?kK ?k6 ?k7 ?k8 ?k9 ?kB ?_ ?c2 ?c3 ?c4 ?c5; (case kA => exact rfl); (case kF => assumption); (case kK => assumption); (case k1 => k_asm); (case k2 => k_asm); (case k3 => k_asm); (case k4 => k_asm); (case k5 => k_asm); (case k6 => k_is); (case k7 => k_is); (case k8 => ktr_room); (case k9 => exact BindsTo.of_eq rfl); (case c5 => decide); (case kB => exact locs rfl); (case c2 => exact rfl); (case c3 => exact rfl); (case c4 => exact rfl); k_whole; intro g' L' h' FG' F' N' B' X' T'; (try refine wp_toks fun tk9 => ?_); (try dsimp only); (try k_fold))
  have hlp : pv.length ≤ 8 := by rw [hpi.length]; exact hpl
  k_steps
  rename AllLt _ rest => hlt
  rename News _ _ _ _ => N1
  rename Fr _ _ _ _ => F1
  apply loop_list (σ := Addr × List Value × Nat) (fun c => [(Str.ofString "found", .ref c.1)]) [] (fun i c nx => AllLt c.1 rest ∧ nx = (c.1, listOf c.2.1.toArray c.2.2) :: rest ∧ Ints c.2.1 (varA cs (ps.take i))) (_, [], 0)
  case hh => rfl
  case F => exact F1
  case N => exact N1
  case hj => exact ⟨hlt, rfl, Ints.nil⟩
  case hl => k_mem
  case hn => kat_tups
  case hk => first | ((repeat (first | exact fr_nil | refine fr_cons (by rfl) ?_)); done) | (intro p hp; rw [List.mem_singleton.mp hp]; rfl)
  case turn =>
    rintro i v ⟨D, vs, c⟩ nx u h tk I oI hi' hv hJ79 hl hn F2 N2
    refine turn_cps ?_
    intro q79 hq79 hb79 hr79
    refine an_3 (hJ79) ?_
    (try clear hJ79)
    intro hD
    intro r9q
    subst r9q
    intro hI
    refine with_goal fun X79 hX79 => ?_
    refine ex_2 (hpi.get hv) ?_
    intro p t q9o
    refine an_2 q9o ?_
    clear q9o
    intro hpp
    intro r9q
    subst r9q
    refine hX79 ?_
    refine an_2 (hin p (List.mem_of_getElem? hpp)) ?_
    intro hp0 hp1
    obtain ⟨cd, hcd⟩ : ∃ cd, cs[p.toNat]? = some cd := ⟨cs[p.toNat]'(by omega), List.getElem?_eq_getElem (by omega)⟩
    refine with_goal fun X79 hX79 => ?_
    refine ex_1 (hcs.get hcd) ?_
    intro _ q9o
    refine an_2 q9o ?_
    clear q9o
    intro hv1 q9o
    refine ex_17 q9o ?_
    clear q9o
    intro xa xd kb ia h1 h2 h3 h4 t1 t2 t3 t4 fv uv iv n e q9o
    refine an_6 q9o ?_
    clear q9o
    intro r9q
    subst r9q
    intro hx1
    intro hx2
    intro hx3
    intro hx4
    intro hx5
    refine hX79 ?_
    have hnI := nodA.mp hn
    ((first | refine peelA hnI (by with_reducible ((repeat (first | exact it_nil | (apply it_na) | (apply it_ca) | (apply it_aa) | (apply it_cons) | (apply it_app))); (try exact it_last))) ?_ | refine peelN hnI (by with_reducible ((repeat (first | exact it_nil | (apply it_na) | (apply it_ca) | (apply it_aa) | (apply it_cons) | (apply it_app))); (try exact it_last))) ?_ | refine peelR hnI (by with_reducible ((repeat (first | exact it_nil | (apply it_na) | (apply it_ca) | (apply it_aa) | (apply it_cons) | (apply it_app))); (try exact it_last))) ?_); (repeat (intro hq9)); refine Past.mk ?_)
    have hvl : vs.length ≤ 8 := by rw [hI.length]; exact Nat.le_trans (List.length_filter_le _ _) (by rw [List.length_take]; omega)
    have hko : keyOf cs p = cd.key := by unfold keyOf; rw [hcd]; rfl
    dsimp only [kstB] at F2
    try k_fold
    k_steps
    · rename _ = Key.var => hy
      rename News g' L' _ _ => kN
      rename Fr g' L' _ _ => kF
      skip
      refine (hq79 (D, vs ++ [.int p t], c + 1) _ _ _ _ kF (by first | ((repeat (first | exact fr_nil | refine fr_cons (by rfl) ?_)); done) | (intro q hq; rw [List.mem_singleton.mp hq]; rfl)) (by intro z z1 z2 z3; first | ((repeat (first | with_reducible rfl | with_reducible assumption | refine kp_st (by with_reducible assumption) ?_ | refine kp_set (by first | with_reducible exact z1 | with_reducible exact z2 _ List.mem_cons_self | with_reducible exact z2 _ (List.mem_cons_of_mem _ List.mem_cons_self) | with_reducible exact z2 _ (List.mem_cons_of_mem _ (List.mem_cons_of_mem _ List.mem_cons_self)) | exact kp_con z3 (by ((repeat (with_reducible_and_instances first | exact List.Mem.head _ | refine List.Mem.tail _ ?_)); (first | done | fail "open")))) ?_ | refine kp_same (by assumption) ?_ | exact rfl)); done) | ((have z4 := z2 _ List.mem_cons_self); (try dsimp only); simp only [if_neg z1, if_neg z4, z3, Bool.false_eq_true, if_false])) kN hn (by (first | exact fun p hp => hp | ((repeat' (first | refine fa_app ?_ ?_ | refine fa_cons ?_ ?_ | refine List.forall_mem_append.mpr ⟨?_, ?_⟩ | refine List.forall_mem_cons.mpr ⟨?_, ?_⟩)) <;> (first | exact List.forall_mem_nil _ | (intro p9 hp9; kp_flats) | kp_flats)))) ⟨hD, rfl, ?_⟩).1
      have := hI.append (.one p t)
      unfold varA at this ⊢
      rw [filter_take hpp, hko, if_pos (decide_eq_true hy)]
      exact this
    · rename ¬ (_ = Key.var) => hy
      rename News g' L' _ _ => kN
      rename Fr g' L' _ _ => kF
      skip
      refine (hq79 (D, vs, c) _ _ _ _ kF (by first | ((repeat (first | exact fr_nil | refine fr_cons (by rfl) ?_)); done) | (intro q hq; rw [List.mem_singleton.mp hq]; rfl)) (by intro z z1 z2 z3; first | ((repeat (first | with_reducible rfl | with_reducible assumption | refine kp_st (by with_reducible assumption) ?_ | refine kp_set (by first | with_reducible exact z1 | with_reducible exact z2 _ List.mem_cons_self | with_reducible exact z2 _ (List.mem_cons_of_mem _ List.mem_cons_self) | with_reducible exact z2 _ (List.mem_cons_of_mem _ (List.mem_cons_of_mem _ List.mem_cons_self)) | exact kp_con z3 (by ((repeat (with_reducible_and_instances first | exact List.Mem.head _ | refine List.Mem.tail _ ?_)); (first | done | fail "open")))) ?_ | refine kp_same (by assumption) ?_ | exact rfl)); done) | ((have z4 := z2 _ List.mem_cons_self); (try dsimp only); simp only [if_neg z1, if_neg z4, z3, Bool.false_eq_true, if_false])) kN hn (by (first | exact fun p hp => hp | ((repeat' (first | refine fa_app ?_ ?_ | refine fa_cons ?_ ?_ | refine List.forall_mem_append.mpr ⟨?_, ?_⟩ | refine List.forall_mem_cons.mpr ⟨?_, ?_⟩)) <;> (first | exact List.forall_mem_nil _ | (intro p9 hp9; kp_flats) | kp_flats)))) ⟨hD, rfl, ?_⟩).1
      unfold varA at hI ⊢
      rw [filter_take hpp, hko, if_neg (by simpa using hy), List.append_nil]
      exact hI
  case done => 
    rintro ⟨D, vs, c⟩ nx u h tk hJ79 hl hn F2 N2
    refine an_3 (hJ79) ?_
    (try clear hJ79)
    intro hD
    intro r9q
    subst r9q
    intro hI
    dsimp only [kstB] at F2
    k_steps
    rename News h₀ L _ _ => kN
    rw [List.take_of_length_le (by rw [hpi.length]; exact Nat.le_refl _)] at hI
    exact hret _ [] [(D, _)] _ _ (by assumption) kN rfl (by ((try simp only [List.cons_append, List.nil_append]); (repeat' (refine Young.cons ?_ ?_)); (all_goals (first | exact Young.nil | (first | ((repeat (first | with_reducible assumption | exact ap_nil | exact Apart.lt (by with_reducible assumption) | exact Apart.ltk _ (by with_reducible assumption) | (with_reducible refine ap_cons (by first | with_reducible assumption | omega) ?_) | (with_reducible refine ap_app (by first | with_reducible assumption | exact Apart.lt (by with_reducible assumption) | exact Apart.ltk _ (by with_reducible assumption)) ?_))); (first | done | fail "open")) | ((try simp only [List.cons_append, List.nil_append, Apart, apart_append, and_true, true_and, and_assoc]); (all_goals ((repeat' apply And.intro) <;> first | assumption | omega | exact Apart.lt (by assumption) | exact Apart.ltk _ (by assumption))))))))) (Nod.one _) ⟨D, vs, c, rfl, rfl, rfl, hI⟩

end
end
section
local macro_rules | `(tactic| omega) => `(tactic| first | with_reducible assumption | exact Nat.le_of_lt (by with_reducible assumption) | exact Nat.le_trans (by with_reducible assumption) (by decide) | exact Nat.lt_of_lt_of_le (by with_reducible assumption) (by decide) | exact Nat.lt_of_le_of_lt (by with_reducible assumption) (by decide) | exact Nat.le_trans (Nat.le_of_lt (by with_reducible assumption)) (by decide) | exact Nat.ne_of_lt (by with_reducible assumption) | exact Nat.ne_of_gt (by with_reducible assumption) | exact om_ne1 _ 0 | exact om_ne1 _ 1 | exact om_ne1 _ 2 | exact om_ne1 _ 3 | exact om_ne1 _ 4 | exact om_ne2 _ 0 | exact om_ne2 _ 1 | exact om_ne2 _ 2 | exact om_ne2 _ 3 | exact om_ne2 _ 4)
section
theorem offSeen : True := by
  w_top off
  trivial
local macro_rules | `(tactic| walk_at "zz") => `(tactic| skip)

inductive Srt | const | struct
  deriving DecidableEq
def Srt.tag : Srt → Str
  | .const => Str.ofString "const"
  | .struct => Str.ofString "struct"
inductive Word
  | tup (k n : Int)
  | num (n : Int)
  deriving DecidableEq
def Word.dat : Word → Dat
  | .tup k n => .tuple [.int k, .int n]
  | .num n => .int n
def Key.tag : Key → Str
  | .var => Str.ofString "var"
  | .list => Str.ofString "list"
  | .struct _ => Str.ofString "struct"
  | .const _ _ => Str.ofString "const"
/-- the word of a key of that sort -/
def wordOf : Srt → Key → Option Word
  | .const, .const k n => some (.tup k n)
  | .struct, .struct n => some (.num n)
  | _, _ => none
/-- the key of a word -/
def Word.key : Word → Key
  | .tup k n => .const k n
  | .num n => .struct n
def Word.srt : Word → Srt
  | .tup _ _ => .const
  | .num _ => .struct
theorem wordOf_some {t : Srt} {k : Key} {w : Word} (h : wordOf t k = some w) : k = w.key ∧ w.srt = t := by
  cases t <;> cases k <;> simp [wordOf] at h <;> subst h <;> exact ⟨rfl, rfl⟩
theorem tag_eq (k : Key) (t : Srt) : (k.tag == t.tag) = (wordOf t k).isSome := by
  cases k <;> cases t <;> simp only [Key.tag, Srt.tag, wordOf, Option.isSome_some, Option.isSome_none, beq_self_eq_true] <;> decide +kernel

abbrev WordIn (l : Led) (v : Value) (w : Word) : Prop := DatIn l v w.dat

section
variable {prog : Program} {w : World} {A : Around} {E : Value → Shared → Prop} {s : Shared} {h₀ : Heap} {L d : Addr} {news l : Led} {m : Str → Option Value} {o : Obj}

theorem item_dat {value slice : PySem.Expr} {a : Addr} {ds : List Dat} {k : Int} {u : Tok} {dt : Dat} {Q : Value → Shared → Prop} (N : News h₀ L s.heap news) (D : DatIn l (.ref a) (.tuple ds)) (hs : ∀ p ∈ l, p ∈ news) (h0 : 0 ≤ k) (h1 : k < 2 ^ 63)
    (hd : ds[k.toNat]? = some dt) (h : ∀ v, DatIn l v dt → Q v s)
    (hsub : subscripted slice false (.ref a) (.int k u) = operate [.ref a, .int k u] (getItem (.ref a) (.int k u)) := by with_unfolding_all rfl) :
    wpAny (model prog w) A (subscriptTail value slice (.ref a) (.int k u)) Q E s := by
  cases D with
  | @tuple _ vs n _ hm hall =>
    have hlt : k.toNat < ds.length := by
      rcases Nat.lt_or_ge k.toNat ds.length with q | q
      · exact q
      · rw [List.getElem?_eq_none q] at hd; cases hd
    refine ex_1 (hall.get hlt) ?_
    intro v q9o
    refine an_2 q9o ?_
    clear q9o
    intro hv hD
    have hdd : ds[k.toNat] = dt := by rw [List.getElem?_eq_getElem hlt] at hd; exact Option.some.inj hd
    rw [hdd] at hD
    have hvl : k.toNat < vs.length := by rw [hall.length]; exact hlt
    refine item_tupleT (j := k.toNat) (N.isTup (hs _ hm)) (by omega) h1 ?_ hv (h v hD) hsub
    unfold seqIndex?
    have e1 : (k.toNat : Int) = k := Int.toNat_of_nonneg h0
    split <;> first | omega | simp_all <;> omega

theorem key_tag {k : Key} : ∃ ds, k.dat = .tuple ds ∧ ds[0]? = some (.str k.tag) := by
  cases k <;> exact ⟨_, rfl, rfl⟩
theorem key_word {k : Key} {t : Srt} {wd : Word} (h : wordOf t k = some wd) : ∃ ds, k.dat = .tuple ds ∧ ds[1]? = some wd.dat := by
  refine an_2 (wordOf_some h) ?_
  intro r9q
  subst r9q
  intro _
  cases wd <;> exact ⟨_, rfl, rfl⟩

theorem tup_word {l : Led} {v : Value} {k n : Int} (h : WordIn l v (.tup k n)) : ∃ a u1 u2 c, v = .ref a ∧ (a, ({ cls := .type "tuple", data := .seq #[.int k u1, .int n u2] c } : Obj)) ∈ l ∧ TupInts [k, n] ({ cls := .type "tuple", data := .seq #[.int k u1, .int n u2] c } : Obj) := by
  cases h with
  | @tuple a vs c _ ha hall =>
    cases hall with
    | cons q1 hall => cases hall with
      | cons q2 hall => cases hall with
        | nil =>
          cases q1 with
          | int _ u1 => cases q2 with
            | int _ u2 => exact ⟨a, u1, u2, c, rfl, ha, _, _, rfl, .cons _ _ (.cons _ _ .nil)⟩
/-- what is seen already -/
def SeenT (prog : Program) (w : World) (l : Led) (o : Obj) (ks : List (List Int)) : Prop :=
  ∃ (arr : Array DictEntry) (ep : Nat) (xs : List (List Int × Addr × Value)), o = ⟨.type "dict", none, .dict arr ep, #[]⟩ ∧ arr.toList = xs.map (entryOfKey (tupleKind (PySem.intKind prog w))) ∧ (xs.map (·.1)).Nodup ∧
    (∀ x ∈ xs, ∃ ok, (x.2.1, ok) ∈ l ∧ TupInts x.1 ok) ∧ xs.map (·.1) = ks
def Seen (prog : Program) (w : World) (l : Led) (o : Obj) : Srt → List Word → Prop
  | .const, ws => ∃ ks : List (Int × Int), ws = ks.map (fun k => Word.tup k.1 k.2) ∧ SeenT prog w l o (ks.map fun k => [k.1, k.2])
  | .struct, ws => ∃ kvs : List (Int × Value), ws = kvs.map (fun k => Word.num k.1) ∧ o.IsDictOf (PySem.intKind prog w) kvs
theorem Seen.mono {l' : Led} {t : Srt} {ws : List Word} (T : Seen prog w l o t ws) (hs : ∀ p ∈ l, p ∈ l') : Seen prog w l' o t ws := by
  cases t with
  | const =>
    refine with_goal fun X79 hX79 => ?_
    refine ex_1 (T) ?_
    (try clear T)
    intro ks q9o
    refine an_2 q9o ?_
    clear q9o
    intro h0 q9o
    refine ex_3 q9o ?_
    clear q9o
    intro arr ep xs q9o
    refine an_5 q9o ?_
    clear q9o
    intro h1 h2 h3 h4 h5
    refine hX79 ?_
    exact ⟨ks, h0, arr, ep, xs, h1, h2, h3, fun x hx => let ⟨ok, a, b⟩ := h4 x hx; ⟨ok, hs _ a, b⟩, h5⟩
  | struct => exact T
theorem Seen.nil {t : Srt} (h : o.IsDictOf (PySem.intKind prog w) []) : Seen prog w l o t [] := by
  cases t with
  | const =>
    refine ex_2 (h) ?_
    (try clear h)
    intro es ep q9o
    refine an_5 q9o ?_
    clear q9o
    intro hc hdat _ hp _
    have he : es.toList = [] := List.length_eq_zero_iff.mp hp.length
    obtain ⟨oc, od, oda, osl⟩ := o
    refine with_goal fun X79 hX79 => ?_
    refine an_3 (hc) ?_
    (try clear hc)
    intro r9q
    subst r9q
    intro r9q
    subst r9q
    intro r9q
    subst r9q
    refine hX79 ?_
    dsimp only at hdat
    subst hdat
    exact ⟨[], rfl, es, ep, [], rfl, he, List.nodup_nil, fun _ hx => (nomatch hx), rfl⟩
  | struct => exact ⟨[], rfl, h⟩
theorem atKey_mem {xs : List (List Int × Addr × Value)} {k : List Int} : (atKey xs k).isSome = decide (k ∈ xs.map (·.1)) := by
  induction xs with
  | nil => rfl
  | cons x xs ih =>
    by_cases h : x.1 = k
    · simp [atKey, List.find?_cons, h]
    · have e1 : atKey (x :: xs) k = atKey xs k := by simp [atKey, List.find?_cons, h]
      rw [e1, ih, List.map_cons]
      have h' : ¬ k = x.1 := fun e => h e.symm
      simp [h']
theorem valueAt_mem {kvs : List (Int × Value)} {k : Int} : (valueAt kvs k).isSome = decide (k ∈ kvs.map (·.1)) := by
  induction kvs with
  | nil => rfl
  | cons x xs ih =>
    by_cases h : x.1 = k
    · simp [valueAt, List.find?_cons, h]
    · have e1 : valueAt (x :: xs) k = valueAt xs k := by simp [valueAt, List.find?_cons, h]
      rw [e1, ih, List.map_cons]
      have h' : ¬ k = x.1 := fun e => h e.symm
      simp [h']

theorem notin_seen {Q : Value → Shared → Prop} {t : Srt} {ws : List Word} {wd : Word} {v : Value} (hu : A.units + 1 < cLine) (N : News h₀ L s.heap news) (T : Seen prog w l o t ws) (hm : (d, o) ∈ news) (hs : ∀ p ∈ l, p ∈ news) (hd : (d == sysModules) = false)
    (hw : WordIn l v wd) (ht : wd.srt = t) (h : ∀ tk, Q (.bool (!decide (wd ∈ ws))) { s with toks := tk }) : wpAny (model prog w) A (compareOp .NotIn v (.ref d)) Q E s := by
  subst ht
  cases wd with
  | tup k n =>
    refine with_goal fun X79 hX79 => ?_
    refine ex_1 (T) ?_
    (try clear T)
    intro ks q9o
    refine an_2 q9o ?_
    clear q9o
    intro h0 q9o
    refine ex_3 q9o ?_
    clear q9o
    intro arr ep xs q9o
    refine an_5 q9o ?_
    clear q9o
    intro r9q
    subst r9q
    intro h2
    intro h3
    intro h4
    intro h5
    refine hX79 ?_
    refine with_goal fun X79 hX79 => ?_
    refine ex_4 (tup_word hw) ?_
    intro a u1 u2 c q9o
    refine an_3 q9o ?_
    clear q9o
    intro r9q
    subst r9q
    intro ha
    intro hk
    refine hX79 ?_
    have D : s.heap.DictOfH (tupleKind (PySem.intKind prog w)) d xs := ⟨_, arr, ep, N.get hm, ⟨rfl, rfl, rfl⟩, rfl, h2, fun x hx => let ⟨ok, a, b⟩ := h4 x hx; b.key.key (N.get (hs _ a)), h3⟩
    refine wpAny_notIn_heap (knd := tupleKind (PySem.intKind prog w)) (tupleKind_room_in1 hu) (hk.key.key (N.get (hs _ ha))) hd D ?_
    rw [atKey_mem, h5]
    have e : decide ([k, n] ∈ ks.map fun k => [k.1, k.2]) = decide (Word.tup k n ∈ ws) := by
      rw [h0]
      congr 1
      simp [Prod.ext_iff]
    rw [e]
    exact h _
  | num n =>
    refine ex_1 (T) ?_
    (try clear T)
    intro kvs q9o
    refine an_2 q9o ?_
    clear q9o
    intro h0 hD
    cases hw with
    | int _ tk =>
      refine wpAny_notIn_of (knd := PySem.intKind prog w) (k := n) (intKind_is prog w n tk) hd (kda_dict N hm hD).mapOf ?_
      have e : decide (n ∈ kvs.map (·.1)) = decide (Word.num n ∈ ws) := by
        rw [h0]
        congr 1
        simp
      rw [valueAt_mem, e]
      exact h _

theorem set_seen {Q : Unit → Shared → Prop} {t : Srt} {ws : List Word} {wd : Word} {v y : Value} {g : Obj → Led} (hu : A.units + 1 < cLine) (F : Fr h₀ L s.heap m) (N : News h₀ L s.heap news) (T : Seen prog w l o t ws) (U : UpdF d o news g) (hs : ∀ p ∈ l, p ∈ news)
    (hw : WordIn l v wd) (ht : wd.srt = t) (hnot : wd ∉ ws) (hsz : ws.length ≤ sizeLine) (h : ∀ h' o' tk, Fr h₀ L h' m → News h₀ L h' (g o') → Seen prog w l o' t (ws ++ [wd]) → Q () { s with heap := h', toks := tk }) :
    wpAny (model prog w) A (setItem (.ref d) v y) Q E s := by
  subst ht
  cases wd with
  | tup k n =>
    refine with_goal fun X79 hX79 => ?_
    refine ex_1 (T) ?_
    (try clear T)
    intro ks q9o
    refine an_2 q9o ?_
    clear q9o
    intro h0 q9o
    refine ex_3 q9o ?_
    clear q9o
    intro arr ep xs q9o
    refine an_5 q9o ?_
    clear q9o
    intro r9q
    subst r9q
    intro h2
    intro h3
    intro h4
    intro h5
    refine hX79 ?_
    have hxl : xs.length = ws.length := by rw [h0, List.length_map, ← List.length_map (f := fun x : List Int × Addr × Value => x.1), h5, List.length_map]
    refine with_goal fun X79 hX79 => ?_
    refine ex_4 (tup_word hw) ?_
    intro a u1 u2 c q9o
    refine an_3 q9o ?_
    clear q9o
    intro r9q
    subst r9q
    intro ha
    intro hk
    refine hX79 ?_
    refine with_goal fun X79 hX79 => ?_
    refine ex_2 (U.split) ?_
    intro pre post q9o
    refine an_4 q9o ?_
    clear q9o
    intro r9q
    subst r9q
    intro hg
    intro q1
    intro q2
    refine hX79 ?_
    have hm : (d, (⟨.type "dict", none, .dict arr ep, #[]⟩ : Obj)) ∈ pre ++ (d, ⟨.type "dict", none, .dict arr ep, #[]⟩) :: post := List.mem_append_right _ (.head _)
    have D : s.heap.DictOfH (tupleKind (PySem.intKind prog w)) d xs := ⟨_, arr, ep, N.get hm, ⟨rfl, rfl, rfl⟩, rfl, h2, fun x hx => let ⟨ok, a, b⟩ := h4 x hx; b.key.key (N.get (hs _ a)), h3⟩
    have hne : atKey xs [k, n] = none := by
      have e := atKey_mem (xs := xs) (k := [k, n])
      rw [h5] at e
      have : ¬ [k, n] ∈ ks.map fun k => [k.1, k.2] := by
        intro hh
        refine hnot ?_
        rw [h0]
        simpa [Prod.ext_iff] using hh
      rw [decide_eq_false this] at e
      cases hq : atKey xs [k, n] with
      | none => rfl
      | some _ => rw [hq] at e; cases e
    refine wpAny_setItem_heap (knd := tupleKind (PySem.intKind prog w)) (hsz := by rw [hxl]; exact hsz) (tupleKind_room_in1 hu) (hk.key.key (N.get (hs _ ha))) D fun h' D' S' => ?_
    rw [storedH_new hne] at D'
    refine ex_3 (D') ?_
    (try clear D')
    intro o' arr' ep' q9o
    refine an_6 q9o ?_
    clear q9o
    intro ho' hx' hd' ha' hkk' hn'
    obtain ⟨oc, od, oda, osl⟩ := o'
    refine with_goal fun X79 hX79 => ?_
    refine an_3 (hx') ?_
    (try clear hx')
    intro r9q
    subst r9q
    intro r9q
    subst r9q
    intro r9q
    subst r9q
    refine hX79 ?_
    dsimp only at hd'
    subst hd'
    refine h h' _ _ (F.change S' (N _ hm).2.1 (N _ hm).2.2) (hg _ ▸ N.setIn q1 q2 S' ho') ⟨ks ++ [(k, n)], by rw [h0]; simp, arr', ep', _, rfl, ha', hn', ?_, by simp [h5]⟩
    intro x hx
    rcases List.mem_append.mp hx with hx | hx
    · exact h4 x hx
    · rw [List.mem_singleton] at hx
      subst hx
      exact ⟨_, ha, hk⟩
  | num n =>
    refine ex_1 (T) ?_
    (try clear T)
    intro kvs q9o
    refine an_2 q9o ?_
    clear q9o
    intro h0 hD
    have hkl : kvs.length = ws.length := by rw [h0, List.length_map]
    have hnk : ¬ n ∈ kvs.map (·.1) := fun hh => hnot (by rw [h0]; simpa using hh)
    cases hw with
    | int _ tk =>
      refine kda_set (knd := PySem.intKind prog w) (k := n) F N U hD (intKind_is prog w n tk) (by rw [hkl]; exact hsz) fun h' o' F' N' D' => ?_
      refine h h' o' _ F' N' ⟨_, ?_, D'⟩
      have hany : (kvs.any fun kv => decide (kv.1 = n)) = false := by
        rw [Bool.eq_false_iff]
        intro hh
        refine ex_1 (List.any_eq_true.mp hh) ?_
        intro x q9o
        refine an_2 q9o ?_
        clear q9o
        intro hx e
        exact hnk (List.mem_map.mpr ⟨x, hx, of_decide_eq_true e⟩)
      rw [h0]
      unfold stored
      rw [hany]
      simp

theorem dat_str {v : Value} {x : Str} (h : DatIn l v (.str x)) : ∃ t, v = .str x t := by
  cases h with
  | str _ t => exact ⟨t, rfl⟩
theorem eq_str_known {x y : Str} {t u : Tok} {b : Bool} {Q : Value → Shared → Prop} (hb : (x == y) = b) (h : Q (.bool b) s) : wpAny (model prog w) A (compareOp .Eq (.str x t) (.str y u)) Q E s := by
  refine eq_str ?_
  rw [hb]; exact h
end

end
end
section
local macro_rules | `(tactic| omega) => `(tactic| first | with_reducible assumption | exact Nat.le_of_lt (by with_reducible assumption) | exact Nat.le_trans (by with_reducible assumption) (by decide) | exact Nat.lt_of_lt_of_le (by with_reducible assumption) (by decide) | exact Nat.lt_of_le_of_lt (by with_reducible assumption) (by decide) | exact Nat.le_trans (Nat.le_of_lt (by with_reducible assumption)) (by decide) | exact Nat.ne_of_lt (by with_reducible assumption) | exact Nat.ne_of_gt (by with_reducible assumption) | exact om_ne1 _ 0 | exact om_ne1 _ 1 | exact om_ne1 _ 2 | exact om_ne1 _ 3 | exact om_ne1 _ 4 | exact om_ne2 _ 0 | exact om_ne2 _ 1 | exact om_ne2 _ 2 | exact om_ne2 _ 3 | exact om_ne2 _ 4 | lia)
local macro_rules | `(tactic| walk_at "exec For") => `(tactic| (k_here; (with_reducible show wpAny _ _ (exec (Stmt.For (Expr.Name _ _) _ _ [] _) _) _ _ _); (rename Fr _ _ _ _ => lF'); (with_unfolding_all refine' For_invVF lF' ?k1 ?k2 ?_; (case k1 => exact rfl); (case k2 => exact rfl); k_whole)))
local macro_rules | `(tactic| walk_at "exec For Name Name cons nil") => `(tactic| (k_here; (with_reducible show wpAny _ _ (exec (Stmt.For (Expr.Name _ _) _ _ [] _) _) _ _ _); (rename Fr _ _ _ _ => lF'); (with_unfolding_all refine' For_invVF lF' ?k1 ?k2 ?_; (case k1 => exact rfl); (case k2 => exact rfl); k_whole)))
local macro_rules | `(tactic| walk_at "exec For Name Call cons nil") => `(tactic| (k_here; (with_reducible show wpAny _ _ (exec (Stmt.For (Expr.Name _ _) _ _ [] _) _) _ _ _); (rename Fr _ _ _ _ => lF'); (with_unfolding_all refine' For_invVF lF' ?k1 ?k2 ?_; (case k1 => exact rfl); (case k2 => exact rfl); k_whole)))
local macro_rules | `(tactic| walk_at "exec For Name Attribute cons nil") => `(tactic| (k_here; (with_reducible show wpAny _ _ (exec (Stmt.For (Expr.Name _ _) _ _ [] _) _) _ _ _); (rename Fr _ _ _ _ => lF'); (with_unfolding_all refine' For_invVF lF' ?k1 ?k2 ?_; (case k1 => exact rfl); (case k2 => exact rfl); k_whole)))
local macro_rules | `(tactic| walk_at "newTuple") => `(tactic| (k_here; k_dflt (refine' kup_newTuple ?F ?N ?_ ?z; (case F => k_asm); (case N => k_asm); (case z => ((try simp only [sizeLine_eq, List.length_cons, List.length_nil]); omega))); intro D' h' F' N' l1; (try k_lt l1); (try k_sweep)))
local macro_rules | `(tactic| walk_at "call builtin:list.append") => `(tactic| (k_here; (with_reducible show wpAny _ _ (call (Value.builtin _) [Value.ref _, _]) _ _ _); k_dflt (refine' append_K ?k1 ?k2 ?k3 ?_ ?z; (case k1 => k_asm); (case k2 => k_asm); (case k3 => k_upd); (case z => ((try simp only [List.size_toArray, List.length_append, List.length_cons, List.length_nil, sizeLine_eq]); omega)); k_whole); intro h' F' N'; (try simp only [List.push_toArray] at N'); (try k_sweep)))
local macro_rules | `(tactic| walk_at "subscriptTail") => `(tactic| (k_here; (with_reducible show wpAny _ _ (subscriptTail _ _ (Value.ref _) (Value.int _ _)) _ _ _); k_dflt (refine' item_led ?N ?m ?a ?b ?x ?_; (case N => k_asm); (case m => k_mem); (case a => first | decide | omega); (case b => first | decide | omega); (case x => first | rfl | assumption); k_whole)))
local macro_rules | `(tactic| walk_at "call builtin:len") => `(tactic| (k_here; (with_reducible show wpAny _ _ (call (Value.builtin "len") [Value.ref _]) _ _ _); k_dflt (refine' len_led ?N ?m ?e ?f ?_; (case N => k_asm); (case m => k_mem); (case e => first | exact len0 | exact len1 _ | exact len2 _ _ _ | assumption | exact rfl); (case f => first | omega | decide); k_whole)))
local macro_rules | `(tactic| walk_at "call type:tuple") => `(tactic| (k_here; (with_reducible show wpAny _ _ (call (Value.type _) [Value.ref _]) _ _ _); k_dflt (refine' kde_tupleOf ?k1 ?k2 ?k3 ?k4 ?k5 ?_; (case k1 => k_asm); (case k2 => k_asm); (case k3 => exact News.isList (by k_asm) (by k_mem)); (case k4 => (simp only [sizeLine_eq, List.length_cons, List.size_toArray]; omega)); (case k5 => rfl); k_whole); intro D' h' F' N' l1; (try k_lt l1); (try k_sweep)))
section
theorem offTable : True := by
  w_top off
  trivial

local macro_rules | `(tactic| walk_at "subscriptTail") => `(tactic| (k_here; (with_reducible show wpAny _ _ (subscriptTail _ _ (Value.ref _) (Value.int _ _)) _ _ _); k_dflt (refine' item_dat ?N ?D ?s ?a ?b ?d ?_; (case D => with_reducible assumption); (case N => k_asm); (case a => first | decide | omega); (case b => first | decide | omega); (case d => assumption); (case s => (first | exact fun p hp => hp | ((repeat' (first | refine fa_app ?_ ?_ | refine fa_cons ?_ ?_ | refine List.forall_mem_append.mpr ⟨?_, ?_⟩ | refine List.forall_mem_cons.mpr ⟨?_, ?_⟩)) <;> (first | exact List.forall_mem_nil _ | (intro p9 hp9; kp_flats) | kp_flats))))); intro v9 d9; (try (obtain ⟨t9, e9⟩ := dat_str d9; subst e9))))
local macro_rules | `(tactic| walk_at "compareOp Eq str str") => `(tactic| (k_here; k_dflt (refine' eq_str_known ?h ?_; (case h => with_reducible assumption); k_whole)))
local macro_rules | `(tactic| walk_at "compareOp NotIn") => `(tactic| (k_here; k_dflt (refine' notin_seen ?u ?N ?T ?m ?s ?d ?w ?t ?_; (case T => assumption); (case N => k_asm); (case m => k_mem); (case s => (first | exact fun p hp => hp | ((repeat' (first | refine fa_app ?_ ?_ | refine fa_cons ?_ ?_ | refine List.forall_mem_append.mpr ⟨?_, ?_⟩ | refine List.forall_mem_cons.mpr ⟨?_, ?_⟩)) <;> (first | exact List.forall_mem_nil _ | (intro p9 hp9; kp_flats) | kp_flats)))); (case d => assumption); (case w => (refine' DatIn.mono ?qa ?qb; (case qb => assumption); (case qa => (first | exact fun p hp => hp | ((repeat' (first | refine fa_app ?_ ?_ | refine fa_cons ?_ ?_ | refine List.forall_mem_append.mpr ⟨?_, ?_⟩ | refine List.forall_mem_cons.mpr ⟨?_, ?_⟩)) <;> (first | exact List.forall_mem_nil _ | (intro p9 hp9; kp_flats) | kp_flats)))))); (case t => assumption); (case u => tlg_ne)); intro tk9))

def PairsAre (l : Led) (vs : List Value) (prs : List (Word × Int)) : Prop := All2 (fun v pr => DatIn l v (.tuple [pr.1.dat, .int pr.2])) vs prs
theorem PairsAre.mono {l l' : Led} {vs : List Value} {prs : List (Word × Int)} (h : PairsAre l vs prs) (hs : ∀ p ∈ l, p ∈ l') : PairsAre l' vs prs := All2.mono (fun _ _ h => h.mono hs) h

/-- what table does, in plain words -/
def tableStep (many : Nat) (cs : List Cod) (ps : List Int) (t : Srt) (st : List (Word × Int) × List (List Int × Int)) (p : Int) : List (Word × Int) × List (List Int × Int) :=
  match wordOf t (keyOf cs p) with
  | none => st
  | some w => if w ∈ st.1.map (·.1) then st else (st.1 ++ [(w, (chainA many st.2 (matchA cs ps (keyOf cs p))).1)], (chainA many st.2 (matchA cs ps (keyOf cs p))).2)
def tableN (many : Nat) (cs : List Cod) (ps : List Int) (t : Srt) (es : List (List Int × Int)) (i : Nat) : List (Word × Int) × List (List Int × Int) := (ps.take i).foldl (tableStep many cs ps t) ([], es)
def tableA (many : Nat) (cs : List Cod) (ps : List Int) (t : Srt) (es : List (List Int × Int)) : List (Word × Int) × List (List Int × Int) := ps.foldl (tableStep many cs ps t) ([], es)

theorem chainA_len (many : Nat) (es : List (List Int × Int)) (ps : List Int) : (chainA many es ps).2.length ≤ es.length + 1 := by
  unfold chainA
  split
  · simp
  · simp
  · split <;> simp
theorem tableStep_len (many : Nat) (cs : List Cod) (ps : List Int) (t : Srt) (st : List (Word × Int) × List (List Int × Int)) (p : Int) : (tableStep many cs ps t st p).2.length ≤ st.2.length + 1 ∧ (tableStep many cs ps t st p).1.length ≤ st.1.length + 1 := by
  unfold tableStep
  split
  · simp
  · split
    · simp
    · exact ⟨chainA_len _ _ _, by simp⟩
theorem tableN_succ {many : Nat} {cs : List Cod} {ps : List Int} {t : Srt} {es : List (List Int × Int)} {i : Nat} {p : Int} (h : ps[i]? = some p) : tableN many cs ps t es (i + 1) = tableStep many cs ps t (tableN many cs ps t es i) p := by
  unfold tableN
  rw [List.take_add_one, h, List.foldl_append]; rfl
theorem tableN_len (many : Nat) (cs : List Cod) (ps : List Int) (t : Srt) (es : List (List Int × Int)) (i : Nat) (hi : i ≤ ps.length) : (tableN many cs ps t es i).2.length ≤ es.length + i ∧ (tableN many cs ps t es i).1.length ≤ i := by
  induction i with
  | zero => simp [tableN]
  | succ i ih =>
    have h : ps[i]? = some (ps[i]'(by omega)) := List.getElem?_eq_getElem (by omega)
    rw [tableN_succ h]
    have h1 := tableStep_len many cs ps t (tableN many cs ps t es i) (ps[i]'(by omega))
    have h2 := ih (by omega)
    omega

/-- the state of table's loop -/
structure TS where
  pl : Addr
  se : Addr
  pv : List Value
  pc : Nat
  os : Obj
  nl : Int
  tn : Tok
  cv : List Value
  cc : Nat
  okn : Obj
  add : Led

theorem table_perm {h₀ h : Heap} {L : Addr} {T I se pl bd ch kn : Addr × Obj} {A rest : Led} (N : News h₀ L h (T :: I :: se :: pl :: bd :: ch :: kn :: (A ++ rest))) : News h₀ L h (I :: se :: pl :: bd :: ch :: kn :: ((T :: A) ++ rest)) :=
  kst_newsOf N fun p hp => (List.perm_middle (l₁ := [I, se, pl, bd, ch, kn])).mem_iff.mp hp
theorem table_perm2 {h₀ h : Heap} {L : Addr} {D se pl bd ch kn : Addr × Obj} {A rest : Led} (N : News h₀ L h (D :: se :: pl :: bd :: ch :: kn :: (A ++ rest))) : News h₀ L h ([bd, ch, kn] ++ ((D :: A) ++ rest)) := by
  refine kst_newsOf N fun p hp => ?_
  simp only [List.cons_append, List.nil_append, List.mem_cons, List.mem_append] at hp ⊢
  rcases hp with h | h | h | h | h | h <;> simp [h]
theorem table_does (w : World) (ba bd co ro ch kn pa : Addr) (x : BTok) (ar : Int) (ta : Tok) (nl : Int) (tn : Tok) (cv : List Value) (cc : Nat) (okn : Obj) (cdv : List Value) (cn : Nat) (cs : List Cod) (pv : List Value) (pc : Nat) (ps : List Int) (many : Nat) (es : List (List Int × Int)) (l0 rest : Led) (hl0 : ∀ p ∈ l0, p ∈ rest) (t : Srt) (tk : Tok)
    (hi : (ba, instObj 102 bd) ∈ rest) (hc : (co, listOf cdv.toArray cn) ∈ rest) (hcs : CodsAre l0 cdv cs) (hp : (pa, listOf pv.toArray pc) ∈ rest) (hpi : Ints pv ps) (hpl : ps.length ≤ 8)
    (hin : ∀ p ∈ ps, 0 ≤ p ∧ p < cs.length) (hcl : cs.length ≤ 4) (S : BS w l0 many es nl cv okn) (hkn : (kn == sysModules) = false) (hfew : es.length + 8 < 400) :
    Does w 85 [.ref ba, .ref pa, .str t.tag tk] [(bd, bDict x ar ta co ro ch kn nl tn), (ch, listOf cv.toArray cc), (kn, okn)] rest 24 1200
      (fun r chg add => ∃ D vs n nl' tn' cv' cc' okn', r = .ref D ∧ chg = [(bd, bDict x ar ta co ro ch kn nl' tn'), (ch, listOf cv'.toArray cc'), (kn, okn')] ∧ (D, tupOf vs n) ∈ add ∧ PairsAre (add ++ l0) vs (tableA many cs ps t es).1 ∧ BS w (add ++ l0) many (tableA many cs ps t es).2 nl' cv' okn') := by
  unfold Does
  k_fill
  intro dp un gd env outer A₀ base h₀ L m s mean mg mb Q E _ B F X N hnod T hk hL hd hu hret
  try simp only [List.cons_append, List.nil_append] at N hnod
  ((first | refine peelA hnod (by with_reducible ((repeat (first | exact it_nil | (apply it_na) | (apply it_ca) | (apply it_aa) | (apply it_cons) | (apply it_app))); (try exact it_last))) ?_ | refine peelN hnod (by with_reducible ((repeat (first | exact it_nil | (apply it_na) | (apply it_ca) | (apply it_aa) | (apply it_cons) | (apply it_app))); (try exact it_last))) ?_ | refine peelR hnod (by with_reducible ((repeat (first | exact it_nil | (apply it_na) | (apply it_ca) | (apply it_aa) | (apply it_cons) | (apply it_app))); (try exact it_last))) ?_); (repeat (intro hq9)); refine Past.mk ?_)
  refine wpAny_call ?_
  dsimp only [bDict] at N
  have hlp : pv.length ≤ 8 := by rw [hpi.length]; exact hpl
  k_dflt (refine' code_def ?k1 ?k2 ?k3 ?k4 ?k5 ?kA ?kF ?kK ?k6 ?k7 ?k8 ?k9 ?kB ?_ ?c2 ?c3 ?c4 ?c5; (case kA => exact rfl); (case kF => assumption); (case kK => assumption); (case k1 => k_asm); (case k2 => k_asm); (case k3 => k_asm); (case k4 => k_asm); (case k5 => k_asm); (case k6 => k_is); (case k7 => k_is); (case k8 => ktr_room); (case k9 => exact BindsTo.of_eq rfl); (case c5 => decide); (case kB => exact locs rfl); (case c2 => exact rfl); (case c3 => exact rfl); (case c4 => exact rfl); k_whole; intro g' L' h' FG' F' N' B' X' T'; (try refine wp_toks fun tk9 => ?_); (try dsimp only); (try k_fold))
  k_steps
  rename (_ == sysModules) = false => hlo
  rename Obj.IsDictOf (PySem.intKind _ _) _ [] => hdi
  rename News _ _ _ _ => N1
  rename Fr _ _ _ _ => F1
  apply loop_list (σ := TS) (fun c => [(Str.ofString "pairs", .ref c.pl), (Str.ofString "seen", .ref c.se)]) [Str.ofString "key"]
    (fun i c nx => nx = (c.se, c.os) :: (c.pl, listOf c.pv.toArray c.pc) :: (bd, bDict x ar ta co ro ch kn c.nl c.tn) :: (ch, listOf c.cv.toArray c.cc) :: (kn, c.okn) :: (c.add ++ rest) ∧ (c.se == sysModules) = false ∧
      Young c.add ([(bd, bDict x ar ta co ro ch kn nl tn), (ch, listOf cv.toArray cc), (kn, okn)] ++ rest) ∧ PairsAre (c.add ++ l0) c.pv (tableN many cs ps t es i).1 ∧ BS w (c.add ++ l0) many (tableN many cs ps t es i).2 c.nl c.cv c.okn ∧
      Seen PR w (c.add ++ l0) c.os t ((tableN many cs ps t es i).1.map (·.1)))
    (TS.mk _ _ [] 0 _ nl tn cv cc okn [])
  case hh => rfl
  case F => exact F1
  case N => exact N1
  case hj => exact ⟨rfl, hlo, Young.nil, .nil, S, Seen.nil hdi⟩
  case hl => k_mem
  case hn => kat_tups
  case hk => first | ((repeat (first | exact fr_nil | refine fr_cons (by rfl) ?_)); done) | (intro p hp; (rcases List.mem_cons.mp hp with rfl | hp); (· rfl); (rw [List.mem_singleton.mp hp]; rfl))
  case turn =>
    rintro i v ⟨pl, se, pvv, pcc, os, nl1, tn1, cv1, cc1, okn1, add1⟩ nx u h tk I oI hi' hv hJ79 hl hn F2 N2
    refine turn_cps ?_
    intro q79 hq79 hb79 hr79
    refine an_6 (hJ79) ?_
    (try clear hJ79)
    intro r9q
    subst r9q
    intro hlo1
    intro hy1
    intro hP1
    intro S1
    intro hS1
    dsimp only at hlo1 hy1 hP1 S1 hS1 hn N2 F2
    have hpvl : pvv.length ≤ 8 := by
      have h1 := hP1.length
      have h2 := (tableN_len many cs ps t es i (by rw [← hpi.length]; omega)).2
      have h3 := hpi.length
      omega
    refine with_goal fun X79 hX79 => ?_
    refine ex_2 (hpi.get hv) ?_
    intro p t1 q9o
    refine an_2 q9o ?_
    clear q9o
    intro hpp
    intro r9q
    subst r9q
    refine hX79 ?_
    refine an_2 (hin p (List.mem_of_getElem? hpp)) ?_
    intro hp0 hp1
    obtain ⟨cd, hcd⟩ : ∃ cd, cs[p.toNat]? = some cd := ⟨cs[p.toNat]'(by omega), List.getElem?_eq_getElem (by omega)⟩
    refine with_goal fun X79 hX79 => ?_
    refine ex_1 (hcs.get hcd) ?_
    intro _ q9o
    refine an_2 q9o ?_
    clear q9o
    intro hv1 q9o
    refine ex_17 q9o ?_
    clear q9o
    intro xa xd kb ia h1 h2 h3 h4 t1 t2 t3 t4 fv uv iv n e q9o
    refine an_6 q9o ?_
    clear q9o
    intro r9q
    subst r9q
    intro hx1
    intro hx2
    intro hx3
    intro hx4
    intro hx5
    refine hX79 ?_
    have hko : keyOf cs p = cd.key := by unfold keyOf; rw [hcd]; rfl
    have hnI := nodA.mp hn
    ((first | refine peelA hnI (by with_reducible ((repeat (first | exact it_nil | (apply it_na) | (apply it_ca) | (apply it_aa) | (apply it_cons) | (apply it_app))); (try exact it_last))) ?_ | refine peelN hnI (by with_reducible ((repeat (first | exact it_nil | (apply it_na) | (apply it_ca) | (apply it_aa) | (apply it_cons) | (apply it_app))); (try exact it_last))) ?_ | refine peelR hnI (by with_reducible ((repeat (first | exact it_nil | (apply it_na) | (apply it_ca) | (apply it_aa) | (apply it_cons) | (apply it_app))); (try exact it_last))) ?_); (repeat (intro hq9)); refine Past.mk ?_)
    obtain ⟨ds, hds, hd0⟩ := key_tag (k := cd.key)
    have hD : DatIn l0 (.ref kb) (.tuple ds) := hds ▸ hx3
    have htg := tag_eq cd.key t
    have hwl : ((tableN many cs ps t es i).1.map (·.1)).length ≤ 8 := by
      rw [List.length_map]
      have := (tableN_len many cs ps t es i (by rw [← hpi.length]; omega)).2
      have := hpi.length
      omega
    have hel := (tableN_len many cs ps t es i (by rw [← hpi.length]; omega)).1
    have hts := tableN_succ (many := many) (cs := cs) (t := t) (es := es) hpp
    dsimp only [kstB] at F2
    try k_fold
    cases hwo : wordOf t cd.key with
    | none =>
      rw [hwo, Option.isSome_none] at htg
      k_steps
      rename News g' L' _ _ => kN
      rename Fr g' L' _ _ => kF
      skip
      have hst : tableN many cs ps t es (i + 1) = tableN many cs ps t es i := by rw [hts, tableStep, hko, hwo]
      refine (hq79 (TS.mk pl se pvv pcc os nl1 tn1 cv1 cc1 okn1 add1) _ _ _ _ kF (by first | ((repeat (first | exact fr_nil | refine fr_cons (by rfl) ?_)); done) | (intro q hq; (rcases List.mem_cons.mp hq with rfl | hq); (· rfl); (rw [List.mem_singleton.mp hq]; rfl))) (by intro z z1 z2 z3; first | ((repeat (first | with_reducible rfl | with_reducible assumption | refine kp_st (by with_reducible assumption) ?_ | refine kp_set (by first | with_reducible exact z1 | with_reducible exact z2 _ List.mem_cons_self | with_reducible exact z2 _ (List.mem_cons_of_mem _ List.mem_cons_self) | with_reducible exact z2 _ (List.mem_cons_of_mem _ (List.mem_cons_of_mem _ List.mem_cons_self)) | exact kp_con z3 (by ((repeat (with_reducible_and_instances first | exact List.Mem.head _ | refine List.Mem.tail _ ?_)); (first | done | fail "open")))) ?_ | refine kp_same (by assumption) ?_ | exact rfl)); done) | ((have z4 := z2 _ List.mem_cons_self); (have z5 := z2 _ (List.mem_cons_of_mem _ List.mem_cons_self)); (have y0 : z ≠ Str.ofString "key" := fun e => by (subst e; simp at z3)); (try dsimp only); simp only [if_neg z1, if_neg z4, if_neg z5, if_neg y0, z3, Bool.false_eq_true, if_false])) kN hn (by (first | exact fun p hp => hp | ((repeat' (first | refine fa_app ?_ ?_ | refine fa_cons ?_ ?_ | refine List.forall_mem_append.mpr ⟨?_, ?_⟩ | refine List.forall_mem_cons.mpr ⟨?_, ?_⟩)) <;> (first | exact List.forall_mem_nil _ | (intro p9 hp9; kp_flats) | kp_flats)))) ⟨rfl, hlo1, hy1, ?_, ?_, ?_⟩).1 <;> (rw [hst]; assumption)
    | some wd =>
      rw [hwo, Option.isSome_some] at htg
      refine ex_1 (key_word hwo) ?_
      intro ds' q9o
      refine an_2 q9o ?_
      clear q9o
      intro hds' hd1
      have hww := (wordOf_some hwo).2
      rw [hds] at hds'
      obtain rfl : ds = ds' := by injection hds'
      k_steps
      · rename News g' L' _ _ => kN
        rename Fr g' L' _ _ => kF
        rename wd ∈ _ => hmem
        skip
        have hst : tableN many cs ps t es (i + 1) = tableN many cs ps t es i := by rw [hts, tableStep, hko, hwo]; simp only [hmem, if_true]
        refine (hq79 (TS.mk pl se pvv pcc os nl1 tn1 cv1 cc1 okn1 add1) _ _ _ _ kF (by first | ((repeat (first | exact fr_nil | refine fr_cons (by rfl) ?_)); done) | (intro q hq; (rcases List.mem_cons.mp hq with rfl | hq); (· rfl); (rw [List.mem_singleton.mp hq]; rfl))) (by intro z z1 z2 z3; first | ((repeat (first | with_reducible rfl | with_reducible assumption | refine kp_st (by with_reducible assumption) ?_ | refine kp_set (by first | with_reducible exact z1 | with_reducible exact z2 _ List.mem_cons_self | with_reducible exact z2 _ (List.mem_cons_of_mem _ List.mem_cons_self) | with_reducible exact z2 _ (List.mem_cons_of_mem _ (List.mem_cons_of_mem _ List.mem_cons_self)) | exact kp_con z3 (by ((repeat (with_reducible_and_instances first | exact List.Mem.head _ | refine List.Mem.tail _ ?_)); (first | done | fail "open")))) ?_ | refine kp_same (by assumption) ?_ | exact rfl)); done) | ((have z4 := z2 _ List.mem_cons_self); (have z5 := z2 _ (List.mem_cons_of_mem _ List.mem_cons_self)); (have y0 : z ≠ Str.ofString "key" := fun e => by (subst e; simp at z3)); (try dsimp only); simp only [if_neg z1, if_neg z4, if_neg z5, if_neg y0, z3, Bool.false_eq_true, if_false])) kN hn (by (first | exact fun p hp => hp | ((repeat' (first | refine fa_app ?_ ?_ | refine fa_cons ?_ ?_ | refine List.forall_mem_append.mpr ⟨?_, ?_⟩ | refine List.forall_mem_cons.mpr ⟨?_, ?_⟩)) <;> (first | exact List.forall_mem_nil _ | (intro p9 hp9; kp_flats) | kp_flats)))) ⟨rfl, hlo1, hy1, ?_, ?_, ?_⟩).1 <;> (rw [hst]; assumption)
      · rename DatIn l0 _ wd.dat => hw9
        k_dflt (refine' set_seen ?u ?F ?N hS1 ?U ?s ?w hww ?n ?z ?_; (case N => k_asm); (case F => k_asm); (case U => k_updF); (case s => (first | exact fun p hp => hp | ((repeat' (first | refine fa_app ?_ ?_ | refine fa_cons ?_ ?_ | refine List.forall_mem_append.mpr ⟨?_, ?_⟩ | refine List.forall_mem_cons.mpr ⟨?_, ?_⟩)) <;> (first | exact List.forall_mem_nil _ | (intro p9 hp9; kp_flats) | kp_flats)))); (case w => (refine' DatIn.mono ?qa hw9; (case qa => (first | exact fun p hp => hp | ((repeat' (first | refine fa_app ?_ ?_ | refine fa_cons ?_ ?_ | refine List.forall_mem_append.mpr ⟨?_, ?_⟩ | refine List.forall_mem_cons.mpr ⟨?_, ?_⟩)) <;> (first | exact List.forall_mem_nil _ | (intro p9 hp9; kp_flats) | kp_flats)))))); (case n => assumption); (case z => (rw [sizeLine_eq]; omega)); (case u => tlg_ne))
        intro h9 o9 tk9 F9 N9 S9
        try dsimp only at N9
        k_steps
        try dsimp only [List.nil_append, List.cons_append, List.append_nil]
        try k_fold
        k_dflt (refine' Does.use0 (matching_places_does w ba bd co ro ch kn pa kb x ar ta nl1 tn1 cdv cn cs pv pc ps cd.key _ ?h1 ?h2 ?h3 ?h4 ?h5 hpi hpl hin hcl ?h6) ?uB ?uF ?uX ?uN ?un ?uT ?uk ?uL ?ud ?uu ?_; (case uN => k_asm); (case uB => k_asm); (case uF => k_asm); (case uX => k_asm); (case un => first | assumption | kat_tups); (case uT => k_asm); (case uk => rfl); (case uL => rfl); (case ud => ktr_room); (case uu => tlg_ne); (case h1 => k_mem); (case h2 => k_mem); (case h3 => k_mem); (case h4 => exact CodsAre.mono hcs (by (first | exact fun p hp => hp | ((repeat' (first | refine fa_app ?_ ?_ | refine fa_cons ?_ ?_ | refine List.forall_mem_append.mpr ⟨?_, ?_⟩ | refine List.forall_mem_cons.mpr ⟨?_, ?_⟩)) <;> (first | exact List.forall_mem_nil _ | (intro p9 hp9; kp_flats) | kp_flats))))); (case h5 => k_mem); (case h6 => exact KeyIn.mono (by (first | exact fun p hp => hp | ((repeat' (first | refine fa_app ?_ ?_ | refine fa_cons ?_ ?_ | refine List.forall_mem_append.mpr ⟨?_, ?_⟩ | refine List.forall_mem_cons.mpr ⟨?_, ?_⟩)) <;> (first | exact List.forall_mem_nil _ | (intro p9 hp9; kp_flats) | kp_flats)))) hx3)); intro r' chg' add' h' tk' F' N' nod' young' post'
        refine with_goal fun X79 hX79 => ?_
        refine ex_3 (post') ?_
        (try clear post')
        intro D mv mc q9o
        refine an_4 q9o ?_
        clear q9o
        intro r9q
        subst r9q
        intro r9q
        subst r9q
        intro r9q
        subst r9q
        intro hmi
        refine hX79 ?_
        have hD9 := young'.apart _ List.mem_cons_self
        (simp only [Apart, apart_append, and_true, and_assoc] at hD9; (repeat (have hL9 := And.left hD9; replace hD9 := And.right hD9)))
        clear young'
        simp only [List.cons_append, List.nil_append] at N' nod'
        k_steps
        try dsimp only [List.nil_append, List.cons_append, List.append_nil]
        try k_fold
        k_dflt (refine' Does.use3 (chain_does w ba bd co ro ch kn D x ar ta nl1 tn1 cv1 cc1 okn1 mv mc (matchA cs ps cd.key) many (tableN many cs ps t es i).2 (add1 ++ l0) _ ?gl ?g1 ?g2 hmi.is ?g3 ?g4 hkn ?g5) ?P1 ?P2 ?P3 ?uB ?uF ?uX ?uN ?un ?uT ?uk ?uL ?ud ?uu ?_; (case uN => k_asm); (case P1 => allgen_close2_more); (case P2 => allgen_close2_more); (case P3 => allgen_close2_more); (case uB => k_asm); (case uF => k_asm); (case uX => k_asm); (case un => first | assumption | kat_tups); (case uT => k_asm); (case uk => rfl); (case uL => rfl); (case ud => ktr_room); (case uu => tlg_ne); (case gl => (first | exact fun p hp => hp | ((repeat' (first | refine fa_app ?_ ?_ | refine fa_cons ?_ ?_ | refine List.forall_mem_append.mpr ⟨?_, ?_⟩ | refine List.forall_mem_cons.mpr ⟨?_, ?_⟩)) <;> (first | exact List.forall_mem_nil _ | (intro p9 hp9; kp_flats) | kp_flats)))); (case g1 => k_mem); (case g2 => k_mem); (case g3 => exact Nat.le_trans (List.length_filter_le _ _) hpl); (case g4 => exact S1); (case g5 => omega)); intro r' chg' add' h' tk' F' N' nod' young' post'
        refine with_goal fun X79 hX79 => ?_
        refine ex_6 (post') ?_
        (try clear post')
        intro t9 nl2 tn2 cv2 cc2 okn2 q9o
        refine an_3 q9o ?_
        clear q9o
        intro r9q
        subst r9q
        intro r9q
        subst r9q
        intro S2
        refine hX79 ?_
        simp only [List.cons_append, List.nil_append] at N' nod'
        have N3 : News g' L' h' ((I, oI) :: (se, o9) :: (pl, listOf pvv.toArray pcc) :: (bd, bDict x ar ta co ro ch kn nl2 tn2) :: (ch, listOf cv2.toArray cc2) :: (kn, okn2) :: ((add' ++ (D, listOf mv.toArray mc) :: add1) ++ rest)) := kst_newsOf N' (by (first | exact fun p hp => hp | ((repeat' (first | refine fa_app ?_ ?_ | refine fa_cons ?_ ?_ | refine List.forall_mem_append.mpr ⟨?_, ?_⟩ | refine List.forall_mem_cons.mpr ⟨?_, ?_⟩)) <;> (first | exact List.forall_mem_nil _ | (intro p9 hp9; kp_flats) | kp_flats))))
        have nod3 : Nod ((I, oI) :: (se, o9) :: (pl, listOf pvv.toArray pcc) :: (bd, bDict x ar ta co ro ch kn nl2 tn2) :: (ch, listOf cv2.toArray cc2) :: (kn, okn2) :: ((add' ++ (D, listOf mv.toArray mc) :: add1) ++ rest)) := by (first | assumption | (refine nod_of_count (by assumption) (fun a9 => ?_); (try simp only [List.cons_append, List.nil_append, List.map_append, List.map_cons, List.map_nil, List.count_append, List.count_cons, List.count_nil]); omega))
        have hnJ := nodA.mp nod3
        clear N' nod'
        generalize hA : add' ++ (D, listOf mv.toArray mc) :: add1 = A2 at N3 nod3 hnJ
        ((first | refine peelA hnJ (by with_reducible ((repeat (first | exact it_nil | (apply it_na) | (apply it_ca) | (apply it_aa) | (apply it_cons) | (apply it_app))); (try exact it_last))) ?_ | refine peelN hnJ (by with_reducible ((repeat (first | exact it_nil | (apply it_na) | (apply it_ca) | (apply it_aa) | (apply it_cons) | (apply it_app))); (try exact it_last))) ?_ | refine peelR hnJ (by with_reducible ((repeat (first | exact it_nil | (apply it_na) | (apply it_ca) | (apply it_aa) | (apply it_cons) | (apply it_app))); (try exact it_last))) ?_); (repeat (intro hq9)); refine Past.mk ?_)
        k_steps
        rename News g' L' _ _ => kN
        rename Fr g' L' _ _ => kF
        rename DatIn l0 _ wd.dat => hw8
        skip
        have hst : tableN many cs ps t es (i + 1) = ((tableN many cs ps t es i).1 ++ [(wd, (chainA many (tableN many cs ps t es i).2 (matchA cs ps cd.key)).1)], (chainA many (tableN many cs ps t es i).2 (matchA cs ps cd.key)).2) := by
          rw [hts, tableStep, hko, hwo]
          rename ¬ (wd ∈ _) => hmem
          simp only [hmem, if_false]
        refine (hq79 (TS.mk pl se _ _ o9 nl2 tn2 cv2 cc2 okn2 (_ :: A2)) _ _ _ _ kF (by first | ((repeat (first | exact fr_nil | refine fr_cons (by rfl) ?_)); done) | (intro q hq; (rcases List.mem_cons.mp hq with rfl | hq); (· rfl); (rw [List.mem_singleton.mp hq]; rfl))) (by intro z z1 z2 z3; first | ((repeat (first | with_reducible rfl | with_reducible assumption | refine kp_st (by with_reducible assumption) ?_ | refine kp_set (by first | with_reducible exact z1 | with_reducible exact z2 _ List.mem_cons_self | with_reducible exact z2 _ (List.mem_cons_of_mem _ List.mem_cons_self) | with_reducible exact z2 _ (List.mem_cons_of_mem _ (List.mem_cons_of_mem _ List.mem_cons_self)) | exact kp_con z3 (by ((repeat (with_reducible_and_instances first | exact List.Mem.head _ | refine List.Mem.tail _ ?_)); (first | done | fail "open")))) ?_ | refine kp_same (by assumption) ?_ | exact rfl)); done) | ((have z4 := z2 _ List.mem_cons_self); (have z5 := z2 _ (List.mem_cons_of_mem _ List.mem_cons_self)); (have y0 : z ≠ Str.ofString "key" := fun e => by (subst e; simp at z3)); (try dsimp only); simp only [if_neg z1, if_neg z4, if_neg z5, if_neg y0, z3, Bool.false_eq_true, if_false])) (table_perm kN) ?nd ?sr ⟨rfl, hlo1, ?yg, ?pr, ?bs, ?sn⟩).1
        case nd => kat_tups
        case sr => (first | exact fun p hp => hp | ((repeat' (first | refine fa_app ?_ ?_ | refine fa_cons ?_ ?_ | refine List.forall_mem_append.mpr ⟨?_, ?_⟩ | refine List.forall_mem_cons.mpr ⟨?_, ?_⟩)) <;> (first | exact List.forall_mem_nil _ | (intro p9 hp9; kp_flats) | kp_flats)))
        case pr => rw [hst]; exact (hP1.mono (by subst hA; (first | exact fun p hp => hp | ((repeat' (first | refine fa_app ?_ ?_ | refine fa_cons ?_ ?_ | refine List.forall_mem_append.mpr ⟨?_, ?_⟩ | refine List.forall_mem_cons.mpr ⟨?_, ?_⟩)) <;> (first | exact List.forall_mem_nil _ | (intro p9 hp9; kp_flats) | kp_flats))))).append (.one (.tuple List.mem_cons_self (.cons (DatIn.mono (by (first | exact fun p hp => hp | ((repeat' (first | refine fa_app ?_ ?_ | refine fa_cons ?_ ?_ | refine List.forall_mem_append.mpr ⟨?_, ?_⟩ | refine List.forall_mem_cons.mpr ⟨?_, ?_⟩)) <;> (first | exact List.forall_mem_nil _ | (intro p9 hp9; kp_flats) | kp_flats)))) hw8) (.cons (.int _ _) .nil))))
        case bs => rw [hst]; exact S2.mono (by subst hA; (first | exact fun p hp => hp | ((repeat' (first | refine fa_app ?_ ?_ | refine fa_cons ?_ ?_ | refine List.forall_mem_append.mpr ⟨?_, ?_⟩ | refine List.forall_mem_cons.mpr ⟨?_, ?_⟩)) <;> (first | exact List.forall_mem_nil _ | (intro p9 hp9; kp_flats) | kp_flats))))
        case sn => rw [hst, List.map_append]; exact S9.mono (by subst hA; (first | exact fun p hp => hp | ((repeat' (first | refine fa_app ?_ ?_ | refine fa_cons ?_ ?_ | refine List.forall_mem_append.mpr ⟨?_, ?_⟩ | refine List.forall_mem_cons.mpr ⟨?_, ?_⟩)) <;> (first | exact List.forall_mem_nil _ | (intro p9 hp9; kp_flats) | kp_flats))))
        case yg =>
          subst hA
          refine Young.cons ?_ (Young.append ?_ (Young.cons ?_ hy1))
          · (first | ((repeat (first | with_reducible assumption | exact ap_nil | exact Apart.lt (by with_reducible assumption) | exact Apart.ltk _ (by with_reducible assumption) | (with_reducible refine ap_cons (by first | with_reducible assumption | omega) ?_) | (with_reducible refine ap_app (by first | with_reducible assumption | exact Apart.lt (by with_reducible assumption) | exact Apart.ltk _ (by with_reducible assumption)) ?_))); (first | done | fail "open")) | ((try simp only [List.cons_append, List.nil_append, Apart, apart_append, and_true, true_and, and_assoc]); (all_goals ((repeat' apply And.intro) <;> first | assumption | omega | exact Apart.lt (by assumption) | exact Apart.ltk _ (by assumption)))))
          · (refine Young.sub (by assumption) ?_; (try simp only [List.cons_append, List.nil_append, List.map_append, List.map_cons, List.map_nil]); ((repeat' (first | refine fa_app ?_ ?_ | refine fa_cons ?_ ?_ | refine List.forall_mem_append.mpr ⟨?_, ?_⟩ | refine List.forall_mem_cons.mpr ⟨?_, ?_⟩)) <;> (first | exact List.forall_mem_nil _ | (intro p9 hp9; kp_flats) | kp_flats)))
          · (first | ((repeat (first | with_reducible assumption | exact ap_nil | exact Apart.lt (by with_reducible assumption) | exact Apart.ltk _ (by with_reducible assumption) | (with_reducible refine ap_cons (by first | with_reducible assumption | omega) ?_) | (with_reducible refine ap_app (by first | with_reducible assumption | exact Apart.lt (by with_reducible assumption) | exact Apart.ltk _ (by with_reducible assumption)) ?_))); (first | done | fail "open")) | ((try simp only [List.cons_append, List.nil_append, Apart, apart_append, and_true, true_and, and_assoc]); (all_goals ((repeat' apply And.intro) <;> first | assumption | omega | exact Apart.lt (by assumption) | exact Apart.ltk _ (by assumption)))))
  case done =>
    rintro ⟨pl, se, pvv, pcc, os, nl1, tn1, cv1, cc1, okn1, add1⟩ nx u h tk hJ79 hl hn F2 N2
    refine an_6 (hJ79) ?_
    (try clear hJ79)
    intro r9q
    subst r9q
    intro hlo1
    intro hy1
    intro hP1
    intro S1
    intro hS1
    dsimp only at hlo1 hy1 hP1 S1 hS1 hn N2 F2
    have hpvl : pvv.length ≤ 8 := by
      have h1 := hP1.length
      have h2 := (tableN_len many cs ps t es pv.length (Nat.le_of_eq hpi.length)).2
      have h3 := hpi.length
      omega
    dsimp only [kstB] at F2
    k_steps
    rename News h₀ L _ _ => kN
    have hta : tableN many cs ps t es pv.length = tableA many cs ps t es := by
      unfold tableN tableA
      rw [List.take_of_length_le (Nat.le_of_eq hpi.length.symm)]
    rw [hta] at hP1 S1
    have hnI := nodA.mp hn
    ((first | refine peelA hnI (by with_reducible ((repeat (first | exact it_nil | (apply it_na) | (apply it_ca) | (apply it_aa) | (apply it_cons) | (apply it_app))); (try exact it_last))) ?_ | refine peelN hnI (by with_reducible ((repeat (first | exact it_nil | (apply it_na) | (apply it_ca) | (apply it_aa) | (apply it_cons) | (apply it_app))); (try exact it_last))) ?_ | refine peelR hnI (by with_reducible ((repeat (first | exact it_nil | (apply it_na) | (apply it_ca) | (apply it_aa) | (apply it_cons) | (apply it_app))); (try exact it_last))) ?_); (repeat (intro hq9)); refine Past.mk ?_)
    refine hret _ _ (_ :: add1) _ _ (by assumption) (table_perm2 kN) rfl ?yg ?nd ⟨_, pvv, _, nl1, tn1, cv1, cc1, okn1, rfl, rfl, List.mem_cons_self, hP1.mono (by (first | exact fun p hp => hp | ((repeat' (first | refine fa_app ?_ ?_ | refine fa_cons ?_ ?_ | refine List.forall_mem_append.mpr ⟨?_, ?_⟩ | refine List.forall_mem_cons.mpr ⟨?_, ?_⟩)) <;> (first | exact List.forall_mem_nil _ | (intro p9 hp9; kp_flats) | kp_flats)))), S1.mono (by (first | exact fun p hp => hp | ((repeat' (first | refine fa_app ?_ ?_ | refine fa_cons ?_ ?_ | refine List.forall_mem_append.mpr ⟨?_, ?_⟩ | refine List.forall_mem_cons.mpr ⟨?_, ?_⟩)) <;> (first | exact List.forall_mem_nil _ | (intro p9 hp9; kp_flats) | kp_flats))))⟩
    case yg =>
      refine Young.cons ?_ hy1
      (first | ((repeat (first | with_reducible assumption | exact ap_nil | exact Apart.lt (by with_reducible assumption) | exact Apart.ltk _ (by with_reducible assumption) | (with_reducible refine ap_cons (by first | with_reducible assumption | omega) ?_) | (with_reducible refine ap_app (by first | with_reducible assumption | exact Apart.lt (by with_reducible assumption) | exact Apart.ltk _ (by with_reducible assumption)) ?_))); (first | done | fail "open")) | ((try simp only [List.cons_append, List.nil_append, Apart, apart_append, and_true, true_and, and_assoc]); (all_goals ((repeat' apply And.intro) <;> first | assumption | omega | exact Apart.lt (by assumption) | exact Apart.ltk _ (by assumption)))))
    case nd => exact Nod.of_cons (allLt_ne (by assumption)) (Nod.left (nodR (by assumption : NodA (add1 ++ rest))))

end
end
section
local macro_rules | `(tactic| omega) => `(tactic| first | with_reducible assumption | exact Nat.le_of_lt (by with_reducible assumption) | exact Nat.le_trans (by with_reducible assumption) (by decide) | exact Nat.lt_of_lt_of_le (by with_reducible assumption) (by decide) | exact Nat.lt_of_le_of_lt (by with_reducible assumption) (by decide) | exact Nat.le_trans (Nat.le_of_lt (by with_reducible assumption)) (by decide) | exact Nat.ne_of_lt (by with_reducible assumption) | exact Nat.ne_of_gt (by with_reducible assumption) | exact om_ne1 _ 0 | exact om_ne1 _ 1 | exact om_ne1 _ 2 | exact om_ne1 _ 3 | exact om_ne1 _ 4 | exact om_ne2 _ 0 | exact om_ne2 _ 1 | exact om_ne2 _ 2 | exact om_ne2 _ 3 | exact om_ne2 _ 4 | lia)
section
theorem offRawDict : True := by
  w_top off
  trivial

section
variable {prog : Program} {w : World} {A : Around} {E : Value → Shared → Prop} {s : Shared}

/-- a dict's entries, whatever its keys are -/
def RawAt (h : Heap) (d : Addr) (es : Array DictEntry) (ep : Nat) : Prop := ∃ o, h.get? d = some o ∧ o.ExactDict ∧ o.data = .dict es ep
theorem RawAt.typeIs {d : Addr} {es : Array DictEntry} {ep : Nat} (x : RawAt s.heap d es ep) : s.TypeIs (.ref d) "dict" := let ⟨o, ho, hc, _⟩ := x; ⟨o, ho, hc.1⟩
theorem RawAt.upto {h h' : Heap} {d : Addr} {es : Array DictEntry} {ep : Nat} (x : RawAt h d es ep) (e : ∀ o, h.get? d = some o → h'.get? d = some o) : RawAt h' d es ep := let ⟨o, ho, r⟩ := x; ⟨o, e _ ho, r⟩
theorem RawAt.push {h : Heap} {d : Addr} {es : Array DictEntry} {ep : Nat} (x : RawAt h d es ep) (o : Obj) : RawAt (h.push o) d es ep := x.upto fun _ e => Heap.get?_push_of_some _ e

theorem raw_iter {d : Addr} {es : Array DictEntry} {ep : Nat} {Q : Value → Shared → Prop} (hd : (d == sysModules) = false) (hm : RawAt s.heap d es ep)
    (hQ : Q (.ref s.heap.objs.size) { s with heap := s.heap.push { cls := .type "dict_keyiterator", data := .fields #[.ref d, .int 0 0, .int es.size 0, .int ep 0] } }) :
    wpAny (model prog w) A (pyIter (.ref d)) Q E s := by
  have hT := hm.typeIs
  refine ex_1 (hm) ?_
  (try clear hm)
  intro o q9o
  refine an_3 q9o ?_
  clear q9o
  intro ho hc hdat
  refine wpAny_pyIter_slot hT F.slot_dict_iter (wpAny_call_entry F.slot_dict_iter hT F.entry_dict_iter ?_ (F.args_dict_iter_1 _))
  unfold Builtin.«dict.__iter__» Builtin.Dict.dictSlotNone
  refine wpAny_bind (wpAny_bind (wpAny_notOrdered_dict hT ?_))
  show wpAny _ _ (pure (Value.ref d)) _ _ s
  refine wpAny_pure ?_
  show wpAny _ _ (Builtin.Dict.showsAll d >>= _) _ _ s
  unfold Builtin.Dict.showsAll
  rw [if_neg (by rw [hd]; exact Bool.false_ne_true)]
  refine wpAny_bind (wpAny_pure (wpAny_bind (wpAny_dictEntries ho hdat (wpAny_bind (wpAny_dictEpoch ho hdat ?_)))))
  refine wpAny_bind (wpAny_newObj_type (wpAny_pure ⟨_, rfl, "dict_keyiterator", _, ⟨_, Heap.get?_push_size _ rfl, rfl⟩, F.slot_dict_keyiterator_next.lookup, ?_⟩))
  simpa [rawInt] using hQ

theorem raw_values {d : Addr} {es : Array DictEntry} {ep : Nat} {Q : Value → Shared → Prop} (hd : (d == sysModules) = false) (hm : RawAt s.heap d es ep)
    (hQ : Q (.ref s.heap.objs.size) { s with heap := s.heap.push { cls := .type "dict_values", data := .fields #[.ref d] } }) :
    wpAny (model prog w) A (call (.builtin "dict.values") [.ref d]) Q E s := by
  have hT := hm.typeIs
  refine wpAny_call_entry PySem.F.slot_dict_values hT PySem.F.entry_dict_values ?_ (PySem.F.args_dict_values_1 _)
  refine wpAny_bind ?_
  unfold Builtin.Dict.noArgs
  refine wpAny_bind (wpAny_notOrdered_dict hT ?_)
  show wpAny _ _ (pure d) _ _ s
  refine wpAny_pure ?_
  show wpAny _ _ (Builtin.Dict.showsAll d >>= _) _ _ s
  unfold Builtin.Dict.showsAll
  rw [if_neg (by rw [hd]; exact Bool.false_ne_true)]
  exact wpAny_bind (wpAny_pure (wpAny_bind (wpAny_newObj_type (wpAny_pure ⟨_, rfl, hQ⟩))))

theorem raw_iterValues {v d : Addr} {es : Array DictEntry} {ep : Nat} {Q : Value → Shared → Prop} (hv : s.heap.IsValuesView v d) (hm : RawAt s.heap d es ep)
    (hQ : Q (.ref s.heap.objs.size) { s with heap := s.heap.push { cls := .type "dict_valueiterator", data := .fields #[.ref d, .int 0 0, .int es.size 0, .int ep 0] } }) :
    wpAny (model prog w) A (pyIter (.ref v)) Q E s := by
  refine ex_1 (id hv) ?_
  intro ov q9o
  refine an_3 q9o ?_
  clear q9o
  intro hov _ hdv
  refine ex_1 (hm) ?_
  (try clear hm)
  intro o q9o
  refine an_3 q9o ?_
  clear q9o
  intro ho hc hdat
  refine wpAny_pyIter_slot hv.typeIs F.slot_dict_values_iter (wpAny_call_entry F.slot_dict_values_iter hv.typeIs F.entry_dict_values_iter ?_ (F.args_dict_values_iter_1 _))
  unfold Builtin.«dict_values.__iter__» Builtin.Dict_items.dictOf Builtin.Dict_items.newIterator
  refine wpAny_bind (wpAny_pure (wpAny_bind (wpAny_bind (wpAny_field hov hdv (x := .ref d) rfl (wpAny_pure ?_)))))
  refine wpAny_bind (wpAny_bind (wpAny_dictEntries ho hdat (wpAny_bind (wpAny_dictEpoch ho hdat ?_))))
  have hown : Builtin.Dict_items.ownsTuple "dict_valueiterator" = false := by decide
  simp only [hown, Bool.false_eq_true, if_false]
  refine wpAny_newObj_type (wpAny_pure ⟨_, rfl, "dict_valueiterator", _, ⟨_, Heap.get?_push_size _ rfl, rfl⟩, F.slot_dict_valueiterator_next.lookup, ?_⟩)
  simpa [rawInt] using hQ

theorem raw_item_keys {it d : Addr} {i ep : Nat} {es : Array DictEntry} {e : DictEntry} {Q : Option Value → Shared → Prop} (hit : s.heap.IsKeyIter it d i es.size ep) (hm : RawAt s.heap d es ep) (hx : es[i]? = some e)
    (hQ : ∀ h', h'.IsKeyIter it d (i + 1) es.size ep → Heap.SameBut it s.heap h' → Q (some e.key) { s with heap := h' }) : wpAny (model prog w) A (pyNext (.ref it)) Q E s := by
  refine ex_1 (id hit) ?_
  intro o q9o
  refine an_3 q9o ?_
  clear q9o
  intro ho hc hd
  refine ex_1 (hm) ?_
  (try clear hm)
  intro od q9o
  refine an_3 q9o ?_
  clear q9o
  intro hod hcd hdd
  have hlt : i < es.size := (Array.getElem?_eq_some_iff.mp hx).1
  have hown : Builtin.Dict_items.ownsTuple "dict_keyiterator" = false := by decide
  have hit' : (s.heap.update it (Obj.mapFields (·.setIfInBounds 1 (rawInt ((i : Int) + 1))))).IsKeyIter it d (i + 1) es.size ep :=
    ⟨_, Heap.get?_update_self _ ho (Obj.isFreed_of_fields (Obj.data_mapFields hd _)), (Obj.cls_mapFields ..).trans hc, by rw [Obj.data_mapFields hd]; simp [rawInt]⟩
  unfold pyNext
  refine wpAny_bind (wpAny_attempt (wpAny_callSpecial?_slot (name := Str.ofString "__next__") hit.typeIs F.slot_dict_keyiterator_next (wpAny_call_entry F.slot_dict_keyiterator_next hit.typeIs F.entry_dict_keyiterator_next ?_ (F.args_dict_keyiterator_next_1 _))))
  refine wpAny_bind (wpAny_pure (wpAny_bind (wpAny_bind ?_)))
  refine wpAny_bind (wpAny_typeNameOfWhole_keyiter hit.typeIs (wpAny_pure (wpAny_bind (wpAny_fieldsOf ho hd ?_))))
  simp only [hown, Bool.false_eq_true, if_false]
  show wpAny _ _ (if (Value.ref d == Value.none) = true then _ else _) _ _ s
  rw [if_neg (show ¬ ((Value.ref d == Value.none) = true) from Bool.false_ne_true)]
  refine wpAny_bind (wpAny_pure (wpAny_bind (wpAny_dictEntries hod hdd ?_)))
  rw [if_neg (by simp)]
  refine wpAny_bind (wpAny_pure (wpAny_bind (wpAny_dictEpoch hod hdd ?_)))
  rw [if_neg (by simp)]
  refine wpAny_pure ?_
  simp only [show ¬ ((i : Int) < 0) from by omega, if_false, Int.toNat_natCast, hx]
  refine wpAny_bind (wpAny_bind (wpAny_typeNameOfWhole_keyiter hit.typeIs (wpAny_pure (wpAny_bind (wpAny_isOneOf_keyiter hit.typeIs ?_)))))
  show wpAny _ _ (setField (.ref it) 1 (rawInt ((i : Int) + 1)) >>= _) _ _ s
  refine wpAny_bind (wpAny_setField ho hd (by simp) (wpAny_bind (wpAny_holding ?_)))
  refine wpAny_bind (wpAny_isOneOf_keyiter (s := { s with heap := s.heap.update it (Obj.mapFields (·.setIfInBounds 1 (rawInt ((i : Int) + 1)))) }) hit'.typeIs ?_)
  show wpAny _ _ (pure e.key) _ _ _
  exact wpAny_pure (wpAny_pure ⟨_, rfl, wpAny_pure (hQ _ hit' (Heap.SameBut.update ..))⟩)

theorem raw_end_keys {it d : Addr} {ep : Nat} {es : Array DictEntry} {Q : Option Value → Shared → Prop} (hh : A.handled = none) (hit : s.heap.IsKeyIter it d es.size es.size ep) (hm : RawAt s.heap d es ep)
    (hQ : ∀ h', Heap.ExtBut it s.heap h' → Q none { s with heap := h' }) : wpAny (model prog w) A (pyNext (.ref it)) Q E s := by
  refine ex_1 (id hit) ?_
  intro o q9o
  refine an_3 q9o ?_
  clear q9o
  intro ho hc hd
  refine ex_1 (hm) ?_
  (try clear hm)
  intro od q9o
  refine an_3 q9o ?_
  clear q9o
  intro hod hcd hdd
  have hown : Builtin.Dict_items.ownsTuple "dict_keyiterator" = false := by decide
  unfold pyNext
  refine wpAny_bind (wpAny_attempt (wpAny_callSpecial?_slot (name := Str.ofString "__next__") hit.typeIs F.slot_dict_keyiterator_next (wpAny_call_entry F.slot_dict_keyiterator_next hit.typeIs F.entry_dict_keyiterator_next ?_ (F.args_dict_keyiterator_next_1 _))))
  refine wpAny_bind (wpAny_pure (wpAny_bind (wpAny_bind ?_)))
  refine wpAny_bind (wpAny_typeNameOfWhole_keyiter hit.typeIs (wpAny_pure (wpAny_bind (wpAny_fieldsOf ho hd ?_))))
  simp only [hown, Bool.false_eq_true, if_false]
  show wpAny _ _ (if (Value.ref d == Value.none) = true then _ else _) _ _ s
  rw [if_neg (show ¬ ((Value.ref d == Value.none) = true) from Bool.false_ne_true)]
  refine wpAny_bind (wpAny_pure (wpAny_bind (wpAny_dictEntries hod hdd ?_)))
  rw [if_neg (by simp)]
  refine wpAny_bind (wpAny_pure (wpAny_bind (wpAny_dictEpoch hod hdd ?_)))
  rw [if_neg (by simp)]
  refine wpAny_pure ?_
  simp only [show ¬ ((es.size : Int) < 0) from by omega, if_false, Int.toNat_natCast, Array.getElem?_eq_none (Nat.le_refl es.size)]
  refine wpAny_bind (wpAny_bind (wpAny_typeNameOfWhole_keyiter hit.typeIs (wpAny_pure ?_)))
  show wpAny _ _ (setField (.ref it) 0 .none >>= _) _ _ s
  refine wpAny_bind (wpAny_setField ho hd (by simp) ?_)
  show wpAny _ _ (newExc (.type "StopIteration") [] >>= _) _ _ _
  refine wpAny_bind ?_
  simp only [newExc, newTuple]
  refine wpAny_bind (wpAny_newObj_type ?_ (by size_fits))
  refine wpAny_bind (m := firstArgMember _ _) (wpAny_of_eq (a := Value.none) (by first | rfl | (simp only [firstArgMember]; rfl)) ?_)
  refine wpAny_newObj_type ?_ (by size_fits)
  simp only [raiseNew]
  refine wpAny_bind (wpAny_handled ?_)
  rw [show A.in1.handled = none from hh]
  refine wpAny_bind (wpAny_pure (wpAny_throw ?_))
  refine wpAny_bind (wpAny_isInstance (T := "StopIteration") (b := true) ⟨_, Heap.get?_push_size _ rfl, rfl⟩ isSubtype_stop ?_)
  exact wpAny_pure (hQ _ (((Heap.SameBut.update ..).extBut.push _).push _))

theorem raw_walks_keys (hh : A.handled = none) (I d : Addr) (hne : d ≠ I) (es : Array DictEntry) (ep : Nat) :
    Walks prog w A I [I, d] [I] es.size (fun i v => ∃ e, es[i]? = some e ∧ v = e.key) (fun i h => h.IsKeyIter I d i es.size ep ∧ RawAt h d es ep) where
  sub := fun b hb => by simp at hb; simp [hb]
  frame := fun _ _ _ st hk => ⟨st.1.at fun o e => hk I (by simp) o e, st.2.upto fun o e => hk d (by simp) o e⟩
  item := fun i s Q E hi st hQ => by
    refine raw_item_keys st.1 st.2 (Array.getElem?_eq_getElem hi) fun h' hit' hs' => ?_
    exact hQ _ h' s.toks ⟨_, Array.getElem?_eq_getElem hi, rfl⟩ ⟨hit', st.2.upto fun o e => hs'.extBut d o hne e⟩ fun b o hb e => hs'.extBut b o (fun h => hb (by simp [h])) e
  done := fun s Q E st hQ => raw_end_keys hh st.1 st.2 fun h' he' => hQ h' s.toks fun b o hb e => he' b o (fun h => hb (by simp [h])) e
  self := fun _ _ _ _ st hQ => wpAny_pyIter_keyiter st.1 hQ

theorem raw_item_vals {it d : Addr} {i ep : Nat} {es : Array DictEntry} {e : DictEntry} {Q : Option Value → Shared → Prop} (hit : s.heap.IsValIter it d i es.size ep) (hm : RawAt s.heap d es ep) (hx : es[i]? = some e)
    (hQ : ∀ h', h'.IsValIter it d (i + 1) es.size ep → Heap.SameBut it s.heap h' → Q (some e.val) { s with heap := h' }) : wpAny (model prog w) A (pyNext (.ref it)) Q E s := by
  refine ex_1 (id hit) ?_
  intro o q9o
  refine an_3 q9o ?_
  clear q9o
  intro ho hc hd
  refine ex_1 (hm) ?_
  (try clear hm)
  intro od q9o
  refine an_3 q9o ?_
  clear q9o
  intro hod hcd hdd
  have hlt : i < es.size := (Array.getElem?_eq_some_iff.mp hx).1
  have hown : Builtin.Dict_items.ownsTuple "dict_valueiterator" = false := by decide
  have hit' : (s.heap.update it (Obj.mapFields (·.setIfInBounds 1 (rawInt ((i : Int) + 1))))).IsValIter it d (i + 1) es.size ep :=
    ⟨_, Heap.get?_update_self _ ho (Obj.isFreed_of_fields (Obj.data_mapFields hd _)), (Obj.cls_mapFields ..).trans hc, by rw [Obj.data_mapFields hd]; simp [rawInt]⟩
  unfold pyNext
  refine wpAny_bind (wpAny_attempt (wpAny_callSpecial?_slot (name := Str.ofString "__next__") hit.typeIs F.slot_dict_valueiterator_next (wpAny_call_entry F.slot_dict_valueiterator_next hit.typeIs F.entry_dict_valueiterator_next ?_ (F.args_dict_valueiterator_next_1 _))))
  refine wpAny_bind (wpAny_pure (wpAny_bind (wpAny_bind ?_)))
  refine wpAny_bind (wpAny_typeNameOfWhole_valiter hit.typeIs (wpAny_pure (wpAny_bind (wpAny_fieldsOf ho hd ?_))))
  simp only [hown, Bool.false_eq_true, if_false]
  show wpAny _ _ (if (Value.ref d == Value.none) = true then _ else _) _ _ s
  rw [if_neg (show ¬ ((Value.ref d == Value.none) = true) from Bool.false_ne_true)]
  refine wpAny_bind (wpAny_pure (wpAny_bind (wpAny_dictEntries hod hdd ?_)))
  rw [if_neg (by simp)]
  refine wpAny_bind (wpAny_pure (wpAny_bind (wpAny_dictEpoch hod hdd ?_)))
  rw [if_neg (by simp)]
  refine wpAny_pure ?_
  simp only [show ¬ ((i : Int) < 0) from by omega, if_false, Int.toNat_natCast, hx]
  refine wpAny_bind (wpAny_bind (wpAny_typeNameOfWhole_valiter hit.typeIs (wpAny_pure (wpAny_bind (wpAny_isOneOf_valiter hit.typeIs ?_)))))
  show wpAny _ _ (setField (.ref it) 1 (rawInt ((i : Int) + 1)) >>= _) _ _ s
  refine wpAny_bind (wpAny_setField ho hd (by simp) (wpAny_bind (wpAny_holding ?_)))
  refine wpAny_bind (wpAny_isOneOf_valiter (s := { s with heap := s.heap.update it (Obj.mapFields (·.setIfInBounds 1 (rawInt ((i : Int) + 1)))) }) hit'.typeIs ?_)
  refine wpAny_bind (wpAny_isOneOf_valiter (s := { s with heap := s.heap.update it (Obj.mapFields (·.setIfInBounds 1 (rawInt ((i : Int) + 1)))) }) hit'.typeIs ?_)
  show wpAny _ _ (pure e.val) _ _ _
  exact wpAny_pure (wpAny_pure ⟨_, rfl, wpAny_pure (hQ _ hit' (Heap.SameBut.update ..))⟩)

theorem raw_end_vals {it d : Addr} {ep : Nat} {es : Array DictEntry} {Q : Option Value → Shared → Prop} (hh : A.handled = none) (hit : s.heap.IsValIter it d es.size es.size ep) (hm : RawAt s.heap d es ep)
    (hQ : ∀ h', Heap.ExtBut it s.heap h' → Q none { s with heap := h' }) : wpAny (model prog w) A (pyNext (.ref it)) Q E s := by
  refine ex_1 (id hit) ?_
  intro o q9o
  refine an_3 q9o ?_
  clear q9o
  intro ho hc hd
  refine ex_1 (hm) ?_
  (try clear hm)
  intro od q9o
  refine an_3 q9o ?_
  clear q9o
  intro hod hcd hdd
  have hown : Builtin.Dict_items.ownsTuple "dict_valueiterator" = false := by decide
  unfold pyNext
  refine wpAny_bind (wpAny_attempt (wpAny_callSpecial?_slot (name := Str.ofString "__next__") hit.typeIs F.slot_dict_valueiterator_next (wpAny_call_entry F.slot_dict_valueiterator_next hit.typeIs F.entry_dict_valueiterator_next ?_ (F.args_dict_valueiterator_next_1 _))))
  refine wpAny_bind (wpAny_pure (wpAny_bind (wpAny_bind ?_)))
  refine wpAny_bind (wpAny_typeNameOfWhole_valiter hit.typeIs (wpAny_pure (wpAny_bind (wpAny_fieldsOf ho hd ?_))))
  simp only [hown, Bool.false_eq_true, if_false]
  show wpAny _ _ (if (Value.ref d == Value.none) = true then _ else _) _ _ s
  rw [if_neg (show ¬ ((Value.ref d == Value.none) = true) from Bool.false_ne_true)]
  refine wpAny_bind (wpAny_pure (wpAny_bind (wpAny_dictEntries hod hdd ?_)))
  rw [if_neg (by simp)]
  refine wpAny_bind (wpAny_pure (wpAny_bind (wpAny_dictEpoch hod hdd ?_)))
  rw [if_neg (by simp)]
  refine wpAny_pure ?_
  simp only [show ¬ ((es.size : Int) < 0) from by omega, if_false, Int.toNat_natCast, Array.getElem?_eq_none (Nat.le_refl es.size)]
  refine wpAny_bind (wpAny_bind (wpAny_typeNameOfWhole_valiter hit.typeIs (wpAny_pure ?_)))
  show wpAny _ _ (setField (.ref it) 0 .none >>= _) _ _ s
  refine wpAny_bind (wpAny_setField ho hd (by simp) ?_)
  show wpAny _ _ (newExc (.type "StopIteration") [] >>= _) _ _ _
  refine wpAny_bind ?_
  simp only [newExc, newTuple]
  refine wpAny_bind (wpAny_newObj_type ?_ (by size_fits))
  refine wpAny_bind (m := firstArgMember _ _) (wpAny_of_eq (a := Value.none) (by first | rfl | (simp only [firstArgMember]; rfl)) ?_)
  refine wpAny_newObj_type ?_ (by size_fits)
  simp only [raiseNew]
  refine wpAny_bind (wpAny_handled ?_)
  rw [show A.in1.handled = none from hh]
  refine wpAny_bind (wpAny_pure (wpAny_throw ?_))
  refine wpAny_bind (wpAny_isInstance (T := "StopIteration") (b := true) ⟨_, Heap.get?_push_size _ rfl, rfl⟩ isSubtype_stop ?_)
  exact wpAny_pure (hQ _ (((Heap.SameBut.update ..).extBut.push _).push _))

theorem raw_walks_vals (hh : A.handled = none) (I d : Addr) (hne : d ≠ I) (es : Array DictEntry) (ep : Nat) :
    Walks prog w A I [I, d] [I] es.size (fun i v => ∃ e, es[i]? = some e ∧ v = e.val) (fun i h => h.IsValIter I d i es.size ep ∧ RawAt h d es ep) where
  sub := fun b hb => by simp at hb; simp [hb]
  frame := fun _ _ _ st hk => ⟨st.1.at fun o e => hk I (by simp) o e, st.2.upto fun o e => hk d (by simp) o e⟩
  item := fun i s Q E hi st hQ => by
    refine raw_item_vals st.1 st.2 (Array.getElem?_eq_getElem hi) fun h' hit' hs' => ?_
    exact hQ _ h' s.toks ⟨_, Array.getElem?_eq_getElem hi, rfl⟩ ⟨hit', st.2.upto fun o e => hs'.extBut d o hne e⟩ fun b o hb e => hs'.extBut b o (fun h => hb (by simp [h])) e
  done := fun s Q E st hQ => raw_end_vals hh st.1 st.2 fun h' he' => hQ h' s.toks fun b o hb e => he' b o (fun h => hb (by simp [h])) e
  self := fun _ _ _ _ st hQ => wpAny_pyIter_valiter st.1 hQ
end

end
section
theorem offVals : True := by
  w_top off
  trivial
local macro_rules | `(tactic| walk_at "zz") => `(tactic| skip)
local macro_rules | `(tactic| walk_at "zz") => `(tactic| skip)

section
variable {prog : Program} {w : World} {A : Around} {E : Value → Shared → Prop} {s : Shared}
theorem entry_ci : entryFor table "proto.contains_iter" = some Builtin.«proto.contains_iter» := entryFor_of_tree (by kernel_rfl)
theorem vals_nocontains : typeLookup (.type "dict_values") "__contains__" = pure none := by rw [typeLookup_type, builtinLookup_eq_fast]; kernel_rfl

abbrev ciCode (I : Addr) (k : Int) (t : Tok) : PySem.Code := .builtin "proto.contains_iter" ⟨[.ref I, .int k t], []⟩
/-- none of the ints that are left is k -/
theorem contains_none {I : Addr} {fp : List Addr} {n : Nat} {P : Nat → Value → Prop} {St : Nat → Heap → Prop} {k : Int} {t : Tok} {R : Result → Shared → Prop}
    (W : Walks prog w (A.under (ciCode I k t)) I fp [I] n P St) (hP : ∀ i v, P i v → ∃ j u, v = .int j u ∧ j ≠ k) :
    ∀ (m i : Nat) (s : Shared), n = i + m → St i s.heap → (∀ h' tk, (∀ b o, b ≠ I → s.heap.get? b = some o → h'.get? b = some o) → R (.ok (.ret (.bool false))) { s with heap := h', toks := tk }) →
      codeAny (model prog w) A (ciCode I k t) R s := by
  intro m
  induction m with
  | zero =>
    intro i s hn hst hR
    refine codeAny_builtin entry_ci ?_
    unfold Builtin.«proto.contains_iter»
    have hi : i = n := by omega
    subst hi
    refine wpAny_bind (W.done s _ _ hst fun h' tk hk => ?_)
    refine wpAny_bind (wpAny_rule (wpAny_pure ?_))
    exact hR h' tk fun b o hb e => hk b o (fun hm => hb (List.mem_singleton.mp hm)) e
  | succ m ih =>
    intro i s hn hst hR
    refine codeAny_builtin entry_ci ?_
    unfold Builtin.«proto.contains_iter»
    refine wpAny_bind (W.item i s _ _ (by omega) hst fun v h' tk hPv hst' hk => ?_)
    refine with_goal fun X79 hX79 => ?_
    refine ex_2 (hP i v hPv) ?_
    intro j u q9o
    refine an_2 q9o ?_
    clear q9o
    intro r9q
    subst r9q
    intro hj
    refine hX79 ?_
    refine wpAny_bind (wpAny_eqBool_int ?_)
    have e : (j == k) = false := by simpa using hj
    rw [e]
    refine wpAny_pure ⟨Code.quiet_builtin _ (by decide +kernel), ih (i + 1) { s with heap := h', toks := tk } (by omega) hst' fun h2 tk2 hk2 => ?_⟩
    exact hR h2 tk2 fun b o hb e => hk2 b o hb (hk b o (fun hm => hb (List.mem_singleton.mp hm)) e)
end

section
variable {prog : Program} {w : World} {A : Around} {E : Value → Shared → Prop} {s : Shared} {h₀ : Heap} {L vw d : Addr} {news l : Led} {m : Str → Option Value} {o : Obj} {es : List (List Int × Int)}
abbrev valsObj (d : Addr) : Obj := { cls := .type "dict_values", data := .fields #[.ref d] }

theorem call_vals {Q : Value → Shared → Prop} (F : Fr h₀ L s.heap m) (N : News h₀ L s.heap news) (T : TD prog w l o es) (hm : (d, o) ∈ news) (hd : (d == sysModules) = false)
    (h : ∀ v h', Fr h₀ L h' m → News h₀ L h' ((v, valsObj d) :: news) → (∀ p ∈ news, p.1 < v) → Q (.ref v) { s with heap := h' }) : wpAny (model prog w) A (call (.builtin "dict.values") [.ref d]) Q E s := by
  refine with_goal fun X79 hX79 => ?_
  refine ex_3 (T) ?_
  (try clear T)
  intro arr ep xs q9o
  refine an_5 q9o ?_
  clear q9o
  intro r9q
  subst r9q
  intro h2
  intro h3
  intro h4
  intro h5
  refine hX79 ?_
  refine raw_values (es := arr) (ep := ep) hd ⟨_, N.get hm, ⟨rfl, rfl, rfl⟩, rfl⟩ (h _ _ (F.push _) (N.push F _) fun p hp => Heap.lt_size (N p hp).1)
theorem meth_vals {pl : Sem Bool} {Q : Value × List Value → Shared → Prop} (N : News h₀ L s.heap news) (T : TD prog w l o es) (hm : (d, o) ∈ news) (h : Q (.builtin "dict.values", [.ref d]) s) :
    wpAny (model prog w) A (getMethod (.ref d) "values" pl) Q E s := by
  refine with_goal fun X79 hX79 => ?_
  refine ex_3 (T) ?_
  (try clear T)
  intro arr ep xs q9o
  refine an_5 q9o ?_
  clear q9o
  intro r9q
  subst r9q
  intro h2
  intro h3
  intro h4
  intro h5
  refine hX79 ?_
  exact getMethod_builtin ⟨_, N.get hm, rfl⟩ PySem.F.plainAttrs_dict PySem.F.slot_dict_values PySem.F.type_dict_values (fun b e => by injection e with e; subst e; exact ⟨_, N.get hm, rfl⟩) h
theorem in_vals_none {Q : Value → Shared → Prop} {k : Int} {t : Tok} (hh : A.handled = none) (F : Fr h₀ L s.heap m) (N : News h₀ L s.heap news) (T : TD prog w l o es) (hm : (d, o) ∈ news) (hv : (vw, valsObj d) ∈ news)
    (hno : ∀ e ∈ es, e.2 ≠ k) (h : ∀ h' tk, Fr h₀ L h' m → News h₀ L h' news → Q (.bool false) { s with heap := h', toks := tk }) : wpAny (model prog w) A (compareOp .In (.int k t) (.ref vw)) Q E s := by
  refine with_goal fun X79 hX79 => ?_
  refine ex_3 (T) ?_
  (try clear T)
  intro arr ep xs q9o
  refine an_5 q9o ?_
  clear q9o
  intro r9q
  subst r9q
  intro h2
  intro h3
  intro h4
  intro h5
  refine hX79 ?_
  have hV : s.heap.IsValuesView vw d := ⟨_, N.get hv, rfl, rfl⟩
  have hR : RawAt s.heap d arr ep := ⟨_, N.get hm, ⟨rfl, rfl, rfl⟩, rfl⟩
  have hsz : d < s.heap.objs.size := Heap.lt_size (N.get hm)
  show wpAny _ _ (do return .bool (← contains (.ref vw) (.int k t))) Q E s
  refine wpAny_bind ?_
  unfold contains
  try with_reducible refine wpAny_holding ?_
  refine wpAny_bind (wpAny_specialOf hV.typeIs vals_nocontains ?_)
  show wpAny _ _ (if (none == some Value.none) = true then _ else _) _ E s
  rw [if_neg (by decide)]
  unfold callSpecialUnlessNone?
  refine wpAny_bind (wpAny_bind (wpAny_specialOf hV.typeIs vals_nocontains (wpAny_pure ?_)))
  refine wpAny_bind (wpAny_rule (wpAny_bind (wpAny_tryCatch (raw_iterValues hV hR ?_))))
  refine wpAny_bind (wpAny_runValue ?_)
  refine contains_none (n := arr.size) (raw_walks_vals (A := A.under (ciCode s.heap.objs.size k t)) hh s.heap.objs.size d (Nat.ne_of_lt hsz) arr ep) ?_ arr.size 0 _ (by omega) ⟨⟨_, Heap.get?_push_size _ rfl, rfl, rfl⟩, hR.push _⟩ ?_
  · rintro i v ⟨e, he, rfl⟩
    rw [← Array.getElem?_toList, h2, List.getElem?_map] at he
    refine with_goal fun X79 hX79 => ?_
    refine ex_1 (Option.map_eq_some_iff.mp he) ?_
    intro x q9o
    refine an_2 q9o ?_
    clear q9o
    intro hx
    intro r9q
    subst r9q
    refine hX79 ?_
    refine with_goal fun X79 hX79 => ?_
    refine ex_1 (h5.getL hx) ?_
    intro b q9o
    refine an_3 q9o ?_
    clear q9o
    intro hb _ q9o
    refine ex_1 q9o ?_
    clear q9o
    intro u hu
    refine hX79 ?_
    exact ⟨b.2, u, hu, hno b (List.mem_of_getElem? hb)⟩
  · intro h' tk hk
    have hk' : ∀ b o, s.heap.get? b = some o → h'.get? b = some o := fun b o e => hk b o (Nat.ne_of_lt (Heap.lt_size e)) (Heap.get?_push_of_some _ e)
    exact wpAny_pure (wpAny_pure (h h' tk (F.keeps hk') (N.grown hk')))
end

end
end
section
local macro_rules | `(tactic| omega) => `(tactic| first | with_reducible assumption | exact Nat.le_of_lt (by with_reducible assumption) | exact Nat.le_trans (by with_reducible assumption) (by decide) | exact Nat.lt_of_lt_of_le (by with_reducible assumption) (by decide) | exact Nat.lt_of_le_of_lt (by with_reducible assumption) (by decide) | exact Nat.le_trans (Nat.le_of_lt (by with_reducible assumption)) (by decide) | exact Nat.ne_of_lt (by with_reducible assumption) | exact Nat.ne_of_gt (by with_reducible assumption) | exact om_ne1 _ 0 | exact om_ne1 _ 1 | exact om_ne1 _ 2 | exact om_ne1 _ 3 | exact om_ne1 _ 4 | exact om_ne2 _ 0 | exact om_ne2 _ 1 | exact om_ne2 _ 2 | exact om_ne2 _ 3 | exact om_ne2 _ 4)
local macro_rules | `(tactic| walk_at "exec For") => `(tactic| (k_here; (with_reducible show wpAny _ _ (exec (Stmt.For (Expr.Name _ _) _ _ [] _) _) _ _ _); (rename Fr _ _ _ _ => lF'); (with_unfolding_all refine' For_invVF lF' ?k1 ?k2 ?_; (case k1 => exact rfl); (case k2 => exact rfl); k_whole)))
local macro_rules | `(tactic| walk_at "exec For Name Name cons nil") => `(tactic| (k_here; (with_reducible show wpAny _ _ (exec (Stmt.For (Expr.Name _ _) _ _ [] _) _) _ _ _); (rename Fr _ _ _ _ => lF'); (with_unfolding_all refine' For_invVF lF' ?k1 ?k2 ?_; (case k1 => exact rfl); (case k2 => exact rfl); k_whole)))
local macro_rules | `(tactic| walk_at "exec For Name Call cons nil") => `(tactic| (k_here; (with_reducible show wpAny _ _ (exec (Stmt.For (Expr.Name _ _) _ _ [] _) _) _ _ _); (rename Fr _ _ _ _ => lF'); (with_unfolding_all refine' For_invVF lF' ?k1 ?k2 ?_; (case k1 => exact rfl); (case k2 => exact rfl); k_whole)))
local macro_rules | `(tactic| walk_at "exec For Name Attribute cons nil") => `(tactic| (k_here; (with_reducible show wpAny _ _ (exec (Stmt.For (Expr.Name _ _) _ _ [] _) _) _ _ _); (rename Fr _ _ _ _ => lF'); (with_unfolding_all refine' For_invVF lF' ?k1 ?k2 ?_; (case k1 => exact rfl); (case k2 => exact rfl); k_whole)))
local macro_rules | `(tactic| walk_at "newTuple") => `(tactic| (k_here; k_dflt (refine' kup_newTuple ?F ?N ?_ ?z; (case F => k_asm); (case N => k_asm); (case z => ((try simp only [sizeLine_eq, List.length_cons, List.length_nil]); omega))); intro D' h' F' N' l1; (try k_lt l1); (try k_sweep)))
local macro_rules | `(tactic| walk_at "call builtin:list.append") => `(tactic| (k_here; (with_reducible show wpAny _ _ (call (Value.builtin _) [Value.ref _, _]) _ _ _); k_dflt (refine' append_K ?k1 ?k2 ?k3 ?_ ?z; (case k1 => k_asm); (case k2 => k_asm); (case k3 => k_upd); (case z => ((try simp only [List.size_toArray, List.length_append, List.length_cons, List.length_nil, sizeLine_eq]); omega)); k_whole); intro h' F' N'; (try simp only [List.push_toArray] at N'); (try k_sweep)))
local macro_rules | `(tactic| walk_at "subscriptTail") => `(tactic| (k_here; (with_reducible show wpAny _ _ (subscriptTail _ _ (Value.ref _) (Value.int _ _)) _ _ _); k_dflt (refine' item_led ?N ?m ?a ?b ?x ?_; (case N => k_asm); (case m => k_mem); (case a => first | decide | omega); (case b => first | decide | omega); (case x => first | rfl | assumption); k_whole)))
local macro_rules | `(tactic| walk_at "call builtin:len") => `(tactic| (k_here; (with_reducible show wpAny _ _ (call (Value.builtin "len") [Value.ref _]) _ _ _); k_dflt (refine' len_led ?N ?m ?e ?f ?_; (case N => k_asm); (case m => k_mem); (case e => first | exact len0 | exact len1 _ | exact len2 _ _ _ | assumption | exact rfl); (case f => first | omega | decide); k_whole)))
local macro_rules | `(tactic| walk_at "call type:tuple") => `(tactic| (k_here; (with_reducible show wpAny _ _ (call (Value.type _) [Value.ref _]) _ _ _); k_dflt (refine' kde_tupleOf ?k1 ?k2 ?k3 ?k4 ?k5 ?_; (case k1 => k_asm); (case k2 => k_asm); (case k3 => exact News.isList (by k_asm) (by k_mem)); (case k4 => (simp only [sizeLine_eq, List.length_cons, List.size_toArray]; omega)); (case k5 => rfl); k_whole); intro D' h' F' N' l1; (try k_lt l1); (try k_sweep)))
section
theorem offFits : True := by
  w_top off
  trivial

theorem ints_dat {l : Led} {a : Addr} {vs : List Value} {n : Nat} {ks : List Int} (hm : (a, tupOf vs n) ∈ l) (h : Ints vs ks) : DatIn l (.ref a) (.tuple (ks.map Dat.int)) := by
  refine .tuple hm ?_
  obtain ⟨h⟩ := h
  clear hm
  induction h with
  | nil => exact .nil
  | cons k t _ ih => exact .cons (.int k t) ih
theorem ints_ok (ks : List Int) : kqdOk 8 (.tuple (ks.map Dat.int)) = true := by
  simp [kqdOk]

section
variable {prog : Program} {w : World} {A : Around} {E : Value → Shared → Prop} {s : Shared} {h₀ : Heap} {L a b : Addr} {news : Led} {Q : Value → Shared → Prop}
theorem eq_unit {vs : List Value} {n c : Nat} {ks : List Int} (N : News h₀ L s.heap news) (ha : (a, tupOf vs n) ∈ news) (hi : Ints vs ks) (hb : (b, tupOf [] c) ∈ news) (hk : ks ≠ []) (hu : A.units + 64 < cLine) (h : Q (.bool false) s) :
    wpAny (model prog w) A (compareOp .Eq (.ref a) (.ref b)) Q E s := by
  refine ex_1 (kqd_in N 8 (ints_dat ha hi) (ints_ok ks)) ?_
  intro as ra
  refine ex_1 (kqd_in N 8 (ints_dat hb Ints.nil) (ints_ok [])) ?_
  intro bs rb
  classical
  refine eq_dat ra rb (ints_ok ks) (ints_ok []) hu ?_
  rw [decide_eq_false (by simp [hk])]
  exact h
theorem len_tup {vs : List Value} {n k : Nat} (N : News h₀ L s.heap news) (ha : (a, tupOf vs n) ∈ news) (e : vs.length = k) (hfit : (k : Int) < 2 ^ 63)
    (h : ∀ t tk, Q (.int (k : Int) t) { s with toks := tk }) : wpAny (model prog w) A (call (.builtin "len") [.ref a]) Q E s := by
  subst e
  exact len_tuple (N.isTup ha) (by simpa using hfit) (by simpa using h _ _)
end

theorem fits_does (w : World) (du fo : Addr) (lab : Int) (t1 : Tok) (dv : List Value) (dn : Nat) (ds : List Int) (many : Nat) (t2 : Tok) (ofo : Obj) (es : List (List Int × Int)) (l0 rest : Led) (hl0 : ∀ p ∈ l0, p ∈ rest)
    (hdu : (du, tupOf dv dn) ∈ l0) (hdi : Ints dv ds) (hdl : ds.length ≤ 8) (TF : TD PR w l0 ofo es) (hlab : es.map (·.2) = (List.range es.length).map fun (i : Nat) => ((many + i : Nat) : Int)) (hfo : (fo == sysModules) = false) (hfew : es.length < 400) (hmany : many ≤ 4)
    (hl : lab = (chainA many es ds).1) :
    Does w 160 [.int lab t1, .ref du, .int many t2, .ref fo] [(fo, ofo)] rest 8 400
      (fun r chg add => ∃ ofo', r = .bool true ∧ chg = [(fo, ofo')] ∧ add = [] ∧ TD PR w l0 ofo' (chainA many es ds).2) := by
  unfold Does
  k_fill
  intro dp un gd env outer A₀ base h₀ L m s mean mg mb Q E _ B F X N hnod T hk hL hd hu hret
  try simp only [List.cons_append, List.nil_append] at N hnod
  ((first | refine peelA hnod (by with_reducible ((repeat (first | exact it_nil | (apply it_na) | (apply it_ca) | (apply it_aa) | (apply it_cons) | (apply it_app))); (try exact it_last))) ?_ | refine peelN hnod (by with_reducible ((repeat (first | exact it_nil | (apply it_na) | (apply it_ca) | (apply it_aa) | (apply it_cons) | (apply it_app))); (try exact it_last))) ?_ | refine peelR hnod (by with_reducible ((repeat (first | exact it_nil | (apply it_na) | (apply it_ca) | (apply it_aa) | (apply it_cons) | (apply it_app))); (try exact it_last))) ?_); (repeat (intro hq9)); refine Past.mk ?_)
  refine wpAny_call ?_
  have hdr := hl0 _ hdu
  obtain ⟨hdi⟩ := hdi
  rcases hdi with _ | @⟨p, t, vs1, ns1, hdi⟩
  · have hl' : lab = -1 := hl
    subst hl'
    k_dflt (refine' code_def ?k1 ?k2 ?k3 ?k4 ?k5 ?kA ?kF ?kK ?k6 ?k7 ?k8 ?k9 ?kB ?_ ?c2 ?c3 ?c4 ?c5; (case kA => exact rfl); (case kF => assumption); (case kK => assumption); (case k1 => k_asm); (case k2 => k_asm); (case k3 => k_asm); (case k4 => k_asm); (case k5 => k_asm); (case k6 => k_is); (case k7 => k_is); (case k8 => ktr_room); (case k9 => exact BindsTo.of_eq rfl); (case c5 => decide); (case kB => exact locs rfl); (case c2 => exact rfl); (case c3 => exact rfl); (case c4 => exact rfl); k_whole; intro g' L' h' FG' F' N' B' X' T'; (try refine wp_toks fun tk9 => ?_); (try dsimp only); (try k_fold))
    k_steps
    rename News h₀ L _ _ => kN
    exact hret _ [(fo, ofo)] [] _ _ (by assumption) (kst_newsOf kN (by (first | exact fun p hp => hp | ((repeat' (first | refine fa_app ?_ ?_ | refine fa_cons ?_ ?_ | refine List.forall_mem_append.mpr ⟨?_, ?_⟩ | refine List.forall_mem_cons.mpr ⟨?_, ?_⟩)) <;> (first | exact List.forall_mem_nil _ | (intro p9 hp9; kp_flats) | kp_flats))))) rfl Young.nil Nod.nil ⟨ofo, rfl, rfl, rfl, TF⟩
  · rcases hdi with _ | @⟨p2, t2, vs, ns, hdi⟩
    · have hl' : lab = p := hl
      subst hl'
      k_dflt (refine' code_def ?k1 ?k2 ?k3 ?k4 ?k5 ?kA ?kF ?kK ?k6 ?k7 ?k8 ?k9 ?kB ?_ ?c2 ?c3 ?c4 ?c5; (case kA => exact rfl); (case kF => assumption); (case kK => assumption); (case k1 => k_asm); (case k2 => k_asm); (case k3 => k_asm); (case k4 => k_asm); (case k5 => k_asm); (case k6 => k_is); (case k7 => k_is); (case k8 => ktr_room); (case k9 => exact BindsTo.of_eq rfl); (case c5 => decide); (case kB => exact locs rfl); (case c2 => exact rfl); (case c3 => exact rfl); (case c4 => exact rfl); k_whole; intro g' L' h' FG' F' N' B' X' T'; (try refine wp_toks fun tk9 => ?_); (try dsimp only); (try k_fold))
      k_steps
      rename News h₀ L _ _ => kN
      refine hret _ [(fo, ofo)] [] _ _ (by assumption) (kst_newsOf kN (by (first | exact fun p hp => hp | ((repeat' (first | refine fa_app ?_ ?_ | refine fa_cons ?_ ?_ | refine List.forall_mem_append.mpr ⟨?_, ?_⟩ | refine List.forall_mem_cons.mpr ⟨?_, ?_⟩)) <;> (first | exact List.forall_mem_nil _ | (intro p9 hp9; kp_flats) | kp_flats))))) rfl Young.nil Nod.nil ⟨ofo, ?_, rfl, rfl, TF⟩
      simp
    · k_dflt (refine' code_def ?k1 ?k2 ?k3 ?k4 ?k5 ?kA ?kF ?kK ?k6 ?k7 ?k8 ?k9 ?kB ?_ ?c2 ?c3 ?c4 ?c5; (case kA => exact rfl); (case kF => assumption); (case kK => assumption); (case k1 => k_asm); (case k2 => k_asm); (case k3 => k_asm); (case k4 => k_asm); (case k5 => k_asm); (case k6 => k_is); (case k7 => k_is); (case k8 => ktr_room); (case k9 => exact BindsTo.of_eq rfl); (case c5 => decide); (case kB => exact locs rfl); (case c2 => exact rfl); (case c3 => exact rfl); (case c4 => exact rfl); k_whole; intro g' L' h' FG' F' N' B' X' T'; (try refine wp_toks fun tk9 => ?_); (try dsimp only); (try k_fold))
      k_steps
      refine eq_unit (by k_asm) (by k_mem) ⟨.cons p t (.cons p2 t2 hdi)⟩ (by k_mem) (by simp) (by tlg_ne) ?_
      have hvl : vs.length ≤ 8 := by
        have := hdi.length
        simp only [List.length_cons] at hdl
        omega
      k_steps
      refine len_tup (by k_asm) (by k_mem) (len2 _ _ vs) (by omega) ?_
      intro t8 tk8
      have hTup : TupInts (p :: p2 :: ns) (tupOf (.int p t :: .int p2 t2 :: vs) dn) := ⟨_, _, rfl, .cons _ _ (.cons _ _ hdi)⟩
      k_steps
      · exfalso; omega
      refine in_TD (by tlg_ne) (by k_asm) TF (by k_mem) (by (first | exact fun p hp => hp | ((repeat' (first | refine fa_app ?_ ?_ | refine fa_cons ?_ ?_ | refine List.forall_mem_append.mpr ⟨?_, ?_⟩ | refine List.forall_mem_cons.mpr ⟨?_, ?_⟩)) <;> (first | exact List.forall_mem_nil _ | (intro p9 hp9; kp_flats) | kp_flats)))) hfo (by k_mem) hTup ?_
      intro tk9
      cases hfe : findE es (p :: p2 :: ns) with
      | some i =>
        have hca : chainA many es (p :: p2 :: ns) = (i, es) := by simp [chainA, hfe]
        rw [hca] at hl
        dsimp only at hl
        subst hl
        simp only [Option.isSome_some]
        k_steps
        refine get_TD (by tlg_ne) (by k_asm) TF (by k_mem) (by (first | exact fun p hp => hp | ((repeat' (first | refine fa_app ?_ ?_ | refine fa_cons ?_ ?_ | refine List.forall_mem_append.mpr ⟨?_, ?_⟩ | refine List.forall_mem_cons.mpr ⟨?_, ?_⟩)) <;> (first | exact List.forall_mem_nil _ | (intro p9 hp9; kp_flats) | kp_flats)))) (by k_mem) hTup hfe ?_
        intro t9 tk9
        k_steps
        rename News h₀ L _ _ => kN
        refine hret _ [(fo, ofo)] [] _ _ (by assumption) (kst_newsOf kN (by (first | exact fun p hp => hp | ((repeat' (first | refine fa_app ?_ ?_ | refine fa_cons ?_ ?_ | refine List.forall_mem_append.mpr ⟨?_, ?_⟩ | refine List.forall_mem_cons.mpr ⟨?_, ?_⟩)) <;> (first | exact List.forall_mem_nil _ | (intro p9 hp9; kp_flats) | kp_flats))))) rfl Young.nil Nod.nil ⟨ofo, ?_, rfl, rfl, ?_⟩
        · simp
        · rw [hca]; exact TF
      | none =>
        have hca : chainA many es (p :: p2 :: ns) = (((many + es.length : Nat) : Int), es ++ [(p :: p2 :: ns, ((many + es.length : Nat) : Int))]) := by simp [chainA, hfe]
        have hl2 : lab = ((many + es.length : Nat) : Int) := by rw [hl, hca]
        have hno : ∀ e ∈ es, e.2 ≠ lab := by
          intro e he hq
          have hm : e.2 ∈ es.map (·.2) := List.mem_map_of_mem he
          rw [hlab] at hm
          refine ex_1 (List.mem_map.mp hm) ?_
          intro j q9o
          refine an_2 q9o ?_
          clear q9o
          intro hj hj2
          have := List.mem_range.mp hj
          omega
        simp only [Option.isSome_none]
        k_steps
        refine meth_vals (by k_asm) TF (by k_mem) ?_
        k_steps
        refine call_vals (by k_asm) (by k_asm) TF (by k_mem) hfo ?_
        intro v h5 F5 N5 l5
        k_lt l5
        k_steps
        refine in_vals_none (by rfl) (by k_asm) (by k_asm) TF (by k_mem) (by k_mem) hno ?_
        intro h6 tk6 F6 N6
        k_steps
        k_dflt (refine' set_TD ?u ?F ?N TF ?U ?s ?m hTup hfe ?z ?_; (case u => tlg_ne); (case F => k_asm); (case N => k_asm); (case m => exact hdu); (case U => k_updF); (case s => (first | exact fun p hp => hp | ((repeat' (first | refine fa_app ?_ ?_ | refine fa_cons ?_ ?_ | refine List.forall_mem_append.mpr ⟨?_, ?_⟩ | refine List.forall_mem_cons.mpr ⟨?_, ?_⟩)) <;> (first | exact List.forall_mem_nil _ | (intro p9 hp9; kp_flats) | kp_flats)))); (case z => (rw [sizeLine_eq]; omega)))
        intro h7 o7 tk7 F7 N7 T7
        try dsimp only at N7
        k_steps
        rename News h₀ L _ _ => kN
        refine hret _ [(fo, o7)] [] _ _ (by assumption) (kst_newsOf kN (by (first | exact fun p hp => hp | ((repeat' (first | refine fa_app ?_ ?_ | refine fa_cons ?_ ?_ | refine List.forall_mem_append.mpr ⟨?_, ?_⟩ | refine List.forall_mem_cons.mpr ⟨?_, ?_⟩)) <;> (first | exact List.forall_mem_nil _ | (intro p9 hp9; kp_flats) | kp_flats))))) rfl Young.nil Nod.nil ⟨o7, rfl, rfl, rfl, ?_⟩
        rw [hca, ← hl2]
        exact T7

end
end
section
local macro_rules | `(tactic| omega) => `(tactic| first | with_reducible assumption | exact Nat.le_of_lt (by with_reducible assumption) | exact Nat.le_trans (by with_reducible assumption) (by decide) | exact Nat.lt_of_lt_of_le (by with_reducible assumption) (by decide) | exact Nat.lt_of_le_of_lt (by with_reducible assumption) (by decide) | exact Nat.le_trans (Nat.le_of_lt (by with_reducible assumption)) (by decide) | exact Nat.ne_of_lt (by with_reducible assumption) | exact Nat.ne_of_gt (by with_reducible assumption) | exact om_ne1 _ 0 | exact om_ne1 _ 1 | exact om_ne1 _ 2 | exact om_ne1 _ 3 | exact om_ne1 _ 4 | exact om_ne2 _ 0 | exact om_ne2 _ 1 | exact om_ne2 _ 2 | exact om_ne2 _ 3 | exact om_ne2 _ 4 | lia)
local macro_rules | `(tactic| walk_at "exec For") => `(tactic| (k_here; (with_reducible show wpAny _ _ (exec (Stmt.For (Expr.Name _ _) _ _ [] _) _) _ _ _); (rename Fr _ _ _ _ => lF'); (with_unfolding_all refine' For_invVF lF' ?k1 ?k2 ?_; (case k1 => exact rfl); (case k2 => exact rfl); k_whole)))
local macro_rules | `(tactic| walk_at "exec For Name Name cons nil") => `(tactic| (k_here; (with_reducible show wpAny _ _ (exec (Stmt.For (Expr.Name _ _) _ _ [] _) _) _ _ _); (rename Fr _ _ _ _ => lF'); (with_unfolding_all refine' For_invVF lF' ?k1 ?k2 ?_; (case k1 => exact rfl); (case k2 => exact rfl); k_whole)))
local macro_rules | `(tactic| walk_at "exec For Name Call cons nil") => `(tactic| (k_here; (with_reducible show wpAny _ _ (exec (Stmt.For (Expr.Name _ _) _ _ [] _) _) _ _ _); (rename Fr _ _ _ _ => lF'); (with_unfolding_all refine' For_invVF lF' ?k1 ?k2 ?_; (case k1 => exact rfl); (case k2 => exact rfl); k_whole)))
local macro_rules | `(tactic| walk_at "exec For Name Attribute cons nil") => `(tactic| (k_here; (with_reducible show wpAny _ _ (exec (Stmt.For (Expr.Name _ _) _ _ [] _) _) _ _ _); (rename Fr _ _ _ _ => lF'); (with_unfolding_all refine' For_invVF lF' ?k1 ?k2 ?_; (case k1 => exact rfl); (case k2 => exact rfl); k_whole)))
local macro_rules | `(tactic| walk_at "newTuple") => `(tactic| (k_here; k_dflt (refine' kup_newTuple ?F ?N ?_ ?z; (case F => k_asm); (case N => k_asm); (case z => ((try simp only [sizeLine_eq, List.length_cons, List.length_nil]); omega))); intro D' h' F' N' l1; (try k_lt l1); (try k_sweep)))
local macro_rules | `(tactic| walk_at "call builtin:list.append") => `(tactic| (k_here; (with_reducible show wpAny _ _ (call (Value.builtin _) [Value.ref _, _]) _ _ _); k_dflt (refine' append_K ?k1 ?k2 ?k3 ?_ ?z; (case k1 => k_asm); (case k2 => k_asm); (case k3 => k_upd); (case z => ((try simp only [List.size_toArray, List.length_append, List.length_cons, List.length_nil, sizeLine_eq]); omega)); k_whole); intro h' F' N'; (try simp only [List.push_toArray] at N'); (try k_sweep)))
local macro_rules | `(tactic| walk_at "subscriptTail") => `(tactic| (k_here; (with_reducible show wpAny _ _ (subscriptTail _ _ (Value.ref _) (Value.int _ _)) _ _ _); k_dflt (refine' item_led ?N ?m ?a ?b ?x ?_; (case N => k_asm); (case m => k_mem); (case a => first | decide | omega); (case b => first | decide | omega); (case x => first | rfl | assumption); k_whole)))
local macro_rules | `(tactic| walk_at "call builtin:len") => `(tactic| (k_here; (with_reducible show wpAny _ _ (call (Value.builtin "len") [Value.ref _]) _ _ _); k_dflt (refine' len_led ?N ?m ?e ?f ?_; (case N => k_asm); (case m => k_mem); (case e => first | exact len0 | exact len1 _ | exact len2 _ _ _ | assumption | exact rfl); (case f => first | omega | decide); k_whole)))
local macro_rules | `(tactic| walk_at "call type:tuple") => `(tactic| (k_here; (with_reducible show wpAny _ _ (call (Value.type _) [Value.ref _]) _ _ _); k_dflt (refine' kde_tupleOf ?k1 ?k2 ?k3 ?k4 ?k5 ?_; (case k1 => k_asm); (case k2 => k_asm); (case k3 => exact News.isList (by k_asm) (by k_mem)); (case k4 => (simp only [sizeLine_eq, List.length_cons, List.size_toArray]; omega)); (case k5 => rfl); k_whole); intro D' h' F' N' l1; (try k_lt l1); (try k_sweep)))
section
theorem offKeyDrawn : True := by
  w_top off
  trivial

local macro_rules | `(tactic| walk_at "call ref") => `(tactic| (k_here; (with_reducible show wpAny _ _ (call (Value.ref 141) [Value.ref _, Value.int _ _]) _ _ _); (try k_fold); k_dflt (refine' draw_use ?hf ?ha ?hb ?P1 ?uB ?uF ?uX ?uN ?un ?uT ?uk ?uL ?ud ?uu ?_; (case uN => k_asm); (case P1 => allgen_close2_more); (case hf => assumption); (case ha => first | decide | omega); (case hb => first | decide | omega); (case uB => k_asm); (case uF => k_asm); (case uX => k_asm); (case un => first | assumption | kat_tups); (case uT => k_asm); (case uk => rfl); (case uL => rfl); (case ud => ktr_room); (case uu => tlg_ne)); intro k' t' us' c' h' tk' h0' h1' hf' F' N' nod'; (try simp only [List.cons_append, List.nil_append] at N' nod'); skip))

theorem kd1 {h₀ h : Heap} {L : Addr} {D f : Addr × Obj} {rest : Led} (N : News h₀ L h (D :: f :: rest)) : News h₀ L h ([f] ++ ([D] ++ rest)) := by
  refine kst_newsOf N fun p hp => ?_
  simp only [List.cons_append, List.nil_append, List.mem_cons] at hp ⊢
  rcases hp with h | h | h <;> simp [h]
theorem kd2 {h₀ h : Heap} {L : Addr} {D T f : Addr × Obj} {rest : Led} (N : News h₀ L h (D :: T :: f :: rest)) : News h₀ L h ([f] ++ ([D, T] ++ rest)) := by
  refine kst_newsOf N fun p hp => ?_
  simp only [List.cons_append, List.nil_append, List.mem_cons] at hp ⊢
  rcases hp with h | h | h | h <;> simp [h]
theorem key_drawn_does (w : World) (fa : Addr) (us : List Value) (c : Nat) (rest : Led) (hf : Figs us) :
    Does w 148 [.ref fa] [(fa, listOf us.toArray c)] rest 8 300
      (fun r chg add => ∃ a k us' c', r = .ref a ∧ chg = [(fa, listOf us'.toArray c')] ∧ Figs us' ∧ KeyIn add (.ref a) k) := by
  unfold Does
  k_fill
  intro dp un gd env outer A₀ base h₀ L m s mean mg mb Q E _ B F X N hnod T hk hL hd hu hret
  try simp only [List.cons_append, List.nil_append] at N hnod
  ((first | refine peelA hnod (by with_reducible ((repeat (first | exact it_nil | (apply it_na) | (apply it_ca) | (apply it_aa) | (apply it_cons) | (apply it_app))); (try exact it_last))) ?_ | refine peelN hnod (by with_reducible ((repeat (first | exact it_nil | (apply it_na) | (apply it_ca) | (apply it_aa) | (apply it_cons) | (apply it_app))); (try exact it_last))) ?_ | refine peelR hnod (by with_reducible ((repeat (first | exact it_nil | (apply it_na) | (apply it_ca) | (apply it_aa) | (apply it_cons) | (apply it_app))); (try exact it_last))) ?_); (repeat (intro hq9)); refine Past.mk ?_)
  refine wpAny_call ?_
  k_dflt (refine' code_def ?k1 ?k2 ?k3 ?k4 ?k5 ?kA ?kF ?kK ?k6 ?k7 ?k8 ?k9 ?kB ?_ ?c2 ?c3 ?c4 ?c5; (case kA => exact rfl); (case kF => assumption); (case kK => assumption); (case k1 => k_asm); (case k2 => k_asm); (case k3 => k_asm); (case k4 => k_asm); (case k5 => k_asm); (case k6 => k_is); (case k7 => k_is); (case k8 => ktr_room); (case k9 => exact BindsTo.of_eq rfl); (case c5 => decide); (case kB => exact locs rfl); (case c2 => exact rfl); (case c3 => exact rfl); (case c4 => exact rfl); k_whole; intro g' L' h' FG' F' N' B' X' T'; (try refine wp_toks fun tk9 => ?_); (try dsimp only); (try k_fold))
  k_steps
  · rename News h₀ L _ _ => kN
    refine hret _ _ _ _ _ (by assumption) (kd1 kN) rfl ?y ?n ⟨_, .var, _, _, rfl, rfl, by assumption, .tuple List.mem_cons_self (.cons (.str _ _) .nil)⟩
    case y => ((try simp only [List.cons_append, List.nil_append]); (repeat' (refine Young.cons ?_ ?_)); (all_goals (first | exact Young.nil | (first | ((repeat (first | with_reducible assumption | exact ap_nil | exact Apart.lt (by with_reducible assumption) | exact Apart.ltk _ (by with_reducible assumption) | (with_reducible refine ap_cons (by first | with_reducible assumption | omega) ?_) | (with_reducible refine ap_app (by first | with_reducible assumption | exact Apart.lt (by with_reducible assumption) | exact Apart.ltk _ (by with_reducible assumption)) ?_))); (first | done | fail "open")) | ((try simp only [List.cons_append, List.nil_append, Apart, apart_append, and_true, true_and, and_assoc]); (all_goals ((repeat' apply And.intro) <;> first | assumption | omega | exact Apart.lt (by assumption) | exact Apart.ltk _ (by assumption))))))))
    case n => kat_tups
  · rename News h₀ L _ _ => kN
    refine hret _ _ _ _ _ (by assumption) (kd1 kN) rfl ?y ?n ⟨_, .list, _, _, rfl, rfl, by assumption, .tuple List.mem_cons_self (.cons (.str _ _) .nil)⟩
    case y => ((try simp only [List.cons_append, List.nil_append]); (repeat' (refine Young.cons ?_ ?_)); (all_goals (first | exact Young.nil | (first | ((repeat (first | with_reducible assumption | exact ap_nil | exact Apart.lt (by with_reducible assumption) | exact Apart.ltk _ (by with_reducible assumption) | (with_reducible refine ap_cons (by first | with_reducible assumption | omega) ?_) | (with_reducible refine ap_app (by first | with_reducible assumption | exact Apart.lt (by with_reducible assumption) | exact Apart.ltk _ (by with_reducible assumption)) ?_))); (first | done | fail "open")) | ((try simp only [List.cons_append, List.nil_append, Apart, apart_append, and_true, true_and, and_assoc]); (all_goals ((repeat' apply And.intro) <;> first | assumption | omega | exact Apart.lt (by assumption) | exact Apart.ltk _ (by assumption))))))))
    case n => kat_tups
  · rename News h₀ L _ _ => kN
    refine hret _ _ _ _ _ (by assumption) (kd1 kN) rfl ?y ?n ⟨_, .struct _, _, _, rfl, rfl, by assumption, .tuple List.mem_cons_self (.cons (.str _ _) (.cons (.int _ _) .nil))⟩
    case y => ((try simp only [List.cons_append, List.nil_append]); (repeat' (refine Young.cons ?_ ?_)); (all_goals (first | exact Young.nil | (first | ((repeat (first | with_reducible assumption | exact ap_nil | exact Apart.lt (by with_reducible assumption) | exact Apart.ltk _ (by with_reducible assumption) | (with_reducible refine ap_cons (by first | with_reducible assumption | omega) ?_) | (with_reducible refine ap_app (by first | with_reducible assumption | exact Apart.lt (by with_reducible assumption) | exact Apart.ltk _ (by with_reducible assumption)) ?_))); (first | done | fail "open")) | ((try simp only [List.cons_append, List.nil_append, Apart, apart_append, and_true, true_and, and_assoc]); (all_goals ((repeat' apply And.intro) <;> first | assumption | omega | exact Apart.lt (by assumption) | exact Apart.ltk _ (by assumption))))))))
    case n => kat_tups
  · rename News h₀ L _ _ => kN
    refine hret _ _ _ _ _ (by assumption) (kd2 kN) rfl ?y ?n ⟨_, .const _ _, _, _, rfl, rfl, by assumption, .tuple List.mem_cons_self (.cons (.str _ _) (.cons (.tuple (List.mem_cons_of_mem _ List.mem_cons_self) (.cons (.int _ _) (.cons (.int _ _) .nil))) .nil))⟩
    case y => ((try simp only [List.cons_append, List.nil_append]); (repeat' (refine Young.cons ?_ ?_)); (all_goals (first | exact Young.nil | (first | ((repeat (first | with_reducible assumption | exact ap_nil | exact Apart.lt (by with_reducible assumption) | exact Apart.ltk _ (by with_reducible assumption) | (with_reducible refine ap_cons (by first | with_reducible assumption | omega) ?_) | (with_reducible refine ap_app (by first | with_reducible assumption | exact Apart.lt (by with_reducible assumption) | exact Apart.ltk _ (by with_reducible assumption)) ?_))); (first | done | fail "open")) | ((try simp only [List.cons_append, List.nil_append, Apart, apart_append, and_true, true_and, and_assoc]); (all_goals ((repeat' apply And.intro) <;> first | assumption | omega | exact Apart.lt (by assumption) | exact Apart.ltk _ (by assumption))))))))
    case n => kat_tups
  · rename News h₀ L _ _ => kN
    refine hret _ _ _ _ _ (by assumption) (kd2 kN) rfl ?y ?n ⟨_, .const _ _, _, _, rfl, rfl, by assumption, .tuple List.mem_cons_self (.cons (.str _ _) (.cons (.tuple (List.mem_cons_of_mem _ List.mem_cons_self) (.cons (.int _ _) (.cons (.int _ _) .nil))) .nil))⟩
    case y => ((try simp only [List.cons_append, List.nil_append]); (repeat' (refine Young.cons ?_ ?_)); (all_goals (first | exact Young.nil | (first | ((repeat (first | with_reducible assumption | exact ap_nil | exact Apart.lt (by with_reducible assumption) | exact Apart.ltk _ (by with_reducible assumption) | (with_reducible refine ap_cons (by first | with_reducible assumption | omega) ?_) | (with_reducible refine ap_app (by first | with_reducible assumption | exact Apart.lt (by with_reducible assumption) | exact Apart.ltk _ (by with_reducible assumption)) ?_))); (first | done | fail "open")) | ((try simp only [List.cons_append, List.nil_append, Apart, apart_append, and_true, true_and, and_assoc]); (all_goals ((repeat' apply And.intro) <;> first | assumption | omega | exact Apart.lt (by assumption) | exact Apart.ltk _ (by assumption))))))))
    case n => kat_tups

end
section
theorem offSome : True := by
  w_top off
  trivial

local macro_rules | `(tactic| walk_at "call ref") => `(tactic| (k_here; (with_reducible show wpAny _ _ (call (Value.ref 141) [Value.ref _, Value.int _ _]) _ _ _); (try k_fold); k_dflt (refine' draw_use ?hf ?ha ?hb ?P1 ?uB ?uF ?uX ?uN ?un ?uT ?uk ?uL ?ud ?uu ?_; (case uN => k_asm); (case P1 => allgen_close2_more); (case hf => assumption); (case ha => first | decide | omega); (case hb => first | decide | omega); (case uB => k_asm); (case uF => k_asm); (case uX => k_asm); (case un => first | assumption | kat_tups); (case uT => k_asm); (case uk => rfl); (case uL => rfl); (case ud => ktr_room); (case uu => tlg_ne)); intro k' t' us' c' h' tk' h0' h1' hf' F' N' nod'; (try simp only [List.cons_append, List.nil_append] at N' nod'); skip))
local macro_rules | `(tactic| walk_at "eval ListComp") => `(tactic| (k_here; k_dflt (refine LCt.ListComp_T (F₀ := by k_asm) (by with_unfolding_all rfl) (by decide) (by rfl) (by decide) (by rfl) ?_)))

theorem some_does (w : World) (fa : Addr) (us : List Value) (c : Nat) (many : Nat) (t : Tok) (rest : Led) (hf : Figs us) (hm1 : 1 ≤ many) (hm2 : many ≤ 4) :
    Does w 153 [.ref fa, .int many t] [(fa, listOf us.toArray c)] rest 8 300
      (fun r chg add => ∃ D vs ps us' c' n, r = .ref D ∧ chg = [(fa, listOf us'.toArray c')] ∧ Figs us' ∧ add = [(D, listOf vs.toArray n)] ∧ Ints vs ps ∧ ps.length ≤ many ∧ ∀ p ∈ ps, 0 ≤ p ∧ p < many) := by
  unfold Does
  k_fill
  intro dp un gd env outer A₀ base h₀ L m s mean mg mb Q E _ B F X N hnod T hk hL hd hu hret
  try simp only [List.cons_append, List.nil_append] at N hnod
  ((first | refine peelA hnod (by with_reducible ((repeat (first | exact it_nil | (apply it_na) | (apply it_ca) | (apply it_aa) | (apply it_cons) | (apply it_app))); (try exact it_last))) ?_ | refine peelN hnod (by with_reducible ((repeat (first | exact it_nil | (apply it_na) | (apply it_ca) | (apply it_aa) | (apply it_cons) | (apply it_app))); (try exact it_last))) ?_ | refine peelR hnod (by with_reducible ((repeat (first | exact it_nil | (apply it_na) | (apply it_ca) | (apply it_aa) | (apply it_cons) | (apply it_app))); (try exact it_last))) ?_); (repeat (intro hq9)); refine Past.mk ?_)
  refine wpAny_call ?_
  k_dflt (refine' code_defC ?k1 ?k2 ?k3 ?k4 ?k5 ?kA ?kF ?kK ?k6 ?k7 ?k8 ?k9 ?kB ?kD ?_ ?c2 ?c3 ?c4; (case kA => exact rfl); (case kF => assumption); (case kK => assumption); (case k1 => k_asm); (case k2 => k_asm); (case k3 => k_asm); (case k4 => k_asm); (case k5 => k_asm); (case k6 => k_is); (case k7 => k_is); (case k8 => ktr_room); (case k9 => exact BindsTo.of_eq rfl); (case kB => exact rfl); (case kD => decide +kernel); (case c2 => exact rfl); (case c3 => exact rfl); (case c4 => exact rfl); k_whole; intro g' L' h' tk' cells' FG' F' N' Y' B' X' T' l1; (try k_lt l1); k_cells Y'; (try simp only [List.cons_append, List.nil_append] at N'); (try dsimp only); (try k_fold))
  k_steps
  rename IsRange _ _ _ _ _ _ _ _ => kR
  refine compT_range0 (n := many) (fun i ys => ∃ ps : List Int, Ints ys ps ∧ ps.length ≤ i ∧ ∀ p ∈ ps, 0 ≤ p ∧ p < many) rfl (by k_asm) (by k_asm) ?un kR ?rs ?rz ?rf ?rj ?turn ?fin
  case un => kat_tups
  case rs => rcases (by omega : many = 1 ∨ many = 2 ∨ many = 3 ∨ many = 4) with rfl | rfl | rfl | rfl <;> rfl
  case rz => exact rangeSize_nat _ _
  case rf => omega
  case rj => exact ⟨[], Ints.nil, by simp, by simp⟩
  case turn =>
    intro i t' ys I oI C oC D m₂ h tk E' hi hJ hC hx F₁ N₁ hn₁
    refine ex_1 (hJ) ?_
    (try clear hJ)
    intro ps q9o
    refine an_3 q9o ?_
    clear q9o
    intro hi1 hi2 hi3
    k_steps
    · refine CEnd.intro _ _ (by k_asm) (by k_asm) (by k_sub) hn₁ ⟨rfl, ps ++ [0 + (i : Int)], hi1.append (Ints.one _ _), by simp; omega, ?_⟩
      intro p hp
      rcases List.mem_append.mp hp with hp | hp
      · exact hi3 p hp
      · rw [List.mem_singleton.mp hp]; omega
    · exact CEnd.intro _ _ (by k_asm) (by k_asm) (by k_sub) hn₁ ⟨rfl, ps, hi1, by omega, hi3⟩
  case fin =>
    intro ys D h tk hJ F₁ N₁ hn₁
    refine ex_1 (hJ) ?_
    (try clear hJ)
    intro ps q9o
    refine an_3 q9o ?_
    clear q9o
    intro hi1 hi2 hi3
    dsimp only
    k_steps
    have hD := (nodA.mp hn₁).1
    simp only [Apart, and_assoc] at hD
    rename Figs _ => kG
    rename News h₀ L _ _ => kN
    refine hret _ [(fa, _)] [(D, _)] _ _ (by assumption) (kst_newsOf kN (by (first | exact fun p hp => hp | ((repeat' (first | refine fa_app ?_ ?_ | refine fa_cons ?_ ?_ | refine List.forall_mem_append.mpr ⟨?_, ?_⟩ | refine List.forall_mem_cons.mpr ⟨?_, ?_⟩)) <;> (first | exact List.forall_mem_nil _ | (intro p9 hp9; kp_flats) | kp_flats))))) (by rfl) (Young.cons ⟨hD.1, hD.2.2⟩ Young.nil) (Nod.one _) ⟨D, ys, ps, _, _, _, rfl, rfl, kG, rfl, hi1, hi2, hi3⟩

end
section
theorem offFigures : True := by
  w_top off
  trivial
local macro_rules | `(tactic| walk_at "zz") => `(tactic| skip)

local macro_rules | `(tactic| walk_at "pyIter ref") => `(tactic| (k_here; (with_reducible show wpAny _ _ (pyIter (Value.ref _)) _ _ _); refine Held.out ?_))
local macro_rules | `(tactic| walk_at "call builtin:list.reverse") => `(tactic| (k_here; (with_reducible show wpAny _ _ (call (Value.builtin _) [Value.ref _]) _ _ _); k_dflt (refine' kl_reverse ?F ?N ?e ?U ?z ?_; (case F => k_asm); (case N => k_asm); (case U => k_upd); (case e => exact rfl); (case z => (rw [sizeLine_eq, List.toList_toArray]; omega))); intro h' F' N'; (try k_sweep)))

theorem Ints.take {vs : List Value} {ns : List Int} (h : Ints vs ns) (k : Nat) : Ints (vs.take k) (ns.take k) := by
  obtain ⟨h⟩ := h
  induction h generalizing k with
  | nil => simp; exact .nil
  | cons n t h ih =>
    cases k with
    | zero => exact .nil
    | succ k => exact ⟨.cons n t (ih k).is⟩
theorem Ints.reverse {vs : List Value} {ns : List Int} (h : Ints vs ns) : Ints vs.reverse ns.reverse := by
  obtain ⟨h⟩ := h
  induction h with
  | nil => exact .nil
  | cons n t h ih =>
    rw [List.reverse_cons, List.reverse_cons]
    exact ih.append (.one n t)
theorem pick_take (vs : List Value) (k : Nat) : kms_pick vs none (some (k : Int)) = vs.take k := by
  unfold kms_pick kms_lo kms_hi
  have : ¬ ((k : Int) < 0) := by omega
  simp only [if_neg this, Int.toNat_natCast, List.drop_zero, Nat.sub_zero]
  rw [List.take_eq_take_iff]
  omega

def FigL (n : Nat) (vs : List Value) : Prop := ∃ ks : List Int, Ints vs ks ∧ (∀ k ∈ ks, 0 ≤ k ∧ k < 997) ∧ ks.length ≤ n
theorem FigL.length {n : Nat} {vs : List Value} (h : FigL n vs) : vs.length ≤ n := by
  refine ex_1 (h) ?_
  (try clear h)
  intro ks q9o
  refine an_3 q9o ?_
  clear q9o
  intro a _ b
  rw [a.length]; exact b
theorem FigL.snoc {n : Nat} {vs : List Value} {k : Int} {t : Tok} (h : FigL n vs) (h0 : 0 ≤ k) (h1 : k < 997) : FigL (n + 1) (vs ++ [.int k t]) := by
  refine ex_1 (h) ?_
  (try clear h)
  intro ks q9o
  refine an_3 q9o ?_
  clear q9o
  intro a b c
  refine ⟨ks ++ [k], a.append (.one k t), fun j hj => ?_, by simp; omega⟩
  rcases List.mem_append.mp hj with hj | hj
  · exact b j hj
  · rw [List.mem_singleton.mp hj]; exact ⟨h0, h1⟩
theorem FigL.nil {n : Nat} : FigL n [] := ⟨[], Ints.nil, by simp, by simp⟩
theorem FigL.up {n k : Nat} {vs : List Value} (h : FigL n vs) (hk : n ≤ k) : FigL k vs := by
  refine ex_1 (h) ?_
  (try clear h)
  intro ks q9o
  refine an_3 q9o ?_
  clear q9o
  intro a b c
  exact ⟨ks, a, b, by omega⟩

theorem figures_does (w : World) (sa : Addr) (sv : List Value) (xs : List Int) (rest : Led) (hix : IntsAre sv xs) (hlx : xs.length ≤ 63) :
    ∀ (dp un : Nat) (gd : Option (List Code)) (env : Env) (outer : List Env) (A₀ : Around) (base h₀ : Heap) (L : Addr) (m : Str → Option Value) (s : Shared)
    (mean : ExcName → Option Value) (mg mb : Str → Option Value) (Q E : Value → Shared → Prop),
    PySem.Challenge.rw_rh0065_01 = PySem.Challenge.rw_rh0065_01 →
    Below A₀ base outer h₀ → Fr h₀ L s.heap m → (Mine.hd.heap_1 w.params).In h₀ → h₀.IsList sa sv.toArray → News h₀ L s.heap rest → Nod rest →
    Top Mine.V (looseW Mine.V []) mean mg mb h₀ → env.scope.kind = .function → env.frame = some L → dp + 8 < recursionLimit → un + 300 < cLine →
    (∀ fa us c h' tk', Fr h₀ L h' m → News h₀ L h' ((fa, listOf us.toArray c) :: rest) → Nod ((fa, listOf us.toArray c) :: rest) → Figs us → Q (.ref fa) { s with heap := h', toks := tk' }) →
    wpAny (model PySem.Challenge.rw_rh0065_01.row.prog w) (around dp un gd env outer) (call (.ref 134) [.ref sa]) Q E s := by
  k_fill
  intro dp un gd env outer A₀ base h₀ L m s mean mg mb Q E _ B F X hsl N hnod T hk hL hd hu hret
  have hnA := nodA.mp hnod
  refine wpAny_call ?_
  k_dflt (refine' code_def ?k1 ?k2 ?k3 ?k4 ?k5 ?kA ?kF ?kK ?k6 ?k7 ?k8 ?k9 ?kB ?_ ?c2 ?c3 ?c4 ?c5; (case kA => exact rfl); (case kF => assumption); (case kK => assumption); (case k1 => k_asm); (case k2 => k_asm); (case k3 => k_asm); (case k4 => k_asm); (case k5 => k_asm); (case k6 => k_is); (case k7 => k_is); (case k8 => ktr_room); (case k9 => exact BindsTo.of_eq rfl); (case c5 => decide); (case kB => exact locs rfl); (case c2 => exact rfl); (case c3 => exact rfl); (case c4 => exact rfl); k_whole; intro g' L' h' FG' F' N' B' X' T'; (try refine wp_toks fun tk9 => ?_); (try dsimp only); (try k_fold))
  k_steps
  rename Fr g' L' _ _ => kF
  rename News g' L' _ _ => kN
  refine kms_slice_lit kF kN ⟨_, kF.keep _ _ (FG'.keep _ _ hsl.choose_spec.1), hsl.choose_spec.2⟩ (by kmk_part) (by kmk_part) rfl ?_ (by with_unfolding_all rfl) (by kmk_pure) ?_
  case refine_2 => rw [sizeLine_eq, List.size_toArray, hix.length]; omega
  intro D1 h1 F1 N1 lD
  rw [show kms_pick sv.toArray.toList none (some 30) = sv.take 30 from pick_take sv 30] at N1
  have hit : Ints (sv.take 30) (xs.take 30) := Ints.take ⟨hix⟩ 30
  have hil : (sv.take 30).length ≤ 30 := by rw [List.length_take]; omega
  generalize sv.take 30 = tv at N1 hit hil
  generalize xs.take 30 = ts at hit
  clear hix
  k_steps
  refine ⟨?_⟩
  apply loop_list (σ := Addr × List Value × Nat) (fun c => [(Str.ofString "figures", .ref c.1)]) [Str.ofString "whole", Str.ofString "turn"] (fun i c nx => nx = (D1, listOf tv.toArray 0) :: (c.1, listOf c.2.1.toArray c.2.2) :: rest ∧ FigL (24 * i) c.2.1) (_, [], 0)
  case hh => rfl
  case F => exact F1
  case N => exact N1
  case hj => exact ⟨rfl, FigL.nil⟩
  case hl => k_mem
  case hn => 
    replace lD := allLt_of lD
    simp only [AllLt, and_assoc] at lD
    have lD1 := lD.1
    have lD2 := lD.2
    kat_tups
  case hk => first | ((repeat (first | exact fr_nil | refine fr_cons (by rfl) ?_)); done) | (intro p hp; rw [List.mem_singleton.mp hp]; rfl)
  case turn =>
    rintro i v ⟨fa, vs, c⟩ nx u h tk I oI hi' hv hJ79 hl hn F2 N2
    refine turn_cps ?_
    intro q79 hq79 hb79 hr79
    refine an_2 (hJ79) ?_
    (try clear hJ79)
    intro r9q
    subst r9q
    intro hI
    refine with_goal fun X79 hX79 => ?_
    refine ex_2 (hit.get hv) ?_
    intro p t q9o
    refine an_2 q9o ?_
    clear q9o
    intro hpp
    intro r9q
    subst r9q
    refine hX79 ?_
    have hnI := nodA.mp hn
    ((first | refine peelA hnI (by with_reducible ((repeat (first | exact it_nil | (apply it_na) | (apply it_ca) | (apply it_aa) | (apply it_cons) | (apply it_app))); (try exact it_last))) ?_ | refine peelN hnI (by with_reducible ((repeat (first | exact it_nil | (apply it_na) | (apply it_ca) | (apply it_aa) | (apply it_cons) | (apply it_app))); (try exact it_last))) ?_ | refine peelR hnI (by with_reducible ((repeat (first | exact it_nil | (apply it_na) | (apply it_ca) | (apply it_aa) | (apply it_cons) | (apply it_app))); (try exact it_last))) ?_); (repeat (intro hq9)); refine Past.mk ?_)
    dsimp only [kstB] at F2 N2
    try k_fold
    k_steps
    all_goals (
      refine ⟨?_⟩
      rename IsRange _ _ _ _ _ _ _ _ => kR
      rename News g' _ _ _ => kN
      rename Fr g' _ _ _ => kF
      apply loop_range (n := 24) (σ := List Value × Nat × Int × Tok) (fun c => [(Str.ofString "figures", .ref fa), (Str.ofString "whole", .int c.2.2.1 c.2.2.2)]) [] (fun j c nx => nx = (I, oI) :: (D1, listOf tv.toArray 0) :: (fa, listOf c.1.toArray c.2.1) :: rest ∧ FigL (24 * i + j) c.1) (vs, _, _, _)
      case hh => rfl
      case hr => exact kR
      case F => exact kF
      case N => exact kN
      case hj => exact ⟨rfl, hI⟩
      case hn => exact hn
      case hsmall => rfl
      case hsz => rfl
      case hk => first | ((repeat (first | exact fr_nil | refine fr_cons (by rfl) ?_)); done) | (intro p hp; (rcases List.mem_cons.mp hp with rfl | hp); (· rfl); (rw [List.mem_singleton.mp hp]; rfl))
      case turn =>
        rintro j t' ⟨ws, d, q, tq⟩ nx u h tk I' oI' hj hJ79 hn' F3 N3
        refine turn_cps ?_
        intro q78 hq78 hb78 hr78
        refine an_2 (hJ79) ?_
        (try clear hJ79)
        intro r9q
        subst r9q
        intro hJ
        dsimp only [kstB] at F3 N3
        try k_fold
        replace hJ : FigL (24 * i + j) ws := hJ
        have hwl := hJ.length
        have hnJ := nodA.mp hn'
        ((first | refine peelA hnJ (by with_reducible ((repeat (first | exact it_nil | (apply it_na) | (apply it_ca) | (apply it_aa) | (apply it_cons) | (apply it_app))); (try exact it_last))) ?_ | refine peelN hnJ (by with_reducible ((repeat (first | exact it_nil | (apply it_na) | (apply it_ca) | (apply it_aa) | (apply it_cons) | (apply it_app))); (try exact it_last))) ?_ | refine peelR hnJ (by with_reducible ((repeat (first | exact it_nil | (apply it_na) | (apply it_ca) | (apply it_aa) | (apply it_cons) | (apply it_app))); (try exact it_last))) ?_); (repeat (intro hq9)); refine Past.mk ?_)
        k_steps
        · refine hb78 _ ?_
          k_steps
          rename News g' _ _ _ => lN
          rename Fr g' _ _ _ => lF
          refine (hq79 (fa, _, _) _ _ _ _ lF (by first | ((repeat (first | exact fr_nil | refine fr_cons (by rfl) ?_)); done) | (intro q hq; rw [List.mem_singleton.mp hq]; rfl)) (by intro z z1 z2 z3; first | ((repeat (first | with_reducible rfl | with_reducible assumption | refine kp_st (by with_reducible assumption) ?_ | refine kp_set (by first | with_reducible exact z1 | with_reducible exact z2 _ List.mem_cons_self | with_reducible exact z2 _ (List.mem_cons_of_mem _ List.mem_cons_self) | with_reducible exact z2 _ (List.mem_cons_of_mem _ (List.mem_cons_of_mem _ List.mem_cons_self)) | exact kp_con z3 (by ((repeat (with_reducible_and_instances first | exact List.Mem.head _ | refine List.Mem.tail _ ?_)); (first | done | fail "open")))) ?_ | refine kp_same (by assumption) ?_ | exact rfl)); done) | ((have z4 : z ≠ Str.ofString "figures" := z2 _ List.mem_cons_self); (have y0 : z ≠ Str.ofString "whole" := fun e => by (subst e; simp at z3)); (have y1 : z ≠ Str.ofString "turn" := fun e => by (subst e; simp at z3)); (try dsimp only [kstB]); simp only [if_neg z1, if_neg z4, if_neg y0, if_neg y1, z3, List.contains_nil, Bool.false_eq_true, if_false])) (kst_newsOf lN (by (first | exact fun p hp => hp | ((repeat' (first | refine fa_app ?_ ?_ | refine fa_cons ?_ ?_ | refine List.forall_mem_append.mpr ⟨?_, ?_⟩ | refine List.forall_mem_cons.mpr ⟨?_, ?_⟩)) <;> (first | exact List.forall_mem_nil _ | (intro p9 hp9; kp_flats) | kp_flats))))) (by exact hn) (by (first | exact fun p hp => hp | ((repeat' (first | refine fa_app ?_ ?_ | refine fa_cons ?_ ?_ | refine List.forall_mem_append.mpr ⟨?_, ?_⟩ | refine List.forall_mem_cons.mpr ⟨?_, ?_⟩)) <;> (first | exact List.forall_mem_nil _ | (intro p9 hp9; kp_flats) | kp_flats)))) ⟨rfl, (hJ.snoc (Int.fmod_nonneg_of_pos _ (by decide)) (Int.fmod_lt_of_pos _ (by decide))).up (by omega)⟩).1
        · rename News g' _ _ _ => lN
          rename Fr g' _ _ _ => lF
          refine (hq78 (_, _, _, _) _ _ _ _ lF (by first | ((repeat (first | exact fr_nil | refine fr_cons (by rfl) ?_)); done) | (intro q hq; (rcases List.mem_cons.mp hq with rfl | hq); (· rfl); (rw [List.mem_singleton.mp hq]; rfl))) (by intro z z1 z2 z3; first | ((repeat (first | with_reducible rfl | with_reducible assumption | refine kp_st (by with_reducible assumption) ?_ | refine kp_set (by first | with_reducible exact z1 | with_reducible exact z2 _ List.mem_cons_self | with_reducible exact z2 _ (List.mem_cons_of_mem _ List.mem_cons_self) | with_reducible exact z2 _ (List.mem_cons_of_mem _ (List.mem_cons_of_mem _ List.mem_cons_self)) | exact kp_con z3 (by ((repeat (with_reducible_and_instances first | exact List.Mem.head _ | refine List.Mem.tail _ ?_)); (first | done | fail "open")))) ?_ | refine kp_same (by assumption) ?_ | exact rfl)); done) | ((have z4 : z ≠ Str.ofString "figures" := z2 _ List.mem_cons_self); (have z5 : z ≠ Str.ofString "whole" := z2 _ (List.mem_cons_of_mem _ List.mem_cons_self)); (try dsimp only [kstB]); simp only [if_neg z1, if_neg z4, if_neg z5, z3, List.contains_nil, Bool.false_eq_true, if_false])) lN hn' (by (first | exact fun p hp => hp | ((repeat' (first | refine fa_app ?_ ?_ | refine fa_cons ?_ ?_ | refine List.forall_mem_append.mpr ⟨?_, ?_⟩ | refine List.forall_mem_cons.mpr ⟨?_, ?_⟩)) <;> (first | exact List.forall_mem_nil _ | (intro p9 hp9; kp_flats) | kp_flats)))) ⟨rfl, hJ.snoc (Int.fmod_nonneg_of_pos _ (by decide)) (Int.fmod_lt_of_pos _ (by decide))⟩).1
      case done =>
        rintro ⟨ws, d, q, tq⟩ nx u h tk hJ79 hn' F3 N3
        refine an_2 (hJ79) ?_
        (try clear hJ79)
        intro r9q
        subst r9q
        intro hJ
        dsimp only [kstB] at F3 N3
        replace hJ : FigL (24 * i + 24) ws := hJ
        k_steps
        skip
        rename News g' _ _ _ => lN
        rename Fr g' _ _ _ => lF
        refine (hq79 (fa, ws, d) _ _ _ _ lF (by first | ((repeat (first | exact fr_nil | refine fr_cons (by rfl) ?_)); done) | (intro q hq; rw [List.mem_singleton.mp hq]; rfl)) (by intro z z1 z2 z3; first | ((repeat (first | with_reducible rfl | with_reducible assumption | refine kp_st (by with_reducible assumption) ?_ | refine kp_set (by first | with_reducible exact z1 | with_reducible exact z2 _ List.mem_cons_self | with_reducible exact z2 _ (List.mem_cons_of_mem _ List.mem_cons_self) | with_reducible exact z2 _ (List.mem_cons_of_mem _ (List.mem_cons_of_mem _ List.mem_cons_self)) | exact kp_con z3 (by ((repeat (with_reducible_and_instances first | exact List.Mem.head _ | refine List.Mem.tail _ ?_)); (first | done | fail "open")))) ?_ | refine kp_same (by assumption) ?_ | exact rfl)); done) | ((have z4 : z ≠ Str.ofString "figures" := z2 _ List.mem_cons_self); (have y0 : z ≠ Str.ofString "whole" := fun e => by (subst e; simp at z3)); (have y1 : z ≠ Str.ofString "turn" := fun e => by (subst e; simp at z3)); (try dsimp only [kstB]); simp only [if_neg z1, if_neg z4, if_neg y0, if_neg y1, z3, List.contains_nil, Bool.false_eq_true, if_false])) lN hn' (by (first | exact fun p hp => hp | ((repeat' (first | refine fa_app ?_ ?_ | refine fa_cons ?_ ?_ | refine List.forall_mem_append.mpr ⟨?_, ?_⟩ | refine List.forall_mem_cons.mpr ⟨?_, ?_⟩)) <;> (first | exact List.forall_mem_nil _ | (intro p9 hp9; kp_flats) | kp_flats)))) ⟨rfl, hJ.up (by omega)⟩).1)
  case done =>
    rintro ⟨fa, vs, c⟩ nx u h tk hJ79 hl hn F2 N2
    refine an_2 (hJ79) ?_
    (try clear hJ79)
    intro r9q
    subst r9q
    intro hI
    dsimp only [kstB] at F2 N2
    replace hI : FigL (24 * tv.length) vs := hI
    k_steps
    rename News g' L' _ _ => kN
    rename Fr g' L' _ _ => kF
    have hvl := hI.length
    refine kms_slice_lit kF kN (kN.isList (by k_mem)) (by kmk_part) (by kmk_part) rfl ?_ (by with_unfolding_all rfl) (by kmk_pure) ?_
    case refine_2 => rw [sizeLine_eq, List.size_toArray]; omega
    intro D2 h2 F3 N3 lD2
    rw [show kms_pick vs.toArray.toList none (some 90) = vs.take 90 from pick_take vs 90] at N3
    refine ex_1 (hI) ?_
    (try clear hI)
    intro ks q9o
    refine an_3 q9o ?_
    clear q9o
    intro hk1 hk2 hk3
    have hr := (hk1.take 90).reverse
    have hrl : (vs.take 90).length ≤ 90 := by rw [List.length_take]; omega
    have hkb : ∀ k ∈ (ks.take 90).reverse, 0 ≤ k ∧ k < 997 := fun k hk => hk2 k (List.mem_of_mem_take (List.mem_reverse.mp hk))
    have hkl : (ks.take 90).reverse.length ≤ 90 := by rw [List.length_reverse, List.length_take]; omega
    generalize hw : vs.take 90 = ws at N3 hr hrl
    generalize (ks.take 90).reverse = js at hr hkb hkl
    replace lD2 := allLt_of lD2
    simp only [AllLt, and_assoc] at lD2
    refine an_3 (lD2) ?_
    (try clear lD2)
    intro e1 e2 e3
    have e4 : @Ne Nat D1 D2 := Nat.ne_of_lt e1
    have e5 : @Ne Nat fa D2 := Nat.ne_of_lt e2
    have e6 := Apart.lt e3
    k_steps
    rename News h₀ L _ _ => lN
    refine hret _ _ _ _ _ (by assumption) (kst_newsOf lN (by (first | exact fun p hp => hp | ((repeat' (first | refine fa_app ?_ ?_ | refine fa_cons ?_ ?_ | refine List.forall_mem_append.mpr ⟨?_, ?_⟩ | refine List.forall_mem_cons.mpr ⟨?_, ?_⟩)) <;> (first | exact List.forall_mem_nil _ | (intro p9 hp9; kp_flats) | kp_flats))))) (Nod.of_cons (allLt_ne e3) hnod) ⟨js, hr.is, hkb, hkl⟩

end
section
theorem offRows : True := by
  w_top off
  trivial
local macro_rules | `(tactic| walk_at "zz") => `(tactic| skip)

local macro_rules | `(tactic| walk_at "pyIter ref") => `(tactic| (k_here; (with_reducible show wpAny _ _ (pyIter (Value.ref _)) _ _ _); refine Held.out ?_))

section
variable {prog : Program} {w : World} {A : Around} {E : Value → Shared → Prop} {s : Shared} {h₀ : Heap} {L l : Addr} {news : Led} {m : Str → Option Value}
theorem item_tup {value slice : PySem.Expr} {vs : List Value} {n : Nat} {k : Int} {u : Tok} {v : Value} {Q : Value → Shared → Prop} (N : News h₀ L s.heap news) (hm : (l, tupOf vs n) ∈ news)
    (h0 : 0 ≤ k) (h1 : k < 2 ^ 63) (hx : vs[k.toNat]? = some v) (h : Q v s)
    (hs : subscripted slice false (.ref l) (.int k u) = operate [.ref l, .int k u] (getItem (.ref l) (.int k u)) := by with_unfolding_all rfl) :
    wpAny (model prog w) A (subscriptTail value slice (.ref l) (.int k u)) Q E s :=
  have hlt : k.toNat < vs.length := by
    rcases Nat.lt_or_ge k.toNat vs.length with q | q
    · exact q
    · rw [List.getElem?_eq_none q] at hx; cases hx
  item_tupleT (j := k.toNat) (N.isTup hm) (by omega) h1 (by
    unfold seqIndex?
    have e1 : (k.toNat : Int) = k := Int.toNat_of_nonneg h0
    split <;> first | omega | simp_all <;> omega) hx h hs
end
local macro_rules | `(tactic| walk_at "subscriptTail") => `(tactic| (k_here; (with_reducible show wpAny _ _ (subscriptTail _ _ (Value.ref _) (Value.int _ _)) _ _ _); k_dflt (refine' item_tup ?N ?m ?a ?b ?x ?_; (case N => k_asm); (case m => k_mem); (case a => first | decide | omega); (case b => first | decide | omega); (case x => first | rfl | assumption); k_whole)))
local macro_rules | `(tactic| walk_at "call builtin:len") => `(tactic| (k_here; (with_reducible show wpAny _ _ (call (Value.builtin "len") [Value.ref _]) _ _ _); k_dflt (refine' len_tup ?N ?m ?e ?f ?_; (case N => k_asm); (case m => k_mem); (case e => first | assumption | exact rfl); (case f => first | omega | decide)); intro t8 tk8))

/-- a chain's rows -/
def rowsOf (ar : Int) (ds : List Int) : List Dat :=
  .tuple [.str (Str.ofString "try"), .int (ds.headD 0), .int ar] :: (((ds.drop 1).take (ds.length - 2)).map fun d => Dat.tuple [.str (Str.ofString "retry"), .int d]) ++ [.tuple [.str (Str.ofString "trust"), .int (ds.getLastD 0)]]

theorem young_of_nod {add rest : Led} (h : Nod (add ++ rest)) : Young add rest ∧ Nod add := ⟨fun p hp q hq => Ne.symm (h.apart p hp q hq), h.left⟩
theorem rows_end {ds : List Int} {d0 d1 ar : Int} (h2 : 2 ≤ ds.length) (h0 : ds[(0 : Int).toNat]? = some d0) (h1 : ds[((ds.length : Int) - 1).toNat]? = some d1) :
    (.tuple [.str (Str.ofString "try"), .int d0, .int ar] :: ((ds.drop 1).take (ds.length - 2)).map fun d => Dat.tuple [.str (Str.ofString "retry"), .int d]) ++ [.tuple [.str (Str.ofString "trust"), .int d1]] = rowsOf ar ds := by
  unfold rowsOf
  have e0 : ds.headD 0 = d0 := by
    cases ds with
    | nil => simp at h2
    | cons a r => simpa using h0
  have e1 : ds.getLastD 0 = d1 := by
    rw [show ((ds.length : Int) - 1).toNat = ds.length - 1 by omega, ← List.getLast?_eq_getElem?] at h1
    rw [List.getLastD_eq_getLast?, h1]
    rfl
  rw [e0, e1]

theorem chain_rows_does (w : World) (ba bd co ro ch kn la : Addr) (x : BTok) (ar : Int) (ta : Tok) (nl : Int) (tn : Tok) (dv : List Value) (dn : Nat) (ds : List Int) (rest : Led)
    (hi : (ba, instObj 102 bd) ∈ rest) (hb : (bd, bDict x ar ta co ro ch kn nl tn) ∈ rest) (hla : (la, tupOf dv dn) ∈ rest) (hdi : Ints dv ds) (hd2 : 2 ≤ ds.length) (hd8 : ds.length ≤ 8) :
    Does w 57 [.ref ba, .ref la] [] rest 8 300
      (fun r chg add => ∃ D vs c, r = .ref D ∧ chg = [] ∧ (D, listOf vs.toArray c) ∈ add ∧ DatAll add vs (rowsOf ar ds)) := by
  unfold Does
  k_fill
  intro dp un gd env outer A₀ base h₀ L m s mean mg mb Q E _ B F X N hnod T hk hL hd hu hret
  try simp only [List.cons_append, List.nil_append] at N hnod
  ((first | refine peelA hnod (by with_reducible ((repeat (first | exact it_nil | (apply it_na) | (apply it_ca) | (apply it_aa) | (apply it_cons) | (apply it_app))); (try exact it_last))) ?_ | refine peelN hnod (by with_reducible ((repeat (first | exact it_nil | (apply it_na) | (apply it_ca) | (apply it_aa) | (apply it_cons) | (apply it_app))); (try exact it_last))) ?_ | refine peelR hnod (by with_reducible ((repeat (first | exact it_nil | (apply it_na) | (apply it_ca) | (apply it_aa) | (apply it_cons) | (apply it_app))); (try exact it_last))) ?_); (repeat (intro hq9)); refine Past.mk ?_)
  refine wpAny_call ?_
  dsimp only [bDict] at hb
  have hlen : dv.length = ds.length := hdi.length
  obtain ⟨v0, hv0⟩ : ∃ v0, dv[(0 : Int).toNat]? = some v0 := ⟨dv[0]'(by omega), List.getElem?_eq_getElem (by omega)⟩
  refine with_goal fun X79 hX79 => ?_
  refine ex_2 (hdi.get hv0) ?_
  intro d0 td0 q9o
  refine an_2 q9o ?_
  clear q9o
  intro hd0
  intro r9q
  subst r9q
  refine hX79 ?_
  have hh8 : Held (ds.length ≤ 8) := ⟨hd8⟩
  have hfit : (ds.length : Int) < 2 ^ 63 := by omega
  clear hd8
  k_dflt (refine' code_def ?k1 ?k2 ?k3 ?k4 ?k5 ?kA ?kF ?kK ?k6 ?k7 ?k8 ?k9 ?kB ?_ ?c2 ?c3 ?c4 ?c5; (case kA => exact rfl); (case kF => assumption); (case kK => assumption); (case k1 => k_asm); (case k2 => k_asm); (case k3 => k_asm); (case k4 => k_asm); (case k5 => k_asm); (case k6 => k_is); (case k7 => k_is); (case k8 => ktr_room); (case k9 => exact BindsTo.of_eq rfl); (case c5 => decide); (case kB => exact locs rfl); (case c2 => exact rfl); (case c3 => exact rfl); (case c4 => exact rfl); k_whole; intro g' L' h' FG' F' N' B' X' T'; (try refine wp_toks fun tk9 => ?_); (try dsimp only); (try k_fold))
  k_steps
  replace hh8 := hh8.out
  refine ⟨?_⟩
  rename IsRange _ _ _ _ _ _ _ _ => kR
  rename News g' _ _ _ => kN
  rename Fr g' _ _ _ => kF
  apply loop_range (n := ds.length - 2) (σ := Addr × List Value × Nat) (fun c => [(Str.ofString "rows", .ref c.1)]) [] (fun i c nx => ∃ T, nx = (c.1, listOf c.2.1.toArray c.2.2) :: (T ++ rest) ∧ DatAll T c.2.1 (.tuple [.str (Str.ofString "try"), .int d0, .int ar] :: ((ds.drop 1).take i).map fun d => Dat.tuple [.str (Str.ofString "retry"), .int d])) (_, [.ref _], 0)
  case hh => rfl
  case hr => exact kR
  case F => exact kF
  case N => exact kN
  case hj => exact ⟨[_], rfl, .cons (.tuple List.mem_cons_self (.cons (.str _ _) (.cons (.int _ _) (.cons (.int _ _) .nil)))) .nil⟩
  case hn => kat_tups
  case hsmall => exact small_one (by omega) (by omega) (by omega) (by omega)
  case hsz => exact (rangeSize_nat _ _).trans (by omega)
  case hk => first | ((repeat (first | exact fr_nil | refine fr_cons (by rfl) ?_)); done) | (intro p hp; rw [List.mem_singleton.mp hp]; rfl)
  case turn =>
    rintro i t' ⟨D, vs, c⟩ nx u h tk I oI hi' hJ79 hn F3 N3
    refine turn_cps ?_
    intro q79 hq79 hb79 hr79
    refine with_goal fun X79 hX79 => ?_
    refine ex_1 (hJ79) ?_
    (try clear hJ79)
    intro T q9o
    refine an_2 q9o ?_
    clear q9o
    intro r9q
    subst r9q
    intro hT
    refine hX79 ?_
    dsimp only [kstB] at F3 N3
    try k_fold
    have hnI := nodA.mp hn
    ((first | refine peelA hnI (by with_reducible ((repeat (first | exact it_nil | (apply it_na) | (apply it_ca) | (apply it_aa) | (apply it_cons) | (apply it_app))); (try exact it_last))) ?_ | refine peelN hnI (by with_reducible ((repeat (first | exact it_nil | (apply it_na) | (apply it_ca) | (apply it_aa) | (apply it_cons) | (apply it_app))); (try exact it_last))) ?_ | refine peelR hnI (by with_reducible ((repeat (first | exact it_nil | (apply it_na) | (apply it_ca) | (apply it_aa) | (apply it_cons) | (apply it_app))); (try exact it_last))) ?_); (repeat (intro hq9)); refine Past.mk ?_)
    obtain ⟨v1, hv1⟩ : ∃ v1, dv[(1 + (i : Int)).toNat]? = some v1 := ⟨dv[(1 + (i : Int)).toNat]'(by omega), List.getElem?_eq_getElem (by omega)⟩
    refine with_goal fun X79 hX79 => ?_
    refine ex_2 (hdi.get hv1) ?_
    intro d1 td1 q9o
    refine an_2 q9o ?_
    clear q9o
    intro hd1
    intro r9q
    subst r9q
    refine hX79 ?_
    have hvl : vs.length ≤ 8 := by rw [hT.length]; simp; omega
    k_steps
    rename News g' L' _ _ => lN
    rename Fr g' L' _ _ => lF
    skip
    refine (hq79 (D, vs ++ [.ref _], c + 1) _ _ _ _ lF (by first | ((repeat (first | exact fr_nil | refine fr_cons (by rfl) ?_)); done) | (intro q hq; rw [List.mem_singleton.mp hq]; rfl)) (by intro z z1 z2 z3; first | ((repeat (first | with_reducible rfl | with_reducible assumption | refine kp_st (by with_reducible assumption) ?_ | refine kp_set (by first | with_reducible exact z1 | with_reducible exact z2 _ List.mem_cons_self | with_reducible exact z2 _ (List.mem_cons_of_mem _ List.mem_cons_self) | with_reducible exact z2 _ (List.mem_cons_of_mem _ (List.mem_cons_of_mem _ List.mem_cons_self)) | exact kp_con z3 (by ((repeat (with_reducible_and_instances first | exact List.Mem.head _ | refine List.Mem.tail _ ?_)); (first | done | fail "open")))) ?_ | refine kp_same (by assumption) ?_ | exact rfl)); done) | ((have w0 : z ≠ Str.ofString "rows" := z2 _ List.mem_cons_self); (try dsimp only [kstB]); simp only [if_neg z1, if_neg w0, z3, List.contains_nil, Bool.false_eq_true, if_false])) (kst_newsOf lN (by (first | exact fun p hp => hp | ((repeat' (first | refine fa_app ?_ ?_ | refine fa_cons ?_ ?_ | refine List.forall_mem_append.mpr ⟨?_, ?_⟩ | refine List.forall_mem_cons.mpr ⟨?_, ?_⟩)) <;> (first | exact List.forall_mem_nil _ | (intro p9 hp9; kp_flats) | kp_flats))))) ?hn2 (by (first | exact fun p hp => hp | ((repeat' (first | refine fa_app ?_ ?_ | refine fa_cons ?_ ?_ | refine List.forall_mem_append.mpr ⟨?_, ?_⟩ | refine List.forall_mem_cons.mpr ⟨?_, ?_⟩)) <;> (first | exact List.forall_mem_nil _ | (intro p9 hp9; kp_flats) | kp_flats)))) ⟨(_, _) :: T, rfl, ?_⟩).1
    case hn2 => kat_tups
    have hte : ((ds.drop 1).take (i + 1)) = ((ds.drop 1).take i) ++ [d1] := by
      rw [List.take_add_one, List.getElem?_drop]
      rw [show 1 + i = (1 + (i : Int)).toNat by omega, hd1]
      rfl
    rw [hte, List.map_append, ← List.cons_append]
    exact (hT.mono fun p hp => List.mem_cons_of_mem _ hp).append (.one (.tuple List.mem_cons_self (.cons (.str _ _) (.cons (.int _ _) .nil))))
  case done =>
    rintro ⟨D, vs, c⟩ nx u h tk hJ79 hn F3 N3
    refine with_goal fun X79 hX79 => ?_
    refine ex_1 (hJ79) ?_
    (try clear hJ79)
    intro T q9o
    refine an_2 q9o ?_
    clear q9o
    intro r9q
    subst r9q
    intro hT
    refine hX79 ?_
    dsimp only [kstB] at F3 N3
    obtain ⟨v1, hv1⟩ : ∃ v1, dv[((ds.length : Int) - 1).toNat]? = some v1 := ⟨dv[((ds.length : Int) - 1).toNat]'(by omega), List.getElem?_eq_getElem (by omega)⟩
    refine with_goal fun X79 hX79 => ?_
    refine ex_2 (hdi.get hv1) ?_
    intro d1 td1 q9o
    refine an_2 q9o ?_
    clear q9o
    intro hd1
    intro r9q
    subst r9q
    refine hX79 ?_
    have hvl : vs.length ≤ 8 := by rw [hT.length]; simp; omega
    have hnI := nodA.mp hn
    ((first | refine peelA hnI (by with_reducible ((repeat (first | exact it_nil | (apply it_na) | (apply it_ca) | (apply it_aa) | (apply it_cons) | (apply it_app))); (try exact it_last))) ?_ | refine peelN hnI (by with_reducible ((repeat (first | exact it_nil | (apply it_na) | (apply it_ca) | (apply it_aa) | (apply it_cons) | (apply it_app))); (try exact it_last))) ?_ | refine peelR hnI (by with_reducible ((repeat (first | exact it_nil | (apply it_na) | (apply it_ca) | (apply it_aa) | (apply it_cons) | (apply it_app))); (try exact it_last))) ?_); (repeat (intro hq9)); refine Past.mk ?_)
    k_steps
    rename News h₀ L _ _ => lN
    refine hret _ [] ((_, _) :: (D, _) :: T) _ _ (by assumption) (kst_newsOf lN (by (first | exact fun p hp => hp | ((repeat' (first | refine fa_app ?_ ?_ | refine fa_cons ?_ ?_ | refine List.forall_mem_append.mpr ⟨?_, ?_⟩ | refine List.forall_mem_cons.mpr ⟨?_, ?_⟩)) <;> (first | exact List.forall_mem_nil _ | (intro p9 hp9; kp_flats) | kp_flats))))) rfl (young_of_nod ?hn2).1 (young_of_nod ?hn2).2 ⟨D, vs ++ [.ref _], c + 1, rfl, rfl, List.mem_cons_of_mem _ List.mem_cons_self, ?_⟩
    case hn2 => kat_tups
    rw [← rows_end hd2 hd0 hd1]
    exact (hT.mono fun p hp => List.mem_cons_of_mem _ (List.mem_cons_of_mem _ hp)).append (.one (.tuple List.mem_cons_self (.cons (.str _ _) (.cons (.int _ _) .nil))))

end
section
theorem offFinish : True := by
  w_top off
  trivial
local macro_rules | `(tactic| walk_at "zz") => `(tactic| skip)
local macro_rules | `(tactic| walk_at "zz") => `(tactic| skip)
local macro_rules | `(tactic| walk_at "zz") => `(tactic| skip)

local macro_rules | `(tactic| walk_at "subscriptTail") => `(tactic| (k_here; (with_reducible show wpAny _ _ (subscriptTail _ _ (Value.ref _) (Value.int _ _)) _ _ _); k_dflt (refine' item_tup (vs := [_, _]) ?N ?m ?a ?b ?x ?_; (case N => k_asm); (case m => k_mem); (case a => decide); (case b => decide); (case x => rfl); k_whole)))
local macro_rules | `(tactic| walk_at "pyIter ref") => `(tactic| (k_here; (with_reducible show wpAny _ _ (pyIter (Value.ref _)) _ _ _); refine Held.out ?_))

/-- the chains have at least two clauses -/
def Good (es : List (List Int × Int)) : Prop := ∀ e ∈ es, 2 ≤ e.1.length ∧ e.1.length ≤ 8
def lab (n : Int) : Dat := .tuple [.str (Str.ofString "label"), .int n]
def insOf (cs : List Cod) (p : Nat) : List Dat := (cs[p]?.map (·.ins)).getD []
def rows1 (ar : Int) (es : List (List Int × Int)) : List Dat := es.flatMap fun e => lab e.2 :: rowsOf ar e.1
def rows2 (cs : List Cod) (k : Nat) : List Dat := (List.range k).flatMap fun (p : Nat) => lab (p : Int) :: insOf cs p

theorem rowsOf_len {ar : Int} {ds : List Int} (h : 2 ≤ ds.length) : (rowsOf ar ds).length = ds.length := by
  unfold rowsOf
  simp only [List.length_append, List.length_cons, List.length_nil, List.length_map, List.length_take, List.length_drop]
  omega
theorem rows1_len {ar : Int} : ∀ {es : List (List Int × Int)}, Good es → (rows1 ar es).length ≤ 9 * es.length
  | [], _ => by simp [rows1]
  | e :: es, h => by
    have ih := rows1_len (ar := ar) (es := es) fun e he => h e (List.mem_cons_of_mem _ he)
    have h1 := h e List.mem_cons_self
    have h2 := rowsOf_len (ar := ar) h1.1
    have : rows1 ar (e :: es) = (lab e.2 :: rowsOf ar e.1) ++ rows1 ar es := rfl
    rw [this, List.length_append, List.length_cons, List.length_cons]
    omega
theorem Good.take {es : List (List Int × Int)} (h : Good es) (k : Nat) : Good (es.take k) := fun e he => h e (List.mem_of_mem_take he)

theorem fin1 {h₀ h : Heap} {L : Addr} {add T rest : Led} {lb i r : Addr × Obj} (N : News h₀ L h ([] ++ (add ++ (lb :: i :: r :: (T ++ rest))))) : News h₀ L h (i :: r :: ((add ++ (lb :: T)) ++ rest)) := by
  refine kst_newsOf N fun p hp => ?_
  simp only [List.nil_append, List.mem_append, List.mem_cons] at hp ⊢
  rcases hp with h | h | (h | h | h) | h <;> simp [h]
theorem fin2 {add T rest : Led} {lb i r : Addr × Obj} (N : Nod ([] ++ (add ++ (lb :: i :: r :: (T ++ rest))))) : Nod (i :: r :: ((add ++ (lb :: T)) ++ rest)) := by
  refine nod_of_count N fun a9 => ?_
  simp only [List.cons_append, List.nil_append, List.map_append, List.map_cons, List.map_nil, List.count_append, List.count_cons, List.count_nil]
  omega
theorem fin3 {h₀ h : Heap} {L : Addr} {T rest : Led} {lb i r : Addr × Obj} (N : News h₀ L h (lb :: i :: r :: (T ++ rest))) : News h₀ L h (i :: r :: ((lb :: T) ++ rest)) := by
  refine kst_newsOf N fun p hp => ?_
  simp only [List.cons_append, List.mem_append, List.mem_cons] at hp ⊢
  rcases hp with h | h | h | h | h <;> simp [h]
theorem insOf_at {cs : List Cod} {i : Nat} {cd : Cod} (h : cs[(0 + (i : Int)).toNat]? = some cd) : insOf cs i = cd.ins := by
  unfold insOf
  rw [show (0 + (i : Int)).toNat = i by omega] at h
  rw [h]; rfl
theorem rows2_snoc {cs : List Cod} {i : Nat} {cd : Cod} (h : cs[(0 + (i : Int)).toNat]? = some cd) : rows2 cs (i + 1) = rows2 cs i ++ lab (0 + (i : Int)) :: cd.ins := by
  unfold rows2
  rw [List.range_succ, List.flatMap_append, List.flatMap_singleton, insOf_at h, Int.zero_add]
theorem rows2_len {cs : List Cod} (hin : ∀ c ∈ cs, c.ins.length ≤ 8) : ∀ k : Nat, (rows2 cs k).length ≤ 9 * k
  | 0 => by simp [rows2]
  | k + 1 => by
    have ih := rows2_len hin k
    have h1 : (insOf cs k).length ≤ 8 := by
      unfold insOf
      cases h : cs[k]? with
      | none => simp
      | some c => simpa using hin c (List.mem_of_getElem? h)
    have : rows2 cs (k + 1) = rows2 cs k ++ lab (k : Int) :: insOf cs k := by
      unfold rows2
      rw [List.range_succ, List.flatMap_append, List.flatMap_singleton]
    rw [this, List.length_append, List.length_cons]
    omega
theorem rows1_snoc {ar : Int} {es : List (List Int × Int)} {i : Nat} {e : List Int × Int} (he : es[i]? = some e) : rows1 ar (es.take (i + 1)) = rows1 ar (es.take i) ++ lab e.2 :: rowsOf ar e.1 := by
  unfold rows1
  rw [List.take_add_one, he]
  simp

theorem finish_does (w : World) (ba bd co ro ch kn : Addr) (x : BTok) (ar : Int) (ta : Tok) (nl : Int) (tn : Tok) (chv : List Value) (chn : Nat) (es : List (List Int × Int)) (cv : List Value) (cn : Nat) (cs : List Cod) (ron : Nat) (rest : Led)
    (hi : (ba, instObj 102 bd) ∈ rest) (hb : (bd, bDict x ar ta co ro ch kn nl tn) ∈ rest) (hch : (ch, listOf chv.toArray chn) ∈ rest) (hes : ChainsAre rest chv es) (hgood : Good es) (hfew : es.length ≤ 400)
    (hco : (co, listOf cv.toArray cn) ∈ rest) (hcs : CodsAre rest cv cs) (hcl : cs.length ≤ 4) (hin : ∀ c ∈ cs, c.ins.length ≤ 8) :
    Does w 99 [.ref ba] [(ro, listOf #[] ron)] rest 16 900
      (fun r chg add => ∃ vs n, r = .ref ro ∧ chg = [(ro, listOf vs.toArray n)] ∧ DatAll (add ++ rest) vs (rows1 ar es ++ rows2 cs cs.length)) := by
  unfold Does
  k_fill
  intro dp un gd env outer A₀ base h₀ L m s mean mg mb Q E _ B F X N hnod T hk hL hd hu hret
  try simp only [List.cons_append, List.nil_append] at N hnod
  ((first | refine peelA hnod (by with_reducible ((repeat (first | exact it_nil | (apply it_na) | (apply it_ca) | (apply it_aa) | (apply it_cons) | (apply it_app))); (try exact it_last))) ?_ | refine peelN hnod (by with_reducible ((repeat (first | exact it_nil | (apply it_na) | (apply it_ca) | (apply it_aa) | (apply it_cons) | (apply it_app))); (try exact it_last))) ?_ | refine peelR hnod (by with_reducible ((repeat (first | exact it_nil | (apply it_na) | (apply it_ca) | (apply it_aa) | (apply it_cons) | (apply it_app))); (try exact it_last))) ?_); (repeat (intro hq9)); refine Past.mk ?_)
  refine wpAny_call ?_
  dsimp only [bDict] at hb
  have hcl2 : Held (cs.length ≤ 4) := ⟨hcl⟩
  clear hcl
  k_dflt (refine' code_def ?k1 ?k2 ?k3 ?k4 ?k5 ?kA ?kF ?kK ?k6 ?k7 ?k8 ?k9 ?kB ?_ ?c2 ?c3 ?c4 ?c5; (case kA => exact rfl); (case kF => assumption); (case kK => assumption); (case k1 => k_asm); (case k2 => k_asm); (case k3 => k_asm); (case k4 => k_asm); (case k5 => k_asm); (case k6 => k_is); (case k7 => k_is); (case k8 => ktr_room); (case k9 => exact BindsTo.of_eq rfl); (case c5 => decide); (case kB => exact locs rfl); (case c2 => exact rfl); (case c3 => exact rfl); (case c4 => exact rfl); k_whole; intro g' L' h' FG' F' N' B' X' T'; (try refine wp_toks fun tk9 => ?_); (try dsimp only); (try k_fold))
  k_steps
  refine ⟨?_⟩
  rename News g' _ _ _ => kN
  rename Fr g' _ _ _ => kF
  apply loop_list (σ := List Value × Nat) (fun _ => []) [Str.ofString "row"] (fun i c nx => ∃ T, nx = (ro, listOf c.1.toArray c.2) :: (T ++ rest) ∧ DatAll (T ++ rest) c.1 (rows1 ar (es.take i))) ([], _)
  case hh => rfl
  case F => exact kF
  case N => exact kN
  case hl => k_mem
  case hn => exact hnod
  case hk => first | ((repeat (first | exact fr_nil | refine fr_cons (by rfl) ?_)); done) | (simp)
  case hj => exact ⟨[], rfl, .nil⟩
  case turn =>
    rintro i v ⟨vs, n⟩ nx u h tk I oI hi' hv hJ79 hl hn F2 N2
    refine turn_cps ?_
    intro q79 hq79 hb79 hr79
    refine with_goal fun X79 hX79 => ?_
    refine ex_1 (hJ79) ?_
    (try clear hJ79)
    intro T q9o
    refine an_2 q9o ?_
    clear q9o
    intro r9q
    subst r9q
    intro hT
    refine hX79 ?_
    have hnI := nodA.mp hn
    ((first | refine peelA hnI (by with_reducible ((repeat (first | exact it_nil | (apply it_na) | (apply it_ca) | (apply it_aa) | (apply it_cons) | (apply it_app))); (try exact it_last))) ?_ | refine peelN hnI (by with_reducible ((repeat (first | exact it_nil | (apply it_na) | (apply it_ca) | (apply it_aa) | (apply it_cons) | (apply it_app))); (try exact it_last))) ?_ | refine peelR hnI (by with_reducible ((repeat (first | exact it_nil | (apply it_na) | (apply it_ca) | (apply it_aa) | (apply it_cons) | (apply it_app))); (try exact it_last))) ?_); (repeat (intro hq9)); refine Past.mk ?_)
    dsimp only [kstB] at F2 N2
    try k_fold
    have hlc := All2.length hes
    obtain ⟨e, he⟩ : ∃ e, es[i]? = some e := ⟨es[i]'(by omega), List.getElem?_eq_getElem (by omega)⟩
    refine with_goal fun X79 hX79 => ?_
    refine ex_1 (hes.get he) ?_
    intro v' q9o
    refine an_2 q9o ?_
    clear q9o
    intro hv' q9o
    refine ex_5 q9o ?_
    clear q9o
    intro a b t n2 ok q9o
    refine an_4 q9o ?_
    clear q9o
    intro r9q
    subst r9q
    intro h1
    intro h2
    intro h3
    refine hX79 ?_
    rw [hv] at hv'
    cases hv'
    have hvl : vs.length ≤ 9 * i := by
      have h5 : vs.length = _ := DatAll.length hT
      have h6 := rows1_len (ar := ar) (hgood.take i)
      rw [List.length_take] at h6
      omega
    refine with_goal fun X79 hX79 => ?_
    refine ex_2 (h3) ?_
    (try clear h3)
    intro ev en q9o
    refine an_2 q9o ?_
    clear q9o
    intro r9q
    subst r9q
    intro hei
    refine hX79 ?_
    have hge := hgood e (List.mem_of_getElem? he)
    have h1' : (a, tupOf [.int e.2 t, .ref b] n2) ∈ rest := h1
    k_steps
    try dsimp only [List.nil_append, List.cons_append, List.append_nil]
    try k_fold
    k_dflt (refine' Does.use0 (chain_rows_does w ba bd co ro ch kn b x ar ta nl tn ev en e.1 _ ?hA ?hB ?hC ⟨hei⟩ hge.1 hge.2) ?uB ?uF ?uX ?uN ?un ?uT ?uk ?uL ?ud ?uu ?_; (case uN => k_asm); (case uB => k_asm); (case uF => k_asm); (case uX => k_asm); (case un => first | assumption | kat_tups); (case uT => k_asm); (case uk => rfl); (case uL => rfl); (case ud => ktr_room); (case uu => tlg_ne); (case hA => k_mem); (case hB => k_mem); (case hC => k_mem)); intro r' chg' add' h' tk' F' N' nod' young' post'
    refine with_goal fun X79 hX79 => ?_
    refine ex_3 (post') ?_
    (try clear post')
    intro D3 ws c3 q9o
    refine an_4 q9o ?_
    clear q9o
    intro r9q
    subst r9q
    intro r9q
    subst r9q
    intro hm3
    intro hd3
    refine hX79 ?_
    k_steps
    refine ⟨?_⟩
    have N4 := fin1 N'
    have nod4 := fin2 nod'
    clear N' nod'
    rename Fr g' _ h' _ => kF4
    apply loop_list (σ := List Value × Nat) (fun _ => []) [] (fun j c nx => ∃ T', nx = (I, oI) :: (ro, listOf c.1.toArray c.2) :: (T' ++ rest) ∧ (∀ p ∈ add', p ∈ T') ∧ DatAll (T' ++ rest) c.1 (rows1 ar (es.take i) ++ lab e.2 :: (rowsOf ar e.1).take j)) (_, _)
    case hh => rfl
    case F => exact kF4
    case N => exact N4
    case hl => exact List.mem_cons_of_mem _ (List.mem_cons_of_mem _ (List.mem_append_left _ (List.mem_append_left _ hm3)))
    case hn => exact nod4
    case hk => first | ((repeat (first | exact fr_nil | refine fr_cons (by rfl) ?_)); done) | (simp)
    case hj =>
      refine ⟨add' ++ _ :: T, rfl, (fun p hp => List.mem_append_left _ hp), ?_⟩
      rw [List.take_zero]
      refine DatAll.append (hT.mono ?_) (.one (.tuple (List.mem_append_left _ (List.mem_append_right _ List.mem_cons_self)) (.cons (.str _ _) (.cons (.int _ _) .nil))))
      intro p hp
      rcases List.mem_append.mp hp with hp | hp <;> simp [hp]
    case turn =>
      rintro j v ⟨us, k⟩ nx u2 h9 tk9 I2 oI2 hj2 hv2 hJ79 hl2 hn2 F5 N5
      refine turn_cps ?_
      intro q79 hq79 hb79 hr79
      refine with_goal fun X79 hX79 => ?_
      refine ex_1 (hJ79) ?_
      (try clear hJ79)
      intro T' q9o
      refine an_3 q9o ?_
      clear q9o
      intro r9q
      subst r9q
      intro hsub
      intro hT'
      refine hX79 ?_
      have hnJ := nodA.mp hn2
      ((first | refine peelA hnJ (by with_reducible ((repeat (first | exact it_nil | (apply it_na) | (apply it_ca) | (apply it_aa) | (apply it_cons) | (apply it_app))); (try exact it_last))) ?_ | refine peelN hnJ (by with_reducible ((repeat (first | exact it_nil | (apply it_na) | (apply it_ca) | (apply it_aa) | (apply it_cons) | (apply it_app))); (try exact it_last))) ?_ | refine peelR hnJ (by with_reducible ((repeat (first | exact it_nil | (apply it_na) | (apply it_ca) | (apply it_aa) | (apply it_cons) | (apply it_app))); (try exact it_last))) ?_); (repeat (intro hq9)); refine Past.mk ?_)
      dsimp only [kstB] at F5 N5
      try k_fold
      have hwl : ws.length = e.1.length := by rw [DatAll.length hd3, rowsOf_len hge.1]
      have hul : us.length ≤ 9 * i + 9 := by
        have h5 : us.length = _ := DatAll.length hT'
        have h6 := rows1_len (ar := ar) (hgood.take i)
        rw [List.length_take] at h6
        rw [List.length_append, List.length_cons, List.length_take] at h5
        omega
      obtain ⟨d, hd, hvd⟩ : ∃ d, (rowsOf ar e.1)[j]? = some d ∧ DatIn add' v d := by
        have h7 : j < (rowsOf ar e.1).length := by rw [← DatAll.length hd3]; exact hj2
        refine ex_1 (DatAll.get hd3 h7) ?_
        intro v3 q9o
        refine an_2 q9o ?_
        clear q9o
        intro h8 h9
        rw [hv2] at h8
        cases h8
        exact ⟨_, List.getElem?_eq_getElem h7, h9⟩
      k_steps
      rename News g' L' _ _ => lN
      rename Fr g' L' _ _ => lF
      skip
      refine (hq79 (us ++ [v], k + 1) _ _ _ _ lF (by intro q hq; cases hq) (by intro z z1 z2 z3; first | ((repeat (first | with_reducible rfl | with_reducible assumption | refine kp_st (by with_reducible assumption) ?_ | refine kp_set (by first | with_reducible exact z1 | with_reducible exact z2 _ List.mem_cons_self | with_reducible exact z2 _ (List.mem_cons_of_mem _ List.mem_cons_self) | with_reducible exact z2 _ (List.mem_cons_of_mem _ (List.mem_cons_of_mem _ List.mem_cons_self)) | exact kp_con z3 (by ((repeat (with_reducible_and_instances first | exact List.Mem.head _ | refine List.Mem.tail _ ?_)); (first | done | fail "open")))) ?_ | refine kp_same (by assumption) ?_ | exact rfl)); done) | ((try dsimp only [kstB]); simp only [if_neg z1, z3, List.contains_nil, Bool.false_eq_true, if_false])) lN hn2 (fun q hq => by rw [List.mem_singleton.mp hq]; exact List.mem_cons_of_mem _ (List.mem_cons_of_mem _ (List.mem_append_left _ (hsub _ hm3)))) ⟨T', rfl, hsub, ?_⟩).1
      rw [List.take_add_one, hd, ← List.cons_append, ← List.append_assoc]
      exact DatAll.append hT' (.one (hvd.mono fun p hp => List.mem_append_left _ (hsub p hp)))
    case done =>
      rintro ⟨us, k⟩ nx u2 h9 tk9 hJ79 hl2 hn2 F5 N5
      refine with_goal fun X79 hX79 => ?_
      refine ex_1 (hJ79) ?_
      (try clear hJ79)
      intro T' q9o
      refine an_3 q9o ?_
      clear q9o
      intro r9q
      subst r9q
      intro hsub
      intro hT'
      refine hX79 ?_
      dsimp only [kstB] at F5 N5
      k_steps
      rename News g' L' _ _ => lN
      rename Fr g' L' _ _ => lF
      skip
      refine (hq79 (us, k) _ _ _ _ lF (by intro q hq; cases hq) (by intro z z1 z2 z3; first | ((repeat (first | with_reducible rfl | with_reducible assumption | refine kp_st (by with_reducible assumption) ?_ | refine kp_set (by first | with_reducible exact z1 | with_reducible exact z2 _ List.mem_cons_self | with_reducible exact z2 _ (List.mem_cons_of_mem _ List.mem_cons_self) | with_reducible exact z2 _ (List.mem_cons_of_mem _ (List.mem_cons_of_mem _ List.mem_cons_self)) | exact kp_con z3 (by ((repeat (with_reducible_and_instances first | exact List.Mem.head _ | refine List.Mem.tail _ ?_)); (first | done | fail "open")))) ?_ | refine kp_same (by assumption) ?_ | exact rfl)); done) | ((have y0 : z ≠ Str.ofString "row" := fun e => by (subst e; simp at z3)); (try dsimp only [kstB]); simp only [if_neg z1, if_neg y0, z3, List.contains_nil, Bool.false_eq_true, if_false])) lN hn2 (by (first | exact fun p hp => hp | ((repeat' (first | refine fa_app ?_ ?_ | refine fa_cons ?_ ?_ | refine List.forall_mem_append.mpr ⟨?_, ?_⟩ | refine List.forall_mem_cons.mpr ⟨?_, ?_⟩)) <;> (first | exact List.forall_mem_nil _ | (intro p9 hp9; kp_flats) | kp_flats)))) ⟨T', rfl, ?_⟩).1
      rw [rows1_snoc he]
      dsimp only at hT'
      rw [show List.take ws.length (rowsOf ar e.1) = rowsOf ar e.1 from List.take_of_length_le (by rw [DatAll.length hd3]; exact Nat.le_refl _)] at hT'
      exact hT'
  case done =>
    rintro ⟨vs, n⟩ nx u h tk hJ79 hl hn F2 N2
    refine with_goal fun X79 hX79 => ?_
    refine ex_1 (hJ79) ?_
    (try clear hJ79)
    intro T q9o
    refine an_2 q9o ?_
    clear q9o
    intro r9q
    subst r9q
    intro hT
    refine hX79 ?_
    dsimp only [kstB] at F2 N2
    rw [show es.take chv.length = es from List.take_of_length_le (by rw [All2.length hes]; exact Nat.le_refl _)] at hT
    have hcfit : (cs.length : Int) < 2 ^ 63 := by have := hcl2.out; omega
    have hcvl : cv.length = cs.length := All2.length hcs
    k_steps
    refine ⟨?_⟩
    replace hcl2 := hcl2.out
    rename IsRange _ _ _ _ _ _ _ _ => kR
    rename News g' _ _ _ => lN
    rename Fr g' _ _ _ => lF
    apply loop_range (n := cs.length) (σ := List Value × Nat) (fun _ => []) [Str.ofString "row"] (fun i c nx => ∃ T, nx = (ro, listOf c.1.toArray c.2) :: (T ++ rest) ∧ DatAll (T ++ rest) c.1 (rows1 ar es ++ rows2 cs i)) (vs, n)
    case hh => rfl
    case hr => exact kR
    case F => exact lF
    case N => exact lN
    case hn => exact hn
    case hk => first | ((repeat (first | exact fr_nil | refine fr_cons (by rfl) ?_)); done) | (simp)
    case hsmall => exact small_one (by omega) (by omega) (by omega) (by omega)
    case hsz => exact (rangeSize_nat _ _).trans (by omega)
    case hj => exact ⟨T, rfl, by simpa [rows2] using hT⟩
    case turn =>
      rintro i t9 ⟨vs, n⟩ nx u2 h9 tk9 I oI hi' hJ79 hn F3 N3
      refine turn_cps ?_
      intro q79 hq79 hb79 hr79
      refine with_goal fun X79 hX79 => ?_
      refine ex_1 (hJ79) ?_
      (try clear hJ79)
      intro T q9o
      refine an_2 q9o ?_
      clear q9o
      intro r9q
      subst r9q
      intro hT
      refine hX79 ?_
      have hnI := nodA.mp hn
      ((first | refine peelA hnI (by with_reducible ((repeat (first | exact it_nil | (apply it_na) | (apply it_ca) | (apply it_aa) | (apply it_cons) | (apply it_app))); (try exact it_last))) ?_ | refine peelN hnI (by with_reducible ((repeat (first | exact it_nil | (apply it_na) | (apply it_ca) | (apply it_aa) | (apply it_cons) | (apply it_app))); (try exact it_last))) ?_ | refine peelR hnI (by with_reducible ((repeat (first | exact it_nil | (apply it_na) | (apply it_ca) | (apply it_aa) | (apply it_cons) | (apply it_app))); (try exact it_last))) ?_); (repeat (intro hq9)); refine Past.mk ?_)
      dsimp only [kstB] at F3 N3
      try k_fold
      have hvl : vs.length ≤ 3600 + 9 * i := by
        have h5 : vs.length = _ := DatAll.length hT
        have h6 := rows1_len (ar := ar) hgood
        have h7 := rows2_len hin i
        rw [List.length_append] at h5
        omega
      obtain ⟨cd, hcd⟩ : ∃ cd, cs[(0 + (i : Int)).toNat]? = some cd := ⟨cs[(0 + (i : Int)).toNat]'(by omega), List.getElem?_eq_getElem (by omega)⟩
      refine with_goal fun X79 hX79 => ?_
      refine ex_1 (hcs.get hcd) ?_
      intro _ q9o
      refine an_2 q9o ?_
      clear q9o
      intro hv1 q9o
      refine ex_17 q9o ?_
      clear q9o
      intro xa xd kb ia h1 h2 h3 h4 t1 t2 t3 t4 fv uv iv n2 e2 q9o
      refine an_6 q9o ?_
      clear q9o
      intro r9q
      subst r9q
      intro hx1
      intro hx2
      intro hx3
      intro hx4
      intro hx5
      refine hX79 ?_
      k_steps
      refine ⟨?_⟩
      rename News g' _ _ _ => lN
      rename Fr g' _ _ _ => lF
      have N4 := fin3 lN
      apply loop_list (σ := List Value × Nat) (fun _ => []) [] (fun j c nx => ∃ T', nx = (I, oI) :: (ro, listOf c.1.toArray c.2) :: (T' ++ rest) ∧ DatAll (T' ++ rest) c.1 ((rows1 ar es ++ rows2 cs i) ++ lab (0 + (i : Int)) :: cd.ins.take j)) (_, _)
      case hh => rfl
      case F => exact lF
      case N => exact N4
      case hl => exact List.mem_cons_of_mem _ (List.mem_cons_of_mem _ (List.mem_append_right _ hx4))
      case hn => kat_tups
      case hk => first | ((repeat (first | exact fr_nil | refine fr_cons (by rfl) ?_)); done) | (simp)
      case hj =>
        refine ⟨_ :: T, rfl, ?_⟩
        rw [List.take_zero]
        refine DatAll.append (hT.mono ?_) (.one (.tuple (List.mem_append_left _ List.mem_cons_self) (.cons (.str _ _) (.cons (.int _ _) .nil))))
        intro p hp
        rcases List.mem_append.mp hp with hp | hp <;> simp [hp]
      case turn =>
        rintro j v ⟨us, k⟩ nx u2 h9 tk9 I2 oI2 hj2 hv2 hJ79 hl2 hn2 F5 N5
        refine turn_cps ?_
        intro q79 hq79 hb79 hr79
        refine with_goal fun X79 hX79 => ?_
        refine ex_1 (hJ79) ?_
        (try clear hJ79)
        intro T' q9o
        refine an_2 q9o ?_
        clear q9o
        intro r9q
        subst r9q
        intro hT'
        refine hX79 ?_
        have hnJ := nodA.mp hn2
        ((first | refine peelA hnJ (by with_reducible ((repeat (first | exact it_nil | (apply it_na) | (apply it_ca) | (apply it_aa) | (apply it_cons) | (apply it_app))); (try exact it_last))) ?_ | refine peelN hnJ (by with_reducible ((repeat (first | exact it_nil | (apply it_na) | (apply it_ca) | (apply it_aa) | (apply it_cons) | (apply it_app))); (try exact it_last))) ?_ | refine peelR hnJ (by with_reducible ((repeat (first | exact it_nil | (apply it_na) | (apply it_ca) | (apply it_aa) | (apply it_cons) | (apply it_app))); (try exact it_last))) ?_); (repeat (intro hq9)); refine Past.mk ?_)
        dsimp only [kstB] at F5 N5
        try k_fold
        have hcd8 := hin cd (List.mem_of_getElem? hcd)
        have hul : us.length ≤ 3700 := by
          have h5 : us.length = _ := DatAll.length hT'
          have h6 := rows1_len (ar := ar) hgood
          have h7 := rows2_len hin i
          rw [List.length_append, List.length_cons, List.length_take, List.length_append] at h5
          omega
        obtain ⟨d, hd, hvd⟩ : ∃ d, cd.ins[j]? = some d ∧ DatIn rest v d := by
          have h7 : j < cd.ins.length := by rw [← DatAll.length hx5]; exact hj2
          refine ex_1 (DatAll.get hx5 h7) ?_
          intro v3 q9o
          refine an_2 q9o ?_
          clear q9o
          intro h8 h9
          rw [hv2] at h8
          cases h8
          exact ⟨_, List.getElem?_eq_getElem h7, h9⟩
        k_steps
        rename News g' L' _ _ => lN
        rename Fr g' L' _ _ => lF
        skip
        refine (hq79 (us ++ [v], k + 1) _ _ _ _ lF (by intro q hq; cases hq) (by intro z z1 z2 z3; first | ((repeat (first | with_reducible rfl | with_reducible assumption | refine kp_st (by with_reducible assumption) ?_ | refine kp_set (by first | with_reducible exact z1 | with_reducible exact z2 _ List.mem_cons_self | with_reducible exact z2 _ (List.mem_cons_of_mem _ List.mem_cons_self) | with_reducible exact z2 _ (List.mem_cons_of_mem _ (List.mem_cons_of_mem _ List.mem_cons_self)) | exact kp_con z3 (by ((repeat (with_reducible_and_instances first | exact List.Mem.head _ | refine List.Mem.tail _ ?_)); (first | done | fail "open")))) ?_ | refine kp_same (by assumption) ?_ | exact rfl)); done) | ((try dsimp only [kstB]); simp only [if_neg z1, z3, List.contains_nil, Bool.false_eq_true, if_false])) lN hn2 (fun q hq => by rw [List.mem_singleton.mp hq]; exact List.mem_cons_of_mem _ (List.mem_cons_of_mem _ (List.mem_append_right _ hx4))) ⟨T', rfl, ?_⟩).1
        rw [List.take_add_one, hd, ← List.cons_append, ← List.append_assoc]
        exact DatAll.append hT' (.one (hvd.mono fun p hp => List.mem_append_right _ hp))
      case done =>
        rintro ⟨us, k⟩ nx u2 h9 tk9 hJ79 hl2 hn2 F5 N5
        refine with_goal fun X79 hX79 => ?_
        refine ex_1 (hJ79) ?_
        (try clear hJ79)
        intro T' q9o
        refine an_2 q9o ?_
        clear q9o
        intro r9q
        subst r9q
        intro hT'
        refine hX79 ?_
        dsimp only [kstB] at F5 N5
        k_steps
        rename News g' L' _ _ => lN
        rename Fr g' L' _ _ => lF
        skip
        refine (hq79 (us, k) _ _ _ _ lF (by intro q hq; cases hq) (by intro z z1 z2 z3; first | ((repeat (first | with_reducible rfl | with_reducible assumption | refine kp_st (by with_reducible assumption) ?_ | refine kp_set (by first | with_reducible exact z1 | with_reducible exact z2 _ List.mem_cons_self | with_reducible exact z2 _ (List.mem_cons_of_mem _ List.mem_cons_self) | with_reducible exact z2 _ (List.mem_cons_of_mem _ (List.mem_cons_of_mem _ List.mem_cons_self)) | exact kp_con z3 (by ((repeat (with_reducible_and_instances first | exact List.Mem.head _ | refine List.Mem.tail _ ?_)); (first | done | fail "open")))) ?_ | refine kp_same (by assumption) ?_ | exact rfl)); done) | ((have y0 : z ≠ Str.ofString "row" := fun e => by (subst e; simp at z3)); (try dsimp only [kstB]); simp only [if_neg z1, if_neg y0, z3, List.contains_nil, Bool.false_eq_true, if_false])) lN hn2 (by intro q hq; cases hq) ⟨T', rfl, ?_⟩).1
        rw [rows2_snoc hcd, ← List.append_assoc]
        dsimp only at hT'
        rw [show List.take iv.length cd.ins = cd.ins from List.take_of_length_le (by rw [DatAll.length hx5]; exact Nat.le_refl _)] at hT'
        exact hT'
    case done =>
      rintro ⟨us, k⟩ nx u2 h9 tk9 hJ79 hn2 F5 N5
      refine with_goal fun X79 hX79 => ?_
      refine ex_1 (hJ79) ?_
      (try clear hJ79)
      intro T' q9o
      refine an_2 q9o ?_
      clear q9o
      intro r9q
      subst r9q
      intro hT'
      refine hX79 ?_
      dsimp only [kstB] at F5 N5
      k_steps
      rename News h₀ L _ _ => lN2
      refine hret _ [(ro, _)] T' _ _ (by assumption) lN2 rfl ?hy (hn2.cons.2).left ⟨us, k, rfl, rfl, hT'⟩
      case hy =>
        intro p hp q hq
        rcases List.mem_append.mp hq with hq | hq
        · rw [List.mem_singleton.mp hq]; exact Ne.symm (hn2.cons.1 p (List.mem_append_left _ hp))
        · exact Ne.symm ((hn2.cons.2).apart p hp q hq)

end
section
theorem offParts : True := by
  w_top off
  trivial

local macro_rules | `(tactic| walk_at "subscriptTail") => `(tactic| (k_here; (with_reducible show wpAny _ _ (subscriptTail _ _ (Value.ref _) (Value.int _ _)) _ _ _); k_dflt (refine' item_dat ?N ?D ?s ?a ?b ?d ?_; (case D => with_reducible assumption); (case N => k_asm); (case a => first | decide | omega); (case b => first | decide | omega); (case d => assumption); (case s => (first | exact fun p hp => hp | ((repeat' (first | refine fa_app ?_ ?_ | refine fa_cons ?_ ?_ | refine List.forall_mem_append.mpr ⟨?_, ?_⟩ | refine List.forall_mem_cons.mpr ⟨?_, ?_⟩)) <;> (first | exact List.forall_mem_nil _ | (intro p9 hp9; kp_flats) | kp_flats))))); intro v9 d9; (try (obtain ⟨t9, e9⟩ := dat_str d9; subst e9))))
local macro_rules | `(tactic| walk_at "compareOp Eq str str") => `(tactic| (k_here; k_dflt (refine' eq_str_known ?h ?_; (case h => with_reducible assumption); k_whole)))
local macro_rules | `(tactic| walk_at "pyIter ref") => `(tactic| (k_here; (with_reducible show wpAny _ _ (pyIter (Value.ref _)) _ _ _); refine Held.out ?_))

/-- a row that is no label -/
def Other (d : Dat) : Prop := ∃ x r, d = .tuple (.str x :: r) ∧ (x == Str.ofString "label") = false
def flatB (bs : List (Int × List Dat)) : List Dat := bs.flatMap fun b => lab b.1 :: b.2
theorem flat_cons (b : Int × List Dat) (bs : List (Int × List Dat)) : flatB (b :: bs) = lab b.1 :: (b.2 ++ flatB bs) := by
  simp [flatB]

/-- the parts that are built: the last is being filled -/
structure PS where
  pa : Addr
  o : Obj
  nm : Int
  tn : Tok
  C : Led
  kvs : List (Int × Value)

def DoneAre (l : Led) (kvs : List (Int × Value)) (bs : List (Int × List Dat)) : Prop := All2 (fun kv b => kv.1 = b.1 ∧ DatIn l kv.2 (.list b.2)) kvs bs
theorem DoneAre.mono {l l' : Led} {kvs : List (Int × Value)} {bs : List (Int × List Dat)} (h : DoneAre l kvs bs) (hs : ∀ p ∈ l, p ∈ l') : DoneAre l' kvs bs :=
  All2.mono (fun _ _ ⟨a, b⟩ => ⟨a, b.mono hs⟩) h
theorem DoneAre.keys {l : Led} {kvs : List (Int × Value)} {bs : List (Int × List Dat)} (h : DoneAre l kvs bs) : kvs.map (·.1) = bs.map (·.1) := by
  induction h with
  | nil => rfl
  | cons h _ ih => rw [List.map_cons, List.map_cons, h.1, ih]

/-- what is done after some rows -/
def PInv (rest : Led) (blocks : List (Int × List Dat)) (left : List Dat) (C : Led) (kvs : List (Int × Value)) (nm : Int) : Prop :=
  (C = [] ∧ kvs = [] ∧ left = flatB blocks) ∨
  ∃ a vs n C' kvs0 B0 d1 d2 todo, C = (a, listOf vs.toArray n) :: C' ∧ kvs = kvs0 ++ [(nm, .ref a)] ∧ DoneAre (C' ++ rest) kvs0 B0 ∧ DatAll rest vs d1 ∧ blocks = B0 ++ (nm, d1 ++ d2) :: todo ∧ left = d2 ++ flatB todo

theorem valueAt_none {kvs : List (Int × Value)} {k : Int} (h : k ∉ kvs.map (·.1)) : valueAt kvs k = none := by
  have e := valueAt_mem (kvs := kvs) (k := k)
  rw [decide_eq_false h] at e
  cases hq : valueAt kvs k with
  | none => rfl
  | some _ => rw [hq] at e; cases e
theorem valueAt_last {kvs : List (Int × Value)} {k : Int} {v : Value} (h : k ∉ kvs.map (·.1)) : valueAt (kvs ++ [(k, v)]) k = some v := by
  induction kvs with
  | nil => simp [valueAt]
  | cons x xs ih =>
    rw [List.map_cons, List.mem_cons, not_or] at h
    have h1 : ¬ x.1 = k := fun e => h.1 e.symm
    have e1 : valueAt (x :: xs ++ [(k, v)]) k = valueAt (xs ++ [(k, v)]) k := by simp [valueAt, List.find?_cons, h1]
    rw [e1]
    exact ih h.2

theorem flat_len {b : Int × List Dat} : ∀ {bs : List (Int × List Dat)}, b ∈ bs → b.2.length ≤ (flatB bs).length
  | [], h => nomatch h
  | c :: bs, h => by
    rw [flat_cons, List.length_cons, List.length_append]
    rcases List.mem_cons.mp h with rfl | h
    · omega
    · have := flat_len h; omega
/-- the next row -/
theorem PInv.next {rest : Led} {blocks : List (Int × List Dat)} {left : List Dat} {C : Led} {kvs : List (Int × Value)} {nm : Int} {d : Dat} (h : PInv rest blocks (d :: left) C kvs nm)
    (hoth : ∀ b ∈ blocks, ∀ d ∈ b.2, Other d) (hnd : (blocks.map (·.1)).Nodup) :
    (∃ n, d = lab n ∧ n ∈ blocks.map (·.1) ∧ n ∉ kvs.map (·.1) ∧ ∀ a k, PInv rest blocks left ((a, listOf #[] k) :: C) (kvs ++ [(n, .ref a)]) n) ∨
    (Other d ∧ nm ∈ blocks.map (·.1) ∧ ∃ a vs n C', C = (a, listOf vs.toArray n) :: C' ∧ vs.length ≤ (flatB blocks).length ∧ valueAt kvs nm = some (.ref a) ∧ ∀ v k, DatIn rest v d → PInv rest blocks left ((a, listOf (vs ++ [v]).toArray k) :: C') kvs nm) := by
  rcases h with ⟨rfl, rfl, hl⟩ | ⟨a, vs, n, C', kvs0, B0, d1, d2, todo, rfl, rfl, hd, hv, hb, hl⟩
  · left
    cases blocks with
    | nil => simp [flatB] at hl
    | cons b bs =>
      rw [flat_cons] at hl
      injection hl with h1 h2
      refine ⟨b.1, h1, by simp, by simp, fun a k => .inr ⟨a, [], k, [], [], [], [], b.2, bs, rfl, rfl, .nil, .nil, rfl, h2⟩⟩
  · cases d2 with
    | nil =>
      left
      cases todo with
      | nil => simp [flatB] at hl
      | cons b bs =>
        rw [List.nil_append, flat_cons] at hl
        injection hl with h1 h2
        have hk := hd.keys
        have hnot : b.1 ∉ (kvs0 ++ [(nm, Value.ref a)]).map (·.1) := by
          rw [hb, List.map_append, List.map_cons, List.map_cons, List.nodup_append] at hnd
          rw [List.map_append, hk]
          intro hm
          rcases List.mem_append.mp hm with hm | hm
          · exact hnd.2.2 _ hm b.1 (by simp) rfl
          · have e : b.1 = nm := by simpa using hm
            have := (List.nodup_cons.mp hnd.2.1).1
            exact this (by simp [e])
        refine ⟨b.1, h1, by rw [hb]; simp, hnot, fun a' k => .inr ⟨a', [], k, (a, listOf vs.toArray n) :: C', kvs0 ++ [(nm, .ref a)], B0 ++ [(nm, d1)], [], b.2, bs, rfl, rfl, ?_, .nil, ?_, h2⟩⟩
        · refine (hd.mono fun p hp => List.mem_cons_of_mem _ hp).append (.one ⟨rfl, .list List.mem_cons_self (hv.mono fun p hp => List.mem_cons_of_mem _ (List.mem_append_right _ hp))⟩)
        · rw [hb]; simp
    | cons e d2 =>
      right
      injection hl with h1 h2
      have hbm : (nm, d1 ++ e :: d2) ∈ blocks := by rw [hb]; simp
      have hk := hd.keys
      have hnot : nm ∉ kvs0.map (·.1) := by
        rw [hb, List.map_append, List.map_cons, List.nodup_append] at hnd
        rw [hk]
        intro hm
        exact hnd.2.2 _ hm nm (by simp) rfl
      refine ⟨h1 ▸ hoth _ hbm e (by simp), List.mem_map_of_mem (f := (·.1)) hbm, a, vs, n, C', rfl, ?hlen9, valueAt_last hnot, fun v k hdv => .inr ⟨a, vs ++ [v], k, C', kvs0, B0, d1 ++ [d], d2, todo, rfl, rfl, hd, hv.append (.one hdv), ?_, h2⟩⟩
      · have h7 := flat_len hbm
        have h8 : vs.length = d1.length := DatAll.length hv
        rw [List.length_append] at h7
        omega
      · rw [hb, h1]; simp
theorem PInv.fin {rest : Led} {blocks : List (Int × List Dat)} {C : Led} {kvs : List (Int × Value)} {nm : Int} (h : PInv rest blocks [] C kvs nm) : DoneAre (C ++ rest) kvs blocks := by
  rcases h with ⟨rfl, rfl, hl⟩ | ⟨a, vs, n, C', kvs0, B0, d1, d2, todo, rfl, rfl, hd, hv, hb, hl⟩
  · cases blocks with
    | nil => exact .nil
    | cons b bs => rw [flat_cons] at hl; cases hl
  · cases d2 with
    | cons e d2 => cases hl
    | nil =>
      cases todo with
      | cons b bs => rw [flat_cons] at hl; cases hl
      | nil =>
        rw [hb, List.append_nil]
        exact (hd.mono fun p hp => List.mem_cons_of_mem _ hp).append (.one ⟨rfl, .list List.mem_cons_self (hv.mono fun p hp => List.mem_cons_of_mem _ (List.mem_append_right _ hp))⟩)
theorem PInv.len {rest : Led} {blocks : List (Int × List Dat)} {left : List Dat} {C : Led} {kvs : List (Int × Value)} {nm : Int} (h : PInv rest blocks left C kvs nm) : kvs.length ≤ blocks.length := by
  rcases h with ⟨rfl, rfl, hl⟩ | ⟨a, vs, n, C', kvs0, B0, d1, d2, todo, rfl, rfl, hd, hv, hb, hl⟩
  · simp
  · have := hd.length
    rw [hb]
    simp
    omega

theorem dat_int {l : Led} {v : Value} {x : Int} (h : DatIn l v (.int x)) : ∃ t, v = .int x t := by
  cases h with
  | int _ t => exact ⟨t, rfl⟩
theorem dat_tup {l : Led} {v : Value} {ds : List Dat} (h : DatIn l v (.tuple ds)) : ∃ a, v = .ref a ∧ DatIn l (.ref a) (.tuple ds) := by
  cases h with
  | tuple hm r => exact ⟨_, rfl, .tuple hm r⟩
local macro_rules | `(tactic| walk_at "subscriptTail") => `(tactic| (k_here; (with_reducible show wpAny _ _ (subscriptTail _ _ (Value.ref _) (Value.int _ _)) _ _ _); k_dflt (refine' item_dat ?N ?D ?s ?a ?b ?d ?_; (case D => with_reducible assumption); (case N => k_asm); (case a => first | decide | omega); (case b => first | decide | omega); (case d => assumption); (case s => (first | exact fun p hp => hp | ((repeat' (first | refine fa_app ?_ ?_ | refine fa_cons ?_ ?_ | refine List.forall_mem_append.mpr ⟨?_, ?_⟩ | refine List.forall_mem_cons.mpr ⟨?_, ?_⟩)) <;> (first | exact List.forall_mem_nil _ | (intro p9 hp9; kp_flats) | kp_flats))))); intro v9 d9; (first | (obtain ⟨t9, e9⟩ := dat_str d9; subst e9) | (obtain ⟨t9, e9⟩ := dat_int d9; subst e9))))
local macro_rules | `(tactic| walk_at "subscriptTail") => `(tactic| (k_here; (with_reducible show wpAny _ _ (subscriptTail _ _ (Value.ref _) (Value.int _ _)) _ _ _); k_dflt (refine' kda_item (knd := PySem.intKind _ _) ?N ?m ?d (intKind_is _ _ _ _) ?l ?_; (case l => with_reducible assumption); (case N => k_asm); (case m => k_mem); (case d => assumption); k_whole)))
local macro_rules | `(tactic| walk_at "compareOp In int ref") => `(tactic| (k_here; k_dflt (refine' kda_in (knd := PySem.intKind _ _) ?N ?m ?d ?l (intKind_is _ _ _ _) false ?b ?_; (case N => k_asm); (case m => k_mem); (case d => assumption); (case l => assumption); (case b => assumption); k_whole)))
local macro_rules | `(tactic| walk_at "setItem int ref") => `(tactic| (k_here; refine Held.out ?_))
theorem stored_new {kvs : List (Int × Value)} {k : Int} {v : Value} (h : k ∉ kvs.map (·.1)) : stored kvs k v = kvs ++ [(k, v)] := by
  have hany : (kvs.any fun kv => decide (kv.1 = k)) = false := by
    rw [Bool.eq_false_iff]
    intro hh
    refine ex_1 (List.any_eq_true.mp hh) ?_
    intro x q9o
    refine an_2 q9o ?_
    clear q9o
    intro hx e
    exact h (List.mem_map.mpr ⟨x, hx, of_decide_eq_true e⟩)
  unfold stored
  rw [hany]
  simp

theorem parts_does (w : World) (ra : Addr) (rv : List Value) (rn : Nat) (blocks : List (Int × List Dat)) (rest : Led) (hr : (ra, listOf rv.toArray rn) ∈ rest) (hrows : DatAll rest rv (flatB blocks))
    (hoth : ∀ b ∈ blocks, ∀ d ∈ b.2, Other d) (hnd : (blocks.map (·.1)).Nodup) (hpos : ∀ b ∈ blocks, 0 ≤ b.1) (hlen : rv.length ≤ 4000) (hbl : blocks.length ≤ 1000) :
    Does w 167 [.ref ra] [] rest 8 300
      (fun r chg add => ∃ P o kvs, r = .ref P ∧ chg = [] ∧ (P, o) ∈ add ∧ (P == sysModules) = false ∧ o.IsDictOf (PySem.intKind PR w) kvs ∧ DoneAre (add ++ rest) kvs blocks) := by
  unfold Does
  k_fill
  intro dp un gd env outer A₀ base h₀ L m s mean mg mb Q E _ B F X N hnod T hk hL hd hu hret
  try simp only [List.cons_append, List.nil_append] at N hnod
  ((first | refine peelA hnod (by with_reducible ((repeat (first | exact it_nil | (apply it_na) | (apply it_ca) | (apply it_aa) | (apply it_cons) | (apply it_app))); (try exact it_last))) ?_ | refine peelN hnod (by with_reducible ((repeat (first | exact it_nil | (apply it_na) | (apply it_ca) | (apply it_aa) | (apply it_cons) | (apply it_app))); (try exact it_last))) ?_ | refine peelR hnod (by with_reducible ((repeat (first | exact it_nil | (apply it_na) | (apply it_ca) | (apply it_aa) | (apply it_cons) | (apply it_app))); (try exact it_last))) ?_); (repeat (intro hq9)); refine Past.mk ?_)
  refine wpAny_call ?_
  k_dflt (refine' code_def ?k1 ?k2 ?k3 ?k4 ?k5 ?kA ?kF ?kK ?k6 ?k7 ?k8 ?k9 ?kB ?_ ?c2 ?c3 ?c4 ?c5; (case kA => exact rfl); (case kF => assumption); (case kK => assumption); (case k1 => k_asm); (case k2 => k_asm); (case k3 => k_asm); (case k4 => k_asm); (case k5 => k_asm); (case k6 => k_is); (case k7 => k_is); (case k8 => ktr_room); (case k9 => exact BindsTo.of_eq rfl); (case c5 => decide); (case kB => exact locs rfl); (case c2 => exact rfl); (case c3 => exact rfl); (case c4 => exact rfl); k_whole; intro g' L' h' FG' F' N' B' X' T'; (try refine wp_toks fun tk9 => ?_); (try dsimp only); (try k_fold))
  k_steps
  refine ⟨?_⟩
  rename (_ == sysModules) = false => hlo
  rename Obj.IsDictOf (PySem.intKind _ _) _ [] => hdi
  rename AllLt _ rest => hlt
  rename News _ _ _ _ => N1
  rename Fr _ _ _ _ => F1
  apply loop_list (σ := PS) (fun c => [(Str.ofString "parts", .ref c.pa), (Str.ofString "name", .int c.nm c.tn)]) []
    (fun i c nx => nx = (c.pa, c.o) :: (c.C ++ rest) ∧ (c.pa == sysModules) = false ∧ c.o.IsDictOf (PySem.intKind PR w) c.kvs ∧ PInv rest blocks ((flatB blocks).drop i) c.C c.kvs c.nm)
    (PS.mk _ _ (-1) _ [] [])
  case hh => rfl
  case F => exact F1
  case N => exact N1
  case hj => exact ⟨rfl, hlo, hdi, .inl ⟨rfl, rfl, rfl⟩⟩
  case hl => k_mem
  case hn => kat_tups
  case hk => first | ((repeat (first | exact fr_nil | refine fr_cons (by rfl) ?_)); done) | (intro p hp; (rcases List.mem_cons.mp hp with rfl | hp); (· rfl); (rw [List.mem_singleton.mp hp]; rfl))
  case turn =>
    rintro i v ⟨pa, o, nm, tn, C, kvs⟩ nx u h tk I oI hi' hv hJ79 hl hn F2 N2
    refine turn_cps ?_
    intro q79 hq79 hb79 hr79
    refine an_4 (hJ79) ?_
    (try clear hJ79)
    intro r9q
    subst r9q
    intro hlo1
    intro hd1
    intro hP1
    dsimp only at hlo1 hd1 hP1 hn N2 F2
    dsimp only [kstB] at F2
    have hi2 : i < (flatB blocks).length := by rw [← hrows.length]; exact hi'
    rw [List.drop_eq_getElem_cons hi2] at hP1
    refine ex_1 (DatAll.get hrows hi2) ?_
    intro v' q9o
    refine an_2 q9o ?_
    clear q9o
    intro hv' hdv
    rw [hv] at hv'
    cases hv'
    generalize (flatB blocks)[i] = d at hP1 hdv
    have hnI := nodA.mp hn
    have hkl := hP1.len
    rcases hP1.next hoth hnd with ⟨n, rfl, hnb, hnk, hnext⟩ | ⟨hot, hnb, a, vs, n, C', rfl, hvl, hva, hnext⟩
    · ((first | refine peelA hnI (by with_reducible ((repeat (first | exact it_nil | (apply it_na) | (apply it_ca) | (apply it_aa) | (apply it_cons) | (apply it_app))); (try exact it_last))) ?_ | refine peelN hnI (by with_reducible ((repeat (first | exact it_nil | (apply it_na) | (apply it_ca) | (apply it_aa) | (apply it_cons) | (apply it_app))); (try exact it_last))) ?_ | refine peelR hnI (by with_reducible ((repeat (first | exact it_nil | (apply it_na) | (apply it_ca) | (apply it_aa) | (apply it_cons) | (apply it_app))); (try exact it_last))) ?_); (repeat (intro hq9)); refine Past.mk ?_)
      refine with_goal fun X79 hX79 => ?_
      refine ex_1 (dat_tup hdv) ?_
      intro a q9o
      refine an_2 q9o ?_
      clear q9o
      intro r9q
      subst r9q
      intro hD
      refine hX79 ?_
      clear hdv
      have hq0 : ([.str (Str.ofString "label"), .int n] : List Dat)[0]? = some (.str (Str.ofString "label")) := rfl
      have hq1 : ([.str (Str.ofString "label"), .int n] : List Dat)[1]? = some (.int n) := rfl
      generalize ([.str (Str.ofString "label"), .int n] : List Dat) = ds at hD hq0 hq1
      have hqe : (Str.ofString "label" == Str.ofString "label") = true := by simp
      have hvn : (valueAt kvs n).isSome = false := by rw [valueAt_none hnk]; rfl
      try k_fold
      k_steps
      k_dflt (refine' kda_set (knd := PySem.intKind _ _) ?F ?N ?U hd1 (intKind_is _ _ _ _) ?z ?_; (case F => k_asm); (case N => k_asm); (case U => k_updF); (case z => (rw [sizeLine_eq]; omega)))
      intro h9 o9 F9 N9 D9
      try dsimp only at N9
      rw [stored_new hnk] at D9
      k_steps
      rename News g' _ _ _ => lN
      rename Fr g' _ _ _ => lF
      skip
      refine (hq79 (PS.mk pa o9 n _ ((_, _) :: C) _) _ _ _ _ lF (by first | ((repeat (first | exact fr_nil | refine fr_cons (by rfl) ?_)); done) | (intro q hq; (rcases List.mem_cons.mp hq with rfl | hq); (· rfl); (rw [List.mem_singleton.mp hq]; rfl))) (by intro z z1 z2 z3; first | ((repeat (first | with_reducible rfl | with_reducible assumption | refine kp_st (by with_reducible assumption) ?_ | refine kp_set (by first | with_reducible exact z1 | with_reducible exact z2 _ List.mem_cons_self | with_reducible exact z2 _ (List.mem_cons_of_mem _ List.mem_cons_self) | with_reducible exact z2 _ (List.mem_cons_of_mem _ (List.mem_cons_of_mem _ List.mem_cons_self)) | exact kp_con z3 (by ((repeat (with_reducible_and_instances first | exact List.Mem.head _ | refine List.Mem.tail _ ?_)); (first | done | fail "open")))) ?_ | refine kp_same (by assumption) ?_ | exact rfl)); done) | ((have w0 : z ≠ Str.ofString "parts" := z2 _ List.mem_cons_self); (have w1 : z ≠ Str.ofString "name" := z2 _ (List.mem_cons_of_mem _ List.mem_cons_self)); (try dsimp only [kstB]); simp only [if_neg z1, if_neg w0, if_neg w1, z3, List.contains_nil, Bool.false_eq_true, if_false])) (kst_newsOf lN (by (first | exact fun p hp => hp | ((repeat' (first | refine fa_app ?_ ?_ | refine fa_cons ?_ ?_ | refine List.forall_mem_append.mpr ⟨?_, ?_⟩ | refine List.forall_mem_cons.mpr ⟨?_, ?_⟩)) <;> (first | exact List.forall_mem_nil _ | (intro p9 hp9; kp_flats) | kp_flats))))) ?nd ?sr ⟨rfl, hlo1, D9, hnext _ _⟩).1
      case nd => kat_tups
      case sr => (first | exact fun p hp => hp | ((repeat' (first | refine fa_app ?_ ?_ | refine fa_cons ?_ ?_ | refine List.forall_mem_append.mpr ⟨?_, ?_⟩ | refine List.forall_mem_cons.mpr ⟨?_, ?_⟩)) <;> (first | exact List.forall_mem_nil _ | (intro p9 hp9; kp_flats) | kp_flats)))
    · ((first | refine peelA hnI (by with_reducible ((repeat (first | exact it_nil | (apply it_na) | (apply it_ca) | (apply it_aa) | (apply it_cons) | (apply it_app))); (try exact it_last))) ?_ | refine peelN hnI (by with_reducible ((repeat (first | exact it_nil | (apply it_na) | (apply it_ca) | (apply it_aa) | (apply it_cons) | (apply it_app))); (try exact it_last))) ?_ | refine peelR hnI (by with_reducible ((repeat (first | exact it_nil | (apply it_na) | (apply it_ca) | (apply it_aa) | (apply it_cons) | (apply it_app))); (try exact it_last))) ?_); (repeat (intro hq9)); refine Past.mk ?_)
      refine with_goal fun X79 hX79 => ?_
      refine ex_2 (hot) ?_
      (try clear hot)
      intro x r q9o
      refine an_2 q9o ?_
      clear q9o
      intro r9q
      subst r9q
      intro hqe
      refine hX79 ?_
      have hd9 := hdv
      refine with_goal fun X79 hX79 => ?_
      refine ex_1 (dat_tup hdv) ?_
      intro ra9 q9o
      refine an_2 q9o ?_
      clear q9o
      intro r9q
      subst r9q
      intro hD
      refine hX79 ?_
      clear hdv
      have hq0 : (.str x :: r : List Dat)[0]? = some (.str x) := rfl
      generalize hds : (.str x :: r : List Dat) = ds at hD hq0
      refine ex_1 (List.mem_map.mp hnb) ?_
      intro b q9o
      refine an_2 q9o ?_
      clear q9o
      intro hb hbn
      have hnm : 0 ≤ nm := hbn ▸ hpos b hb
      have hrl : rv.length = (flatB blocks).length := DatAll.length hrows
      try simp only [List.cons_append] at N2
      try k_fold
      k_steps
      rename News g' _ _ _ => lN
      rename Fr g' _ _ _ => lF
      skip
      refine (hq79 (PS.mk pa o nm tn ((a, _) :: C') kvs) _ _ _ _ lF (by first | ((repeat (first | exact fr_nil | refine fr_cons (by rfl) ?_)); done) | (intro q hq; (rcases List.mem_cons.mp hq with rfl | hq); (· rfl); (rw [List.mem_singleton.mp hq]; rfl))) (by intro z z1 z2 z3; first | ((repeat (first | with_reducible rfl | with_reducible assumption | refine kp_st (by with_reducible assumption) ?_ | refine kp_set (by first | with_reducible exact z1 | with_reducible exact z2 _ List.mem_cons_self | with_reducible exact z2 _ (List.mem_cons_of_mem _ List.mem_cons_self) | with_reducible exact z2 _ (List.mem_cons_of_mem _ (List.mem_cons_of_mem _ List.mem_cons_self)) | exact kp_con z3 (by ((repeat (with_reducible_and_instances first | exact List.Mem.head _ | refine List.Mem.tail _ ?_)); (first | done | fail "open")))) ?_ | refine kp_same (by assumption) ?_ | exact rfl)); done) | ((have w0 : z ≠ Str.ofString "parts" := z2 _ List.mem_cons_self); (have w1 : z ≠ Str.ofString "name" := z2 _ (List.mem_cons_of_mem _ List.mem_cons_self)); (try dsimp only [kstB]); simp only [if_neg z1, if_neg w0, if_neg w1, z3, List.contains_nil, Bool.false_eq_true, if_false])) (kst_newsOf lN (by (first | exact fun p hp => hp | ((repeat' (first | refine fa_app ?_ ?_ | refine fa_cons ?_ ?_ | refine List.forall_mem_append.mpr ⟨?_, ?_⟩ | refine List.forall_mem_cons.mpr ⟨?_, ?_⟩)) <;> (first | exact List.forall_mem_nil _ | (intro p9 hp9; kp_flats) | kp_flats))))) ?nd ?sr ⟨rfl, hlo1, hd1, hnext _ _ hd9⟩).1
      case nd => exact hn
      case sr => (first | exact fun p hp => hp | ((repeat' (first | refine fa_app ?_ ?_ | refine fa_cons ?_ ?_ | refine List.forall_mem_append.mpr ⟨?_, ?_⟩ | refine List.forall_mem_cons.mpr ⟨?_, ?_⟩)) <;> (first | exact List.forall_mem_nil _ | (intro p9 hp9; kp_flats) | kp_flats)))
  case done =>
    rintro ⟨pa, o, nm, tn, C, kvs⟩ nx u h tk hJ79 hl hn F2 N2
    refine an_4 (hJ79) ?_
    (try clear hJ79)
    intro r9q
    subst r9q
    intro hlo1
    intro hd1
    intro hP1
    dsimp only at hlo1 hd1 hP1 hn N2 F2
    dsimp only [kstB] at F2
    k_steps
    rename News h₀ L _ _ => kN
    rw [List.drop_eq_nil_of_le (by rw [← hrows.length]; exact Nat.le_refl _)] at hP1
    have hfin := hP1.fin
    refine hret _ [] ((pa, o) :: C) _ _ (by assumption) kN rfl ?hy (Nod.left (b := rest) hn) ⟨pa, o, kvs, rfl, rfl, List.mem_cons_self, hlo1, hd1, hfin.mono fun p hp => List.mem_cons_of_mem _ hp⟩
    case hy =>
      intro p hp q hq
      exact Ne.symm (Nod.apart (a := (pa, o) :: C) (b := rest) hn p hp q hq)

end
end
section
local macro_rules | `(tactic| omega) => `(tactic| first | with_reducible assumption | exact Nat.le_of_lt (by with_reducible assumption) | exact Nat.le_trans (by with_reducible assumption) (by decide) | exact Nat.lt_of_lt_of_le (by with_reducible assumption) (by decide) | exact Nat.lt_of_le_of_lt (by with_reducible assumption) (by decide) | exact Nat.le_trans (Nat.le_of_lt (by with_reducible assumption)) (by decide) | exact Nat.ne_of_lt (by with_reducible assumption) | exact Nat.ne_of_gt (by with_reducible assumption) | exact om_ne1 _ 0 | exact om_ne1 _ 1 | exact om_ne1 _ 2 | exact om_ne1 _ 3 | exact om_ne1 _ 4 | exact om_ne2 _ 0 | exact om_ne2 _ 1 | exact om_ne2 _ 2 | exact om_ne2 _ 3 | exact om_ne2 _ 4 | lia)
section
theorem offLawSel : True := by
  w_top off
  trivial

section
variable {K : Frag} {name name' qual qual' : Str} {params params' : Arguments} {body body' : List Stmt} {scope scope' : Scope} {dV dV' kV kV' doc doc' pm pm' cdv cdv' ct ct' oc oc' : Value} {an an' od od' : Option Addr} {osl osl' : Array (Option Value)}
theorem fn_pick {x : Option Obj} (h : x = some ⟨oc, od, .func (fnOf name qual params body scope dV kV doc pm an cdv ct), osl⟩) (h' : x = some ⟨oc', od', .func (fnOf name' qual' params' body' scope' dV' kV' doc' pm' an' cdv' ct'), osl'⟩) : qual = qual' ∧ body = body' ∧ scope = scope' := by
  rw [h] at h'
  injection h' with h'
  injection h' with h1 h2 h3 h4
  injection h3 with h3
  unfold fnOf at h3
  injection h3 with h5 h6 h7 h8 h9
  injection h8 with h8
  exact ⟨h6, h8, h9⟩
end
/-- the body of the loop that stands at k -/
def selFor (k : Nat) (b : List Stmt) : List Stmt := match b[k]? with
  | some (.For _ _ r _ _) => r
  | _ => []
/-- the ways of the test that stands at k -/
def selIf (k : Nat) (b : List Stmt) : List Stmt := match b[k]? with
  | some (.If _ r _ _) => r
  | _ => []
def selElse (k : Nat) (b : List Stmt) : List Stmt := match b[k]? with
  | some (.If _ _ r _) => r
  | _ => []
theorem frame_name {m : Str → Option Value} {x : Str} {v : Value} (h : m x = some v) : m = fun y => if y = x then some v else m y := by
  funext y
  split
  · rename_i e; rw [e, h]
  · rfl

section
variable {prog : Program} {w : World} {A : Around} {E : Value → Shared → Prop} {s : Shared} {h₀ : Heap} {L a : Addr} {news n₁ n₂ : Led} {vs : List Value} {n : Nat} {x : Value} {ks : List Key} {k : Key} {Q : Value → Shared → Prop}
theorem keys_ok : ∀ d ∈ ks.map Key.dat, kqdOk 8 d = true := by
  intro d hd
  refine with_goal fun X79 hX79 => ?_
  refine ex_1 (List.mem_map.mp hd) ?_
  intro k q9o
  refine an_2 q9o ?_
  clear q9o
  intro _
  intro r9q
  subst r9q
  refine hX79 ?_
  exact k.ok
open Classical in
theorem in_keys (N : News h₀ L s.heap news) (ma : (a, tupOf vs n) ∈ news) (Da : DatAll n₁ vs (ks.map Key.dat)) (sa : ∀ p ∈ n₁, p ∈ news)
    (Dx : KeyIn n₂ x k) (sx : ∀ p ∈ n₂, p ∈ news) (hu : A.units + 64 < cLine) (h : Q (.bool (decide (k ∈ ks))) s) : wpAny (model prog w) A (compareOp .In x (.ref a)) Q E s := by
  refine ex_1 (kqd_all N 8 (Da.mono sa) keys_ok) ?_
  intro as ra
  refine ex_1 (kqd_in N 8 (Dx.mono sx) k.ok) ?_
  intro bs rx
  have l := kqd_layL (ds := ks.map Key.dat) keys_ok
  have ld := kqd_lay 8 k.dat k.ok
  have e : ((kqdPs (ks.map Key.dat)).any fun y => PyData.eqv y (kqdP k.dat)) = decide (k ∈ ks) := by
    have hm : k.dat ∈ ks.map Key.dat ↔ k ∈ ks := by
      rw [List.mem_map]
      constructor
      · rintro ⟨j, hj, e⟩; rw [← Key.dat_inj.mp e]; exact hj
      · exact fun hj => ⟨k, hj, rfl⟩
    by_cases hq : k ∈ ks
    · rw [decide_eq_true hq]; exact (kqd_any _ _ keys_ok k.ok).mpr (hm.mpr hq)
    · rw [decide_eq_false hq]; exact Bool.eq_false_iff.mpr fun z => hq (hm.mp ((kqd_any _ _ keys_ok k.ok).mp z))
  have l2 := ld.2
  refine SeqAt.in_tuple_reads (reads_tuple_at (N.get ma) rfl rfl (by simpa using ra)) rx l.1 ld.1 ?_ (by rw [e]; exact h)
  have := Nat.min_le_right (PyData.depthAll (kqdPs (ks.map Key.dat))) (kqdP k.dat).depth
  omega
end

/-- what stays as it is in the law's turns -/
structure LK where
  (fa ka co ba bd ro ch kn fo : Addr)
  (kv cdv : List Value)
  (kc cdn : Nat)
  (cs : List Cod)
  (oF oK : Obj)
  x : BTok
  ar : Int
  ta : Tok
structure LS where
  us : List Value
  c : Nat
  nl : Int
  tn : Tok
  cv : List Value
  cc : Nat
  (okn ofo oS oP oW : Obj)
  es : List (List Int × Int)
abbrev stLed (K : LK) (L : Addr) (S : LS) : Led :=
  [(K.fa, listOf S.us.toArray S.c), (K.bd, bDict K.x K.ar K.ta K.co K.ro K.ch K.kn S.nl S.tn), (K.ch, listOf S.cv.toArray S.cc), (K.kn, S.okn), (K.fo, S.ofo), (L + 1 + 1 + 1, S.oS), (L + 1 + 1 + 1 + 1, S.oP), (L + 1 + 1 + 1 + 1 + 1, S.oW)]
/-- what holds of it -/
structure LW (L : Addr) (K : LK) (l : Led) : Prop where
  oFm : (L + 1, K.oF) ∈ l
  oFd : K.oF.data = .cell (some (.ref K.fa))
  oKm : (L + 1 + 1, K.oK) ∈ l
  oKd : K.oK.data = .cell (some (.ref K.ka))
  kam : (K.ka, listOf K.kv.toArray K.kc) ∈ l
  keys : All2 (KeyIn l) K.kv (K.cs.map (·.key))
  com : (K.co, listOf K.cdv.toArray K.cdn) ∈ l
  cods : CodsAre l K.cdv K.cs
  inst : (K.ba, instObj 102 K.bd) ∈ l
  m1 : 1 ≤ K.cs.length
  m4 : K.cs.length ≤ 4
  knl : (K.kn == sysModules) = false
  fol : (K.fo == sysModules) = false
theorem LW.mono {L : Addr} {K : LK} {l l' : Led} (h : LW L K l) (hs : ∀ p ∈ l, p ∈ l') : LW L K l' :=
  { h with oFm := hs _ h.oFm, oKm := hs _ h.oKm, kam := hs _ h.kam, keys := All2.mono (fun _ _ q => KeyIn.mono hs q) h.keys, com := hs _ h.com, cods := h.cods.mono hs, inst := hs _ h.inst }
structure SOK (w : World) (K : LK) (l : Led) (S : LS) : Prop where
  figs : Figs S.us
  bs : BS w l K.cs.length S.es S.nl S.cv S.okn
  td : TD PR w l S.ofo S.es
  good : Good S.es
  cS : ∃ x, S.oS.data = .cell x
  cP : ∃ x, S.oP.data = .cell x
  cW : ∃ x, S.oW.data = .cell x
theorem SOK.mono {w : World} {K : LK} {l l' : Led} {S : LS} (h : SOK w K l S) (hs : ∀ p ∈ l, p ∈ l') : SOK w K l' S := { h with bs := h.bs.mono hs, td := h.td.mono hs }

/-- what a piece of the law's turn does -/
def Piece (w : World) (sel : List Stmt → List Stmt) (K : LK) (S : LS) (l0 rest : Led) (st : List Str) (nm : List (Str × Value)) (Post : (Str → Option Value) → LS → Led → Prop) : Prop :=
  ∀ {name qual : Str} {params : Arguments} {body : List Stmt} {scope : Scope} {dV kV doc pm cdv ct oc : Value} {an od : Option Addr} {osl : Array (Option Value)}
    (_ : (Mine.hd.heap_1 w.params).lookup 172 = some ⟨oc, od, .func (fnOf name qual params body scope dV kV doc pm an cdv ct), osl⟩)
    (dp un : Nat) (gd : Option (List Code)) (outer : List Env) (A₀ : Around) (base h₀ : Heap) (L f : Addr) (cd : Value) (m : Str → Option Value) (s : Shared)
    (mean : ExcName → Option Value) (mg mb : Str → Option Value) (Q : Flow → Shared → Prop) (E : Value → Shared → Prop),
    PySem.Challenge.rw_rh0065_01 = PySem.Challenge.rw_rh0065_01 →
    Below A₀ base outer h₀ → Fr h₀ L s.heap m → (Mine.hd.heap_1 w.params).In h₀ → News h₀ L s.heap (stLed K L S ++ rest) → Nod (stLed K L S ++ rest) → (∀ p ∈ l0, p ∈ rest) → LW L K l0 → SOK w K l0 S →
    Top Mine.V (looseW Mine.V []) mean mg mb h₀ → dp + 60 < recursionLimit → un + 2000 < cLine → (∀ p ∈ nm, m p.1 = some p.2) →
    (∀ m' S' add h' tk', Fr h₀ L h' m' → (∀ z, st.contains z = false → m' z = m z) → News h₀ L h' (stLed K L S' ++ (add ++ rest)) → Nod (stLed K L S' ++ (add ++ rest)) → SOK w K (add ++ l0) S' → S'.es.length ≤ S.es.length + 8 → Post m' S' (add ++ l0) →
      Q .next { s with heap := h', toks := tk' }) →
    wpAny (model PySem.Challenge.rw_rh0065_01.row.prog w) (around dp un gd (envOfC qual scope L f cd) outer) (execs (sel body) (envOfC qual scope L f cd)) Q E s

/-- both lists have the same ints -/
def SameInts (ds : List Int) (m : Str → Option Value) (l : Led) : Prop :=
  ∃ pa pv pc ka kv kc, m (Str.ofString "places") = some (.ref pa) ∧ m (Str.ofString "kept") = some (.ref ka) ∧ (pa, listOf pv.toArray pc) ∈ l ∧ (ka, listOf kv.toArray kc) ∈ l ∧ Ints pv ds ∧ Ints kv ds

end
section
theorem offLawUse : True := by
  w_top off
  trivial
local macro_rules | `(tactic| walk_at "zz") => `(tactic| skip)
section
variable {K : Frag} {name name' qual qual' : Str} {params params' : Arguments} {body body' : List Stmt} {scope scope' : Scope} {dV dV' kV kV' doc doc' pm pm' cdv cdv' ct ct' oc oc' : Value} {an an' od od' : Option Addr} {osl osl' : Array (Option Value)}
@[elab_as_elim] theorem fn_use {x : Option Obj} {P : Str → List Stmt → Scope → Prop} (h : x = some ⟨oc, od, .func (fnOf name qual params body scope dV kV doc pm an cdv ct), osl⟩) (h' : x = some ⟨oc', od', .func (fnOf name' qual' params' body' scope' dV' kV' doc' pm' an' cdv' ct'), osl'⟩)
    (g : x = some ⟨oc', od', .func (fnOf name' qual' params' body' scope' dV' kV' doc' pm' an' cdv' ct'), osl'⟩ → P qual' body' scope') : P qual body scope := by
  obtain ⟨rfl, rfl, rfl⟩ := fn_pick h h'
  exact g h'
end
/-- a frame with the names that are known of it -/
@[reducible] def withN : List (Str × Value) → (Str → Option Value) → Str → Option Value
  | [], m => m
  | p :: r, m => fun y => if y = p.1 then some p.2 else withN r m y
theorem withN_eq {m : Str → Option Value} : ∀ {nm : List (Str × Value)}, (∀ p ∈ nm, m p.1 = some p.2) → withN nm m = m
  | [], _ => rfl
  | p :: r, h => by
    funext y
    show (if y = p.1 then some p.2 else withN r m y) = m y
    rw [withN_eq (nm := r) fun q hq => h q (List.mem_cons_of_mem _ hq)]
    split
    · rename_i e; rw [e]; exact (h p List.mem_cons_self).symm
    · rfl
theorem fr_named {h₀ h : Heap} {L : Addr} {m : Str → Option Value} {nm : List (Str × Value)} (F : Fr h₀ L h m) (hnm : ∀ p ∈ nm, m p.1 = some p.2) : Fr h₀ L h (withN nm m) := by rw [withN_eq hnm]; exact F
theorem LW.use {L : Addr} {K : LK} {l : Led} {G : Prop} (h : LW L K l)
    (g : (L + 1, K.oF) ∈ l → K.oF.data = .cell (some (.ref K.fa)) → (L + 1 + 1, K.oK) ∈ l → K.oK.data = .cell (some (.ref K.ka)) → (K.ka, listOf K.kv.toArray K.kc) ∈ l → All2 (KeyIn l) K.kv (K.cs.map (·.key)) →
      (K.co, listOf K.cdv.toArray K.cdn) ∈ l → CodsAre l K.cdv K.cs → (K.ba, instObj 102 K.bd) ∈ l → 1 ≤ K.cs.length → K.cs.length ≤ 4 → (K.kn == sysModules) = false → (K.fo == sysModules) = false → G) : G :=
  g h.oFm h.oFd h.oKm h.oKd h.kam h.keys h.com h.cods h.inst h.m1 h.m4 h.knl h.fol
theorem SOK.use {w : World} {K : LK} {l : Led} {S : LS} {G : Prop} (h : SOK w K l S)
    (g : Figs S.us → BS w l K.cs.length S.es S.nl S.cv S.okn → TD PR w l S.ofo S.es → Good S.es → ∀ xS, S.oS.data = .cell xS → ∀ xP, S.oP.data = .cell xP → ∀ xW, S.oW.data = .cell xW → G) : G :=
  let ⟨xS, cS⟩ := h.cS
  let ⟨xP, cP⟩ := h.cP
  let ⟨xW, cW⟩ := h.cW
  g h.figs h.bs h.td h.good xS cS xP cP xW cW

end
end
section
local macro_rules | `(tactic| omega) => `(tactic| first | with_reducible assumption | exact Nat.le_of_lt (by with_reducible assumption) | exact Nat.le_trans (by with_reducible assumption) (by decide) | exact Nat.lt_of_lt_of_le (by with_reducible assumption) (by decide) | exact Nat.lt_of_le_of_lt (by with_reducible assumption) (by decide) | exact Nat.le_trans (Nat.le_of_lt (by with_reducible assumption)) (by decide) | exact Nat.ne_of_lt (by with_reducible assumption) | exact Nat.ne_of_gt (by with_reducible assumption) | exact om_ne1 _ 0 | exact om_ne1 _ 1 | exact om_ne1 _ 2 | exact om_ne1 _ 3 | exact om_ne1 _ 4 | exact om_ne2 _ 0 | exact om_ne2 _ 1 | exact om_ne2 _ 2 | exact om_ne2 _ 3 | exact om_ne2 _ 4 | lia)
local macro_rules | `(tactic| walk_at "exec For") => `(tactic| (k_here; (with_reducible show wpAny _ _ (exec (Stmt.For (Expr.Name _ _) _ _ [] _) _) _ _ _); (rename Fr _ _ _ _ => lF'); (with_unfolding_all refine' For_invVF lF' ?k1 ?k2 ?_; (case k1 => exact rfl); (case k2 => exact rfl); k_whole)))
local macro_rules | `(tactic| walk_at "exec For Name Name cons nil") => `(tactic| (k_here; (with_reducible show wpAny _ _ (exec (Stmt.For (Expr.Name _ _) _ _ [] _) _) _ _ _); (rename Fr _ _ _ _ => lF'); (with_unfolding_all refine' For_invVF lF' ?k1 ?k2 ?_; (case k1 => exact rfl); (case k2 => exact rfl); k_whole)))
local macro_rules | `(tactic| walk_at "exec For Name Call cons nil") => `(tactic| (k_here; (with_reducible show wpAny _ _ (exec (Stmt.For (Expr.Name _ _) _ _ [] _) _) _ _ _); (rename Fr _ _ _ _ => lF'); (with_unfolding_all refine' For_invVF lF' ?k1 ?k2 ?_; (case k1 => exact rfl); (case k2 => exact rfl); k_whole)))
local macro_rules | `(tactic| walk_at "exec For Name Attribute cons nil") => `(tactic| (k_here; (with_reducible show wpAny _ _ (exec (Stmt.For (Expr.Name _ _) _ _ [] _) _) _ _ _); (rename Fr _ _ _ _ => lF'); (with_unfolding_all refine' For_invVF lF' ?k1 ?k2 ?_; (case k1 => exact rfl); (case k2 => exact rfl); k_whole)))
local macro_rules | `(tactic| walk_at "newTuple") => `(tactic| (k_here; k_dflt (refine' kup_newTuple ?F ?N ?_ ?z; (case F => k_asm); (case N => k_asm); (case z => ((try simp only [sizeLine_eq, List.length_cons, List.length_nil]); omega))); intro D' h' F' N' l1; (try k_lt l1); (try k_sweep)))
local macro_rules | `(tactic| walk_at "call builtin:list.append") => `(tactic| (k_here; (with_reducible show wpAny _ _ (call (Value.builtin _) [Value.ref _, _]) _ _ _); k_dflt (refine' append_K ?k1 ?k2 ?k3 ?_ ?z; (case k1 => k_asm); (case k2 => k_asm); (case k3 => k_upd); (case z => ((try simp only [List.size_toArray, List.length_append, List.length_cons, List.length_nil, sizeLine_eq]); omega)); k_whole); intro h' F' N'; (try simp only [List.push_toArray] at N'); (try k_sweep)))
local macro_rules | `(tactic| walk_at "subscriptTail") => `(tactic| (k_here; (with_reducible show wpAny _ _ (subscriptTail _ _ (Value.ref _) (Value.int _ _)) _ _ _); k_dflt (refine' item_led ?N ?m ?a ?b ?x ?_; (case N => k_asm); (case m => k_mem); (case a => first | decide | omega); (case b => first | decide | omega); (case x => first | rfl | assumption); k_whole)))
local macro_rules | `(tactic| walk_at "call builtin:len") => `(tactic| (k_here; (with_reducible show wpAny _ _ (call (Value.builtin "len") [Value.ref _]) _ _ _); k_dflt (refine' len_led ?N ?m ?e ?f ?_; (case N => k_asm); (case m => k_mem); (case e => first | exact len0 | exact len1 _ | exact len2 _ _ _ | assumption | exact rfl); (case f => first | omega | decide); k_whole)))
local macro_rules | `(tactic| walk_at "call type:tuple") => `(tactic| (k_here; (with_reducible show wpAny _ _ (call (Value.type _) [Value.ref _]) _ _ _); k_dflt (refine' kde_tupleOf ?k1 ?k2 ?k3 ?k4 ?k5 ?_; (case k1 => k_asm); (case k2 => k_asm); (case k3 => exact News.isList (by k_asm) (by k_mem)); (case k4 => (simp only [sizeLine_eq, List.length_cons, List.size_toArray]; omega)); (case k5 => rfl); k_whole); intro D' h' F' N' l1; (try k_lt l1); (try k_sweep)))
section
theorem offTailB : True := by
  w_top off
  trivial
local macro_rules | `(tactic| walk_at "zz") => `(tactic| skip)

local macro_rules | `(tactic| walk_at "call type:list") => `(tactic| (k_here; (with_reducible show wpAny _ _ (call (Value.type _) [Value.ref _]) _ _ _); k_dflt (refine' kup_listOfT ?F ?N ?b ?e ?_ ?z; (case F => k_asm); (case N => k_asm); (case b => k_mem); (case e => exact rfl); (case z => (simp only [sizeLine_eq, List.size_toArray, List.toList_toArray]; omega))); intro D' c' h' F' N' l1; (try k_lt l1); (try k_sweep)))
local macro_rules | `(tactic| walk_at "call type:list") => `(tactic| (k_here; (with_reducible show wpAny _ _ (call (Value.type _) [Value.ref _]) _ _ _); k_dflt (refine' kup_listOf ?F ?N ?b ?e ?_ ?z; (case F => k_asm); (case N => k_asm); (case b => k_mem); (case e => exact rfl); (case z => (simp only [sizeLine_eq, List.size_toArray, List.toList_toArray]; omega))); intro D' c' h' F' N' l1; (try k_lt l1); (try k_sweep)))
local macro_rules | `(tactic| walk_at "pyIter ref") => `(tactic| (k_here; (with_reducible show wpAny _ _ (pyIter (Value.ref _)) _ _ _); refine Held.out ?_))
local macro_rules | `(tactic| walk_at "eval ListComp") => `(tactic| (k_here; k_dflt (refine LCt.ListComp_T (F₀ := by k_asm) (by with_unfolding_all rfl) (by decide) (by rfl) (by decide) (by rfl) ?_)))
local macro_rules | `(tactic| walk_at "compareOp Eq ref ref") => `(tactic| (k_here; (with_reducible show wpAny _ _ (compareOp CmpOp.Eq (Value.ref _) (Value.ref _)) _ _ _); k_dflt (refine eq_keyAt (by (first | exact KeyIn.at (by assumption) (by k_asm) (by k_sub) | exact VAR_in _ _ rfl (by k_in) | assumption)) (by (first | exact KeyIn.at (by assumption) (by k_asm) (by k_sub) | exact VAR_in _ _ rfl (by k_in) | assumption)) (by (first | exact room1 (by assumption) (by decide) | exact room2 (by assumption) (by decide) | exact room3 (by assumption) (by decide) | exact room0 (by assumption) | ke_room | ((try simp only [units_in1, units_deeper, Around.mark_units, units_caller]); (try dsimp only [around]); omega))) ?_)))
local macro_rules | `(tactic| walk_at "CompSrcT") => `(tactic| (k_here; refine Held.out ?_))
local macro_rules | `(tactic| walk_at "CompSrc") => `(tactic| (k_here; refine Held.out ?_))

theorem chainA_good {many : Nat} {es : List (List Int × Int)} {ps : List Int} (h : Good es) (hp : ps.length ≤ 8) : Good (chainA many es ps).2 := by
  unfold chainA
  split
  · exact h
  · exact h
  · rename_i h1 h2
    split
    · exact h
    · intro e he
      rcases List.mem_append.mp he with he | he
      · exact h e he
      · rw [List.mem_singleton.mp he]
        refine ⟨?_, hp⟩
        match ps, h1, h2 with
        | [], h1, _ => exact absurd rfl h1
        | [a], _, h2 => exact absurd rfl (h2 a)
        | _ :: _ :: _, _, _ => simp

theorem tailB (w : World) (K : LK) (S : LS) (l0 rest : Led) (t1 : Tok) (pa du : Addr) (pv dv : List Value) (pc dn : Nat) (ds : List Int)
    (hpa : (pa, listOf pv.toArray pc) ∈ l0) (hdu : (du, tupOf dv dn) ∈ l0) (hpi : Ints pv ds) (hdi : Ints dv ds) (hpl : ds.length ≤ 8) (hfew : S.es.length + 8 < 400) :
    Piece w (fun b => (selElse 3 (selFor 8 b)).drop 3) K S l0 rest [Str.ofString "kept"]
      [(Str.ofString "many", .int K.cs.length t1), (Str.ofString "builder", .ref K.ba), (Str.ofString "found", .ref K.fo), (Str.ofString "due", .ref du), (Str.ofString "places", .ref pa)]
      (fun m' _ l => SameInts ds m' l) := by
  obtain ⟨fa, ka, co, ba, bd, ro, ch, kn, fo, kv, cdv, kc, cdn, cs, oF, oK, x, ar, ta⟩ := K
  obtain ⟨us, c, nl, tn, cv, cc, okn, ofo, oS, oP, oW, es⟩ := S
  unfold Piece
  intro name qual params body scope dV kV doc pm cdv9 ct oc an od osl ho
  refine fn_use ho (by exact rfl) ?_
  clear ho
  intro ho
  k_fill
  intro dp un gd outer A₀ base h₀ L f cd m s mean mg mb Q E _ B F X N hnod hl0 W O T hd hu hnm hret
  refine LW.use W ?_
  intro oFm oFd oKm oKd kam hkeys com cods inst m1 m4 knl fol
  refine SOK.use O ?_
  intro hfig hbs htd hgood xS cS xP cP xW cW
  try dsimp only at *
  replace oFm := hl0 _ oFm
  replace oKm := hl0 _ oKm
  replace kam := hl0 _ kam
  replace com := hl0 _ com
  replace inst := hl0 _ inst
  have hkeys' := All2.mono (fun _ _ q => KeyIn.mono hl0 q) hkeys
  have cods' := CodsAre.mono cods hl0
  have hn1 := hnm _ List.mem_cons_self
  have hn2 := hnm _ (List.mem_cons_of_mem _ List.mem_cons_self)
  have hn3 := hnm _ (List.mem_cons_of_mem _ (List.mem_cons_of_mem _ List.mem_cons_self))
  have hn4 := hnm _ (List.mem_cons_of_mem _ (List.mem_cons_of_mem _ (List.mem_cons_of_mem _ List.mem_cons_self)))
  have hn5 := hnm _ (List.mem_cons_of_mem _ (List.mem_cons_of_mem _ (List.mem_cons_of_mem _ (List.mem_cons_of_mem _ List.mem_cons_self))))
  dsimp only at hn1 hn2 hn3 hn4 hn5
  replace F := fr_named F hnm
  try dsimp only [withN] at F
  conv => enter [3, 1]; whnf
  dsimp only [stLed, List.cons_append, List.nil_append] at N hnod
  have hnA := nodA.mp hnod
  ((first | refine peelA hnA (by with_reducible ((repeat (first | exact it_nil | (apply it_na) | (apply it_ca) | (apply it_aa) | (apply it_cons) | (apply it_app))); (try exact it_last))) ?_ | refine peelN hnA (by with_reducible ((repeat (first | exact it_nil | (apply it_na) | (apply it_ca) | (apply it_aa) | (apply it_cons) | (apply it_app))); (try exact it_last))) ?_ | refine peelR hnA (by with_reducible ((repeat (first | exact it_nil | (apply it_na) | (apply it_ca) | (apply it_aa) | (apply it_cons) | (apply it_app))); (try exact it_last))) ?_); (repeat (intro hq9)); refine Past.mk ?_)
  have hpvl : pv.length ≤ 8 := by rw [hpi.length]; exact hpl
  have hdvl : dv.length ≤ 8 := by rw [hdi.length]; exact hpl
  have hpa' := hl0 _ hpa
  have hdu' := hl0 _ hdu
  try k_fold
  k_steps
  try dsimp only [List.nil_append, List.cons_append, List.append_nil]
  try k_fold
  k_dflt (refine' Does.use3 (chain_does w ba bd co ro ch kn pa x ar ta nl tn cv cc okn pv pc ds cs.length es l0 _ ?gl ?g1 ?g2 hpi.is hpl hbs knl ?g5) ?P1 ?P2 ?P3 ?uB ?uF ?uX ?uN ?un ?uT ?uk ?uL ?ud ?uu ?_; (case uN => k_asm); (case P1 => allgen_close2_more); (case P2 => allgen_close2_more); (case P3 => allgen_close2_more); (case uB => k_asm); (case uF => k_asm); (case uX => k_asm); (case un => first | assumption | kat_tups); (case uT => k_asm); (case uk => rfl); (case uL => rfl); (case ud => ktr_room); (case uu => tlg_ne); (case gl => intro p9 hp9; replace hp9 := hl0 _ hp9; k_mem); (case g1 => k_mem); (case g2 => k_mem); (case g5 => omega)); intro r' chg' add' h' tk' F' N' nod' young' post'
  refine with_goal fun X79 hX79 => ?_
  refine ex_6 (post') ?_
  (try clear post')
  intro t9 nl2 tn2 cv2 cc2 okn2 q9o
  refine an_3 q9o ?_
  clear q9o
  intro r9q
  subst r9q
  intro r9q
  subst r9q
  intro S2
  refine hX79 ?_
  simp only [List.cons_append, List.nil_append] at N' nod'
  dsimp only [bDict] at N'
  have N3 : News h₀ L h' ((fa, listOf us.toArray c) :: (bd, bDict x ar ta co ro ch kn nl2 tn2) :: (ch, listOf cv2.toArray cc2) :: (kn, okn2) :: (fo, ofo) :: (L + 1 + 1 + 1, oS) :: (L + 1 + 1 + 1 + 1, oP) :: (L + 1 + 1 + 1 + 1 + 1, oW) :: (add' ++ rest)) := kst_newsOf N' (by (first | exact fun p hp => hp | ((repeat' (first | refine fa_app ?_ ?_ | refine fa_cons ?_ ?_ | refine List.forall_mem_append.mpr ⟨?_, ?_⟩ | refine List.forall_mem_cons.mpr ⟨?_, ?_⟩)) <;> (first | exact List.forall_mem_nil _ | (intro p9 hp9; kp_flats) | kp_flats))))
  have nod3 : Nod ((fa, listOf us.toArray c) :: (bd, bDict x ar ta co ro ch kn nl2 tn2) :: (ch, listOf cv2.toArray cc2) :: (kn, okn2) :: (fo, ofo) :: (L + 1 + 1 + 1, oS) :: (L + 1 + 1 + 1 + 1, oP) :: (L + 1 + 1 + 1 + 1 + 1, oW) :: (add' ++ rest)) := by (first | assumption | (refine nod_of_count (by assumption) (fun a9 => ?_); (try simp only [List.cons_append, List.nil_append, List.map_append, List.map_cons, List.map_nil, List.count_append, List.count_cons, List.count_nil]); omega))
  clear N' nod' N hnod young'
  k_steps
  try dsimp only [List.nil_append, List.cons_append, List.append_nil]
  try k_fold
  k_dflt (refine' Does.use1 (fits_does w du fo _ t9 dv dn ds cs.length t1 ofo es l0 _ ?gl hdu hdi hpl htd hbs.labels fol ?g5 m4 rfl) ?P1 ?uB ?uF ?uX ?uN ?un ?uT ?uk ?uL ?ud ?uu ?_; (case uN => k_asm); (case P1 => allgen_close2_more); (case uB => k_asm); (case uF => k_asm); (case uX => k_asm); (case un => first | assumption | kat_tups); (case uT => k_asm); (case uk => rfl); (case uL => rfl); (case ud => ktr_room); (case uu => tlg_ne); (case gl => intro p9 hp9; replace hp9 := hl0 _ hp9; k_mem); (case g5 => omega)); intro r' chg' add' h' tk' F' N' nod' young' post'
  refine with_goal fun X79 hX79 => ?_
  refine ex_1 (post') ?_
  (try clear post')
  intro ofo2 q9o
  refine an_4 q9o ?_
  clear q9o
  intro r9q
  subst r9q
  intro r9q
  subst r9q
  intro r9q
  subst r9q
  intro T2
  refine hX79 ?_
  simp only [List.cons_append, List.nil_append] at N' nod'
  dsimp only [bDict] at N'
  have hnA := nodA.mp nod'
  ((first | refine peelA hnA (by with_reducible ((repeat (first | exact it_nil | (apply it_na) | (apply it_ca) | (apply it_aa) | (apply it_cons) | (apply it_app))); (try exact it_last))) ?_ | refine peelN hnA (by with_reducible ((repeat (first | exact it_nil | (apply it_na) | (apply it_ca) | (apply it_aa) | (apply it_cons) | (apply it_app))); (try exact it_last))) ?_ | refine peelR hnA (by with_reducible ((repeat (first | exact it_nil | (apply it_na) | (apply it_ca) | (apply it_aa) | (apply it_cons) | (apply it_app))); (try exact it_last))) ?_); (repeat (intro hq9)); refine Past.mk ?_)
  k_steps
  rename News h₀ L _ _ => kN
  rename Fr h₀ L _ _ => kF
  refine' hret _ ⟨us, c, nl2, tn2, cv2, cc2, okn2, ofo2, oS, oP, oW, (chainA cs.length es ds).2⟩ ((_, _) :: add') _ _ kF ?hm ?hN ?hno ⟨hfig, S2.mono ?sb, T2.mono ?st, chainA_good hgood hpl, ⟨xS, cS⟩, ⟨xP, cP⟩, ⟨xW, cW⟩⟩ ?hl ?hp
  case hN =>
    refine kst_newsOf kN ?_
    (first | exact fun p hp => hp | ((repeat' (first | refine fa_app ?_ ?_ | refine fa_cons ?_ ?_ | refine List.forall_mem_append.mpr ⟨?_, ?_⟩ | refine List.forall_mem_cons.mpr ⟨?_, ?_⟩)) <;> (first | exact List.forall_mem_nil _ | (intro p9 hp9; kp_flats) | kp_flats)))
  case hno => kat_tups
  case sb => intro p hp; exact List.mem_cons_of_mem _ hp
  case st => intro p hp; exact List.mem_append_right _ hp
  case hl => exact Nat.le_trans (chainA_len _ _ _) (by omega)
  case hp =>
    refine' ⟨pa, pv, pc, _, dv, _, rfl, rfl, ?p1, ?p2, hpi, hdi⟩
    case p1 => exact List.mem_append_right _ hpa
    case p2 => exact List.mem_cons_self
  case hm => 
    intro z hz
    (first | ((repeat (first | with_reducible rfl | with_reducible assumption | refine kp_st (by with_reducible assumption) ?_ | refine kp_set (by exact kp_con hz (by ((repeat (with_reducible_and_instances first | exact List.Mem.head _ | refine List.Mem.tail _ ?_)); (first | done | fail "open")))) ?_ | refine kp_same (by assumption) ?_ | exact rfl)); done) | ((repeat' split) <;> first | rfl | (rename_i e9; subst e9; first | assumption | (symm; assumption) | (exfalso; revert hz; simp)) | (rename_i e9 _; subst e9; first | (symm; assumption) | (exfalso; revert hz; simp))))

end
section
theorem offWay3 : True := by
  w_top off
  trivial

local macro_rules | `(tactic| walk_at "call type:list") => `(tactic| (k_here; (with_reducible show wpAny _ _ (call (Value.type _) [Value.ref _]) _ _ _); k_dflt (refine' kup_listOfT ?F ?N ?b ?e ?_ ?z; (case F => k_asm); (case N => k_asm); (case b => k_mem); (case e => exact rfl); (case z => (simp only [sizeLine_eq, List.size_toArray, List.toList_toArray]; omega))); intro D' c' h' F' N' l1; (try k_lt l1); (try k_sweep)))
local macro_rules | `(tactic| walk_at "call type:list") => `(tactic| (k_here; (with_reducible show wpAny _ _ (call (Value.type _) [Value.ref _]) _ _ _); k_dflt (refine' kup_listOf ?F ?N ?b ?e ?_ ?z; (case F => k_asm); (case N => k_asm); (case b => k_mem); (case e => exact rfl); (case z => (simp only [sizeLine_eq, List.size_toArray, List.toList_toArray]; omega))); intro D' c' h' F' N' l1; (try k_lt l1); (try k_sweep)))
local macro_rules | `(tactic| walk_at "pyIter ref") => `(tactic| (k_here; (with_reducible show wpAny _ _ (pyIter (Value.ref _)) _ _ _); refine Held.out ?_))
local macro_rules | `(tactic| walk_at "eval ListComp") => `(tactic| (k_here; k_dflt (refine LCt.ListComp_T (F₀ := by k_asm) (by with_unfolding_all rfl) (by decide) (by rfl) (by decide) (by rfl) ?_)))
local macro_rules | `(tactic| walk_at "CompSrcT") => `(tactic| (k_here; refine Held.out ?_))

theorem var_at {h₀ h : Heap} {L a : Addr} {news : Led} {t : Tok} {n : Nat} (N : News h₀ L h news) (hm : (a, ({ cls := .type "tuple", data := .seq #[.str (Str.ofString "var") t] n } : Obj)) ∈ news) : KeyAt h (.ref a) .var :=
  KeyIn.at (l := news) (.tuple (vs := [.str (Str.ofString "var") t]) hm (.cons (.str _ _) .nil)) N fun _ h => h
theorem key_ref {l : Led} {v : Value} {k : Key} (h : KeyIn l v k) : ∃ a, v = .ref a := by
  obtain ⟨ds, e, _⟩ := key_tag (k := k)
  obtain ⟨a, e2, _⟩ := dat_tup (l := l) (v := v) (ds := ds) (e ▸ h)
  exact ⟨a, e2⟩

/-- the law's own row and the builder's -/
def Ready (ds : List Int) (m : Str → Option Value) (l : Led) : Prop :=
  ∃ pa pv pc du dv dn, m (Str.ofString "places") = some (.ref pa) ∧ m (Str.ofString "due") = some (.ref du) ∧ (pa, listOf pv.toArray pc) ∈ l ∧ (du, tupOf dv dn) ∈ l ∧ Ints pv ds ∧ Ints dv ds

theorem way3 (w : World) (K : LK) (S : LS) (l0 rest : Led) (pa : Addr) (pv : List Value) (pc : Nat) (ps : List Int)
    (hpa : (pa, listOf pv.toArray pc) ∈ l0) (hpi : Ints pv ps) (hpl : ps.length ≤ 8) (hin : ∀ p ∈ ps, 0 ≤ p ∧ p < K.cs.length) :
    Piece w (fun b => selIf 1 (selElse 3 (selFor 8 b))) K S l0 rest [Str.ofString "due", Str.ofString "places"]
      [(Str.ofString "builder", .ref K.ba), (Str.ofString "places", .ref pa)]
      (fun m' S' l => S' = S ∧ Ready (varA K.cs ps) m' l) := by
  obtain ⟨fa, ka, co, ba, bd, ro, ch, kn, fo, kv, cdv, kc, cdn, cs, oF, oK, x, ar, ta⟩ := K
  obtain ⟨us, c, nl, tn, cv, cc, okn, ofo, oS, oP, oW, es⟩ := S
  unfold Piece
  intro name qual params body scope dV kV doc pm cdv9 ct oc an od osl ho
  refine fn_use ho (by exact rfl) ?_
  clear ho
  intro ho
  k_fill
  intro dp un gd outer A₀ base h₀ L f cd m s mean mg mb Q E _ B F X N hnod hl0 W O T hd hu hnm hret
  refine LW.use W ?_
  intro oFm oFd oKm oKd kam hkeys com cods inst m1 m4 knl fol
  refine SOK.use O ?_
  intro hfig hbs htd hgood xS cS xP cP xW cW
  try dsimp only at *
  replace oFm := hl0 _ oFm
  replace oKm := hl0 _ oKm
  replace kam := hl0 _ kam
  replace com := hl0 _ com
  replace inst := hl0 _ inst
  have hkeys' := All2.mono (fun _ _ q => KeyIn.mono hl0 q) hkeys
  have cods' := CodsAre.mono cods hl0
  have hn1 := hnm _ List.mem_cons_self
  have hn2 := hnm _ (List.mem_cons_of_mem _ List.mem_cons_self)
  dsimp only at hn1 hn2
  replace F := fr_named F hnm
  try dsimp only [withN] at F
  conv => enter [3, 1]; whnf
  dsimp only [stLed, List.cons_append, List.nil_append] at N hnod
  have hnA := nodA.mp hnod
  ((first | refine peelA hnA (by with_reducible ((repeat (first | exact it_nil | (apply it_na) | (apply it_ca) | (apply it_aa) | (apply it_cons) | (apply it_app))); (try exact it_last))) ?_ | refine peelN hnA (by with_reducible ((repeat (first | exact it_nil | (apply it_na) | (apply it_ca) | (apply it_aa) | (apply it_cons) | (apply it_app))); (try exact it_last))) ?_ | refine peelR hnA (by with_reducible ((repeat (first | exact it_nil | (apply it_na) | (apply it_ca) | (apply it_aa) | (apply it_cons) | (apply it_app))); (try exact it_last))) ?_); (repeat (intro hq9)); refine Past.mk ?_)
  have hpvl : pv.length ≤ 8 := by rw [hpi.length]; exact hpl
  have hpa' := hl0 _ hpa
  try k_fold
  k_steps
  refine ⟨?_⟩
  refine compT_list0 (vs := pv) (k := pc) (fun i ys => Ints ys (varA cs (ps.take i))) rfl (by k_asm) (by k_asm) hnod ?hm (by omega) ?rj ?turn ?fin
  case hm => k_mem
  case rj => exact Ints.nil
  case turn =>
    intro i v ys I oI C oC D m₂ h tk E' hi hv hJ hC hx F₁ N₁ hn₁
    refine with_goal fun X79 hX79 => ?_
    refine ex_2 (hpi.get hv) ?_
    intro p t q9o
    refine an_2 q9o ?_
    clear q9o
    intro hpp
    intro r9q
    subst r9q
    refine hX79 ?_
    refine an_2 (hin p (List.mem_of_getElem? hpp)) ?_
    intro hp0 hp1
    obtain ⟨cd, hcd⟩ : ∃ cd, cs[p.toNat]? = some cd := ⟨cs[p.toNat]'(by omega), List.getElem?_eq_getElem (by omega)⟩
    have hck : (cs.map (·.key))[p.toNat]? = some cd.key := by rw [List.getElem?_map, hcd]; rfl
    refine ex_1 (hkeys'.get hck) ?_
    intro vk q9o
    refine an_2 q9o ?_
    clear q9o
    intro hvk hki
    refine ex_1 (key_ref hki) ?_
    intro kb
    intro r9q
    subst r9q
    have hko : keyOf cs p = cd.key := by unfold keyOf; rw [hcd]; rfl
    have hvf : varA cs (ps.take (i + 1)) = varA cs (ps.take i) ++ if decide (cd.key = .var) then [p] else [] := by
      unfold varA
      rw [filter_take hpp, hko]
    k_steps
    (refine' eq_keyAt (KeyIn.at hki (by k_asm) (by (first | exact fun p hp => hp | ((repeat' (first | refine fa_app ?_ ?_ | refine fa_cons ?_ ?_ | refine List.forall_mem_append.mpr ⟨?_, ?_⟩ | refine List.forall_mem_cons.mpr ⟨?_, ?_⟩)) <;> (first | exact List.forall_mem_nil _ | (intro p9 hp9; kp_flats) | kp_flats))))) (var_at ?N ?m) ?u ?_; (case N => k_asm); (case m => k_mem); (case u => tlg_ne))
    k_steps
    · rename _ = Key.var => hy
      refine CEnd.intro _ _ (by k_asm) (by k_asm) (by k_sub) hn₁ ⟨rfl, ?_⟩
      rw [hvf, if_pos (decide_eq_true hy)]
      exact hJ.append (.one p t)
    · rename ¬ (_ = Key.var) => hy
      refine CEnd.intro _ _ (by k_asm) (by k_asm) (by k_sub) hn₁ ⟨rfl, ?_⟩
      rw [hvf, if_neg (by simpa using hy), List.append_nil]
      exact hJ
  case fin =>
    intro ys D h tk hJ F₁ N₁ hn₁
    try dsimp only
    rw [List.take_of_length_le (Nat.le_of_eq hpi.length.symm)] at hJ
    have hyl : ys.length ≤ 8 := by rw [hJ.length]; exact Nat.le_trans (List.length_filter_le _ _) hpl
    have hnD := (nodA.mp hn₁).1
    ((first | refine peelA hnD (by with_reducible ((repeat (first | exact it_nil | (apply it_na) | (apply it_ca) | (apply it_aa) | (apply it_cons) | (apply it_app))); (try exact it_last))) ?_ | refine peelN hnD (by with_reducible ((repeat (first | exact it_nil | (apply it_na) | (apply it_ca) | (apply it_aa) | (apply it_cons) | (apply it_app))); (try exact it_last))) ?_ | refine peelR hnD (by with_reducible ((repeat (first | exact it_nil | (apply it_na) | (apply it_ca) | (apply it_aa) | (apply it_cons) | (apply it_app))); (try exact it_last))) ?_); (repeat (intro hq9)); refine Past.mk ?_)
    k_steps
    try simp only [List.toList_toArray] at *
    try dsimp only [List.nil_append, List.cons_append, List.append_nil]
    try k_fold
    k_dflt (refine' Does.use0 (variable_places_does w ba bd co ro ch kn pa x ar ta nl tn cdv cdn cs pv pc ps _ ?h1 ?h2 ?h3 ?h4 ?h5 hpi hpl hin m4) ?uB ?uF ?uX ?uN ?un ?uT ?uk ?uL ?ud ?uu ?_; (case uN => k_asm); (case uB => k_asm); (case uF => k_asm); (case uX => k_asm); (case un => first | assumption | kat_tups); (case uT => k_asm); (case uk => rfl); (case uL => rfl); (case ud => ktr_room); (case uu => tlg_ne); (case h1 => k_mem); (case h2 => k_mem); (case h3 => k_mem); (case h4 => exact CodsAre.mono cods' (by (first | exact fun p hp => hp | ((repeat' (first | refine fa_app ?_ ?_ | refine fa_cons ?_ ?_ | refine List.forall_mem_append.mpr ⟨?_, ?_⟩ | refine List.forall_mem_cons.mpr ⟨?_, ?_⟩)) <;> (first | exact List.forall_mem_nil _ | (intro p9 hp9; kp_flats) | kp_flats))))); (case h5 => k_mem)); intro r' chg' add' h' tk' F' N' nod' young' post'
    refine with_goal fun X79 hX79 => ?_
    refine ex_3 (post') ?_
    (try clear post')
    intro D2 mv mc q9o
    refine an_4 q9o ?_
    clear q9o
    intro r9q
    subst r9q
    intro r9q
    subst r9q
    intro r9q
    subst r9q
    intro hmi
    refine hX79 ?_
    simp only [List.cons_append, List.nil_append] at N' nod'
    k_steps
    rename News h₀ L _ _ => kN
    rename Fr h₀ L _ _ => kF
    refine' hret _ ⟨us, c, nl, tn, cv, cc, okn, ofo, oS, oP, oW, es⟩ [(D2, listOf mv.toArray mc), (?T, tupOf ys ?n), (D, LCg.lst ys)] _ _ kF ?hm ?hN ?hno ⟨hfig, hbs.mono ?sb, htd.mono ?sb, hgood, ⟨xS, cS⟩, ⟨xP, cP⟩, ⟨xW, cW⟩⟩ ?hl ⟨rfl, D2, mv, mc, ?T, ys, ?n, rfl, rfl, ?p1, ?p2, hmi, hJ⟩
    case hN => exact kst_newsOf kN (by (first | exact fun p hp => hp | ((repeat' (first | refine fa_app ?_ ?_ | refine fa_cons ?_ ?_ | refine List.forall_mem_append.mpr ⟨?_, ?_⟩ | refine List.forall_mem_cons.mpr ⟨?_, ?_⟩)) <;> (first | exact List.forall_mem_nil _ | (intro p9 hp9; kp_flats) | kp_flats))))
    case hno => (first | assumption | (refine nod_of_count (by assumption) (fun a9 => ?_); (try simp only [List.cons_append, List.nil_append, List.map_append, List.map_cons, List.map_nil, List.count_append, List.count_cons, List.count_nil]); omega))
    case sb => intro p hp; exact List.mem_append_right _ hp
    case hl => exact Nat.le_add_right _ _
    case p1 => exact List.mem_cons_self
    case p2 => exact List.mem_cons_of_mem _ List.mem_cons_self
    case hm =>
      intro z hz
      (first | ((repeat (first | with_reducible rfl | with_reducible assumption | refine kp_st (by with_reducible assumption) ?_ | refine kp_set (by exact kp_con hz (by ((repeat (with_reducible_and_instances first | exact List.Mem.head _ | refine List.Mem.tail _ ?_)); (first | done | fail "open")))) ?_ | refine kp_same (by assumption) ?_ | exact rfl)); done) | ((repeat' split) <;> first | rfl | (rename_i e9; subst e9; first | assumption | (symm; assumption) | (exfalso; revert hz; simp)) | (rename_i e9 _; subst e9; first | (symm; assumption) | (exfalso; revert hz; simp))))

end
section
theorem offWay4 : True := by
  w_top off
  trivial
local macro_rules | `(tactic| walk_at "zz") => `(tactic| skip)

local macro_rules | `(tactic| walk_at "call type:list") => `(tactic| (k_here; (with_reducible show wpAny _ _ (call (Value.type _) [Value.ref _]) _ _ _); k_dflt (refine' kup_listOfT ?F ?N ?b ?e ?_ ?z; (case F => k_asm); (case N => k_asm); (case b => k_mem); (case e => exact rfl); (case z => (simp only [sizeLine_eq, List.size_toArray, List.toList_toArray]; omega))); intro D' c' h' F' N' l1; (try k_lt l1); (try k_sweep)))
local macro_rules | `(tactic| walk_at "call type:list") => `(tactic| (k_here; (with_reducible show wpAny _ _ (call (Value.type _) [Value.ref _]) _ _ _); k_dflt (refine' kup_listOf ?F ?N ?b ?e ?_ ?z; (case F => k_asm); (case N => k_asm); (case b => k_mem); (case e => exact rfl); (case z => (simp only [sizeLine_eq, List.size_toArray, List.toList_toArray]; omega))); intro D' c' h' F' N' l1; (try k_lt l1); (try k_sweep)))
local macro_rules | `(tactic| walk_at "pyIter ref") => `(tactic| (k_here; (with_reducible show wpAny _ _ (pyIter (Value.ref _)) _ _ _); refine Held.out ?_))
local macro_rules | `(tactic| walk_at "eval ListComp") => `(tactic| (k_here; k_dflt (refine LCt.ListComp_T (F₀ := by k_asm) (by with_unfolding_all rfl) (by decide) (by rfl) (by decide) (by rfl) ?_)))
local macro_rules | `(tactic| walk_at "CompSrcT") => `(tactic| (k_here; refine Held.out ?_))

theorem way4 (w : World) (K : LK) (S : LS) (l0 rest : Led) (pa : Addr) (pv : List Value) (pc : Nat) (ps : List Int)
    (hpa : (pa, listOf pv.toArray pc) ∈ l0) (hpi : Ints pv ps) (hpl : ps.length ≤ 8) (hin : ∀ p ∈ ps, 0 ≤ p ∧ p < K.cs.length) :
    Piece w (fun b => selIf 2 (selElse 3 (selFor 8 b))) K S l0 rest [Str.ofString "due", Str.ofString "places"]
      [(Str.ofString "builder", .ref K.ba), (Str.ofString "places", .ref pa)]
      (fun m' S' l => S'.es = S.es ∧ ∃ k, Ready (matchA K.cs ps k) m' l) := by
  obtain ⟨fa, ka, co, ba, bd, ro, ch, kn, fo, kv, cdv, kc, cdn, cs, oF, oK, x, ar, ta⟩ := K
  obtain ⟨us, c, nl, tn, cv, cc, okn, ofo, oS, oP, oW, es⟩ := S
  unfold Piece
  intro name qual params body scope dV kV doc pm cdv9 ct oc an od osl ho
  refine fn_use ho (by exact rfl) ?_
  clear ho
  intro ho
  k_fill
  intro dp un gd outer A₀ base h₀ L f cd m s mean mg mb Q E _ B F X N hnod hl0 W O T hd hu hnm hret
  refine LW.use W ?_
  intro oFm oFd oKm oKd kam hkeys com cods inst m1 m4 knl fol
  refine SOK.use O ?_
  intro hfig hbs htd hgood xS cS xP cP xW cW
  try dsimp only at *
  replace oFm := hl0 _ oFm
  replace oKm := hl0 _ oKm
  replace kam := hl0 _ kam
  replace com := hl0 _ com
  replace inst := hl0 _ inst
  have hkeys' := All2.mono (fun _ _ q => KeyIn.mono hl0 q) hkeys
  have cods' := CodsAre.mono cods hl0
  have hn1 := hnm _ List.mem_cons_self
  have hn2 := hnm _ (List.mem_cons_of_mem _ List.mem_cons_self)
  dsimp only at hn1 hn2
  replace F := fr_named F hnm
  try dsimp only [withN] at F
  conv => enter [3, 1]; whnf
  dsimp only [stLed, List.cons_append, List.nil_append] at N hnod
  have hnA := nodA.mp hnod
  ((first | refine peelA hnA (by with_reducible ((repeat (first | exact it_nil | (apply it_na) | (apply it_ca) | (apply it_aa) | (apply it_cons) | (apply it_app))); (try exact it_last))) ?_ | refine peelN hnA (by with_reducible ((repeat (first | exact it_nil | (apply it_na) | (apply it_ca) | (apply it_aa) | (apply it_cons) | (apply it_app))); (try exact it_last))) ?_ | refine peelR hnA (by with_reducible ((repeat (first | exact it_nil | (apply it_na) | (apply it_ca) | (apply it_aa) | (apply it_cons) | (apply it_app))); (try exact it_last))) ?_); (repeat (intro hq9)); refine Past.mk ?_)
  have hpvl : pv.length ≤ 8 := by rw [hpi.length]; exact hpl
  have hpa' := hl0 _ hpa
  try k_fold
  k_steps
  try dsimp only [List.nil_append, List.cons_append, List.append_nil]
  try k_fold
  k_dflt (refine' Does.use1 (key_drawn_does w fa us c _ hfig) ?P1 ?uB ?uF ?uX ?uN ?un ?uT ?uk ?uL ?ud ?uu ?_; (case uN => k_asm); (case P1 => allgen_close2_more); (case uB => k_asm); (case uF => k_asm); (case uX => k_asm); (case un => first | assumption | kat_tups); (case uT => k_asm); (case uk => rfl); (case uL => rfl); (case ud => ktr_room); (case uu => tlg_ne)); intro r' chg' add' h' tk' F' N' nod' young' post'
  refine with_goal fun X79 hX79 => ?_
  refine ex_4 (post') ?_
  (try clear post')
  intro wa k us2 c2 q9o
  refine an_4 q9o ?_
  clear q9o
  intro r9q
  subst r9q
  intro r9q
  subst r9q
  intro hfig2
  intro hki
  refine hX79 ?_
  simp only [List.cons_append, List.nil_append] at N' nod'
  have N3 : News h₀ L h' ((fa, listOf us2.toArray c2) :: (bd, bDict x ar ta co ro ch kn nl tn) :: (ch, listOf cv.toArray cc) :: (kn, okn) :: (fo, ofo) :: (L + 1 + 1 + 1, oS) :: (L + 1 + 1 + 1 + 1, oP) :: (L + 1 + 1 + 1 + 1 + 1, oW) :: (add' ++ rest)) := kst_newsOf N' (by (first | exact fun p hp => hp | ((repeat' (first | refine fa_app ?_ ?_ | refine fa_cons ?_ ?_ | refine List.forall_mem_append.mpr ⟨?_, ?_⟩ | refine List.forall_mem_cons.mpr ⟨?_, ?_⟩)) <;> (first | exact List.forall_mem_nil _ | (intro p9 hp9; kp_flats) | kp_flats))))
  have nod3 : Nod ((fa, listOf us2.toArray c2) :: (bd, bDict x ar ta co ro ch kn nl tn) :: (ch, listOf cv.toArray cc) :: (kn, okn) :: (fo, ofo) :: (L + 1 + 1 + 1, oS) :: (L + 1 + 1 + 1 + 1, oP) :: (L + 1 + 1 + 1 + 1 + 1, oW) :: (add' ++ rest)) := by (first | assumption | (refine nod_of_count (by assumption) (fun a9 => ?_); (try simp only [List.cons_append, List.nil_append, List.map_append, List.map_cons, List.map_nil, List.count_append, List.count_cons, List.count_nil]); omega))
  clear N' nod' N hnod young'
  dsimp only [bDict] at N3 nod3
  have hnB := nodA.mp nod3
  ((first | refine peelA hnB (by with_reducible ((repeat (first | exact it_nil | (apply it_na) | (apply it_ca) | (apply it_aa) | (apply it_cons) | (apply it_app))); (try exact it_last))) ?_ | refine peelN hnB (by with_reducible ((repeat (first | exact it_nil | (apply it_na) | (apply it_ca) | (apply it_aa) | (apply it_cons) | (apply it_app))); (try exact it_last))) ?_ | refine peelR hnB (by with_reducible ((repeat (first | exact it_nil | (apply it_na) | (apply it_ca) | (apply it_aa) | (apply it_cons) | (apply it_app))); (try exact it_last))) ?_); (repeat (intro hq9)); refine Past.mk ?_)
  k_steps
  rename _ = Data.cell (some (Value.ref wa)) => hcw
  rename Obj => oW2
  refine ⟨?_⟩
  refine compT_list0 (vs := pv) (k := pc) (fun i ys => Ints ys (matchA cs (ps.take i) k)) rfl (by k_asm) (by k_asm) ?un ?hm (by omega) ?rj ?turn ?fin
  case un => (first | assumption | (refine nod_of_count (by assumption) (fun a9 => ?_); (try simp only [List.cons_append, List.nil_append, List.map_append, List.map_cons, List.map_nil, List.count_append, List.count_cons, List.count_nil]); omega))
  case hm => k_mem
  case rj => exact Ints.nil
  case turn =>
    intro i v ys I oI C oC D m₂ h tk E' hi hv hJ hC hx F₁ N₁ hn₁
    refine with_goal fun X79 hX79 => ?_
    refine ex_2 (hpi.get hv) ?_
    intro p t q9o
    refine an_2 q9o ?_
    clear q9o
    intro hpp
    intro r9q
    subst r9q
    refine hX79 ?_
    refine an_2 (hin p (List.mem_of_getElem? hpp)) ?_
    intro hp0 hp1
    obtain ⟨cd, hcd⟩ : ∃ cd, cs[p.toNat]? = some cd := ⟨cs[p.toNat]'(by omega), List.getElem?_eq_getElem (by omega)⟩
    have hck : (cs.map (·.key))[p.toNat]? = some cd.key := by rw [List.getElem?_map, hcd]; rfl
    refine ex_1 (hkeys'.get hck) ?_
    intro vk q9o
    refine an_2 q9o ?_
    clear q9o
    intro hvk hkj
    refine ex_1 (key_ref hkj) ?_
    intro kb
    intro r9q
    subst r9q
    have hko : keyOf cs p = cd.key := by unfold keyOf; rw [hcd]; rfl
    have hvf : matchA cs (ps.take (i + 1)) k = matchA cs (ps.take i) k ++ if decide (cd.key = .var ∨ k = .var ∨ cd.key = k) then [p] else [] := by
      unfold matchA
      rw [filter_take hpp, hko]
    k_steps
    (refine' eq_keyAt (KeyIn.at hki (by k_asm) (by (first | exact fun p hp => hp | ((repeat' (first | refine fa_app ?_ ?_ | refine fa_cons ?_ ?_ | refine List.forall_mem_append.mpr ⟨?_, ?_⟩ | refine List.forall_mem_cons.mpr ⟨?_, ?_⟩)) <;> (first | exact List.forall_mem_nil _ | (intro p9 hp9; kp_flats) | kp_flats))))) (var_at ?N ?m) ?u ?_; (case N => k_asm); (case m => k_mem); (case u => tlg_ne))
    k_steps
    · rename _ = Key.var => hy
      refine CEnd.intro _ _ (by k_asm) (by k_asm) (by k_sub) hn₁ ⟨rfl, ?_⟩
      rw [hvf, if_pos (decide_eq_true (.inr (.inl hy)))]
      exact hJ.append (.one p t)
    · rename ¬ (_ = Key.var) => hy
      rename News _ _ _ _ => kN
      (refine' in_keys (ks := [.var, k]) kN ?ma (.cons (.tuple ?mb (.cons (.str _ _) .nil)) (.cons (KeyIn.mono ?sa hki) .nil)) (fun _ h => h) hkj ?sb ?u ?_; (case ma => k_mem); (case mb => k_mem); (case sa => (first | exact fun p hp => hp | ((repeat' (first | refine fa_app ?_ ?_ | refine fa_cons ?_ ?_ | refine List.forall_mem_append.mpr ⟨?_, ?_⟩ | refine List.forall_mem_cons.mpr ⟨?_, ?_⟩)) <;> (first | exact List.forall_mem_nil _ | (intro p9 hp9; kp_flats) | kp_flats)))); (case sb => (first | exact fun p hp => hp | ((repeat' (first | refine fa_app ?_ ?_ | refine fa_cons ?_ ?_ | refine List.forall_mem_append.mpr ⟨?_, ?_⟩ | refine List.forall_mem_cons.mpr ⟨?_, ?_⟩)) <;> (first | exact List.forall_mem_nil _ | (intro p9 hp9; kp_flats) | kp_flats)))); (case u => tlg_ne))
      k_steps
      · rename _ ∈ [Key.var, k] => hz
        refine CEnd.intro _ _ (by k_asm) (by k_asm) (by k_sub) hn₁ ⟨rfl, ?_⟩
        have hq : cd.key = .var ∨ k = .var ∨ cd.key = k := by
          rcases List.mem_cons.mp hz with h | h
          · exact .inl h
          · exact .inr (.inr (List.mem_singleton.mp h))
        rw [hvf, if_pos (decide_eq_true hq)]
        exact hJ.append (.one p t)
      · rename ¬ (_ ∈ [Key.var, k]) => hz
        refine CEnd.intro _ _ (by k_asm) (by k_asm) (by k_sub) hn₁ ⟨rfl, ?_⟩
        have hq : ¬ (cd.key = .var ∨ k = .var ∨ cd.key = k) := by
          rintro (h | h | h)
          · exact hz (by simp [h])
          · exact hy h
          · exact hz (by simp [h])
        rw [hvf, if_neg (by simpa using hq), List.append_nil]
        exact hJ
  case fin =>
    intro ys D h tk hJ F₁ N₁ hn₁
    dsimp only
    rw [List.take_of_length_le (Nat.le_of_eq hpi.length.symm)] at hJ
    have hyl : ys.length ≤ 8 := by rw [hJ.length]; exact Nat.le_trans (List.length_filter_le _ _) hpl
    have hnD := (nodA.mp hn₁).1
    ((first | refine peelA hnD (by with_reducible ((repeat (first | exact it_nil | (apply it_na) | (apply it_ca) | (apply it_aa) | (apply it_cons) | (apply it_app))); (try exact it_last))) ?_ | refine peelN hnD (by with_reducible ((repeat (first | exact it_nil | (apply it_na) | (apply it_ca) | (apply it_aa) | (apply it_cons) | (apply it_app))); (try exact it_last))) ?_ | refine peelR hnD (by with_reducible ((repeat (first | exact it_nil | (apply it_na) | (apply it_ca) | (apply it_aa) | (apply it_cons) | (apply it_app))); (try exact it_last))) ?_); (repeat (intro hq9)); refine Past.mk ?_)
    k_steps
    try simp only [List.toList_toArray] at *
    try dsimp only [List.nil_append, List.cons_append, List.append_nil]
    try k_fold
    k_dflt (refine' Does.use0 (matching_places_does w ba bd co ro ch kn pa wa x ar ta nl tn cdv cdn cs pv pc ps k _ ?h1 ?h2 ?h3 ?h4 ?h5 hpi hpl hin m4 ?h6) ?uB ?uF ?uX ?uN ?un ?uT ?uk ?uL ?ud ?uu ?_; (case uN => k_asm); (case uB => k_asm); (case uF => k_asm); (case uX => k_asm); (case un => first | assumption | kat_tups); (case uT => k_asm); (case uk => rfl); (case uL => rfl); (case ud => ktr_room); (case uu => tlg_ne); (case h1 => k_mem); (case h2 => k_mem); (case h3 => k_mem); (case h4 => exact CodsAre.mono cods' (by (first | exact fun p hp => hp | ((repeat' (first | refine fa_app ?_ ?_ | refine fa_cons ?_ ?_ | refine List.forall_mem_append.mpr ⟨?_, ?_⟩ | refine List.forall_mem_cons.mpr ⟨?_, ?_⟩)) <;> (first | exact List.forall_mem_nil _ | (intro p9 hp9; kp_flats) | kp_flats))))); (case h5 => k_mem); (case h6 => exact KeyIn.mono (by (first | exact fun p hp => hp | ((repeat' (first | refine fa_app ?_ ?_ | refine fa_cons ?_ ?_ | refine List.forall_mem_append.mpr ⟨?_, ?_⟩ | refine List.forall_mem_cons.mpr ⟨?_, ?_⟩)) <;> (first | exact List.forall_mem_nil _ | (intro p9 hp9; kp_flats) | kp_flats)))) hki)); intro r' chg' add' h' tk' F' N' nod' young' post'
    refine with_goal fun X79 hX79 => ?_
    refine ex_3 (post') ?_
    (try clear post')
    intro D2 mv mc q9o
    refine an_4 q9o ?_
    clear q9o
    intro r9q
    subst r9q
    intro r9q
    subst r9q
    intro r9q
    subst r9q
    intro hmi
    refine hX79 ?_
    simp only [List.cons_append, List.nil_append] at N' nod'
    k_steps
    rename News h₀ L _ _ => kN
    rename Fr h₀ L _ _ => kF
    refine' hret _ ⟨us2, c2, nl, tn, cv, cc, okn, ofo, oS, oP, oW2, es⟩ ((D2, listOf mv.toArray mc) :: (?T, tupOf ys ?n) :: (D, LCg.lst ys) :: add') _ _ kF ?hm ?hN ?hno ⟨hfig2, hbs.mono ?sb, htd.mono ?sb, hgood, ⟨xS, cS⟩, ⟨xP, cP⟩, ⟨_, hcw⟩⟩ ?hl ⟨rfl, k, D2, mv, mc, ?T, ys, ?n, rfl, rfl, ?p1, ?p2, hmi, hJ⟩
    case hN => exact kst_newsOf kN (by (first | exact fun p hp => hp | ((repeat' (first | refine fa_app ?_ ?_ | refine fa_cons ?_ ?_ | refine List.forall_mem_append.mpr ⟨?_, ?_⟩ | refine List.forall_mem_cons.mpr ⟨?_, ?_⟩)) <;> (first | exact List.forall_mem_nil _ | (intro p9 hp9; kp_flats) | kp_flats))))
    case hno => (first | assumption | (refine nod_of_count (by assumption) (fun a9 => ?_); (try simp only [List.cons_append, List.nil_append, List.map_append, List.map_cons, List.map_nil, List.count_append, List.count_cons, List.count_nil]); omega))
    case sb => intro p hp; exact List.mem_append_right _ hp
    case hl => exact Nat.le_add_right _ _
    case p1 => exact List.mem_cons_self
    case p2 => exact List.mem_cons_of_mem _ List.mem_cons_self
    case hm =>
      intro z hz
      (first | ((repeat (first | with_reducible rfl | with_reducible assumption | refine kp_st (by with_reducible assumption) ?_ | refine kp_set (by exact kp_con hz (by ((repeat (with_reducible_and_instances first | exact List.Mem.head _ | refine List.Mem.tail _ ?_)); (first | done | fail "open")))) ?_ | refine kp_same (by assumption) ?_ | exact rfl)); done) | ((repeat' split) <;> first | rfl | (rename_i e9; subst e9; first | assumption | (symm; assumption) | (exfalso; revert hz; simp)) | (rename_i e9 _; subst e9; first | (symm; assumption) | (exfalso; revert hz; simp))))

end
section
theorem offWayB : True := by
  w_top off
  trivial
local macro_rules | `(tactic| walk_at "zz") => `(tactic| skip)

local macro_rules | `(tactic| walk_at "call type:list") => `(tactic| (k_here; (with_reducible show wpAny _ _ (call (Value.type _) [Value.ref _]) _ _ _); k_dflt (refine' kup_listOfT ?F ?N ?b ?e ?_ ?z; (case F => k_asm); (case N => k_asm); (case b => k_mem); (case e => exact rfl); (case z => (simp only [sizeLine_eq, List.size_toArray, List.toList_toArray]; omega))); intro D' c' h' F' N' l1; (try k_lt l1); (try k_sweep)))
local macro_rules | `(tactic| walk_at "call type:list") => `(tactic| (k_here; (with_reducible show wpAny _ _ (call (Value.type _) [Value.ref _]) _ _ _); k_dflt (refine' kup_listOf ?F ?N ?b ?e ?_ ?z; (case F => k_asm); (case N => k_asm); (case b => k_mem); (case e => exact rfl); (case z => (simp only [sizeLine_eq, List.size_toArray, List.toList_toArray]; omega))); intro D' c' h' F' N' l1; (try k_lt l1); (try k_sweep)))
local macro_rules | `(tactic| walk_at "pyIter ref") => `(tactic| (k_here; (with_reducible show wpAny _ _ (pyIter (Value.ref _)) _ _ _); refine Held.out ?_))
local macro_rules | `(tactic| walk_at "execs cons") => `(tactic| (k_here; (with_reducible show wpAny _ _ (execs (Stmt.Assign [Expr.Name _ _] (Expr.Call (Expr.Name _ _) [Expr.ListComp _ _ _ _] [] _) _ :: _) _) _ _ _); refine Held.out ?_))
local macro_rules | `(tactic| walk_at "execs cons") => `(tactic| (k_here; (with_reducible show wpAny _ _ (execs (Stmt.Assign [Expr.Name _ _] (Expr.Call (Expr.Name _ _) [Expr.Name _ _] [] _) _ :: Stmt.Assign [Expr.Name _ _] _ _ :: _) _) _ _ _); refine Held.out ?_))
local macro_rules | `(tactic| walk_at "execs cons") => `(tactic| (k_here; (with_reducible show wpAny _ _ (execs (Stmt.If (Expr.UnaryOp _ _ _) _ _ _ :: _) _) _ _ _); refine Held.out ?_))

theorem con_sub {a b : List Str} {z : Str} (hz : b.contains z = false) (h : ∀ x ∈ a, x ∈ b) : a.contains z = false := by
  rw [Bool.eq_false_iff] at hz ⊢
  exact fun h2 => hz (List.contains_iff_mem.mpr (h _ (List.contains_iff_mem.mp h2)))
theorem ne_con {b : List Str} {z x : Str} (hz : b.contains z = false) (h : x ∈ b) : z ≠ x := by
  rintro rfl
  rw [List.contains_iff_mem.mpr h] at hz
  cases hz

theorem wayB (w : World) (K : LK) (S : LS) (l0 rest : Led) (k : Int) (t t1 : Tok) (pa : Addr) (pv : List Value) (pc : Nat) (ps : List Int) (hk3 : k = 2 ∨ k = 3 ∨ k = 4)
    (hpa : (pa, listOf pv.toArray pc) ∈ l0) (hpi : Ints pv ps) (hpl : ps.length ≤ 8) (hin : ∀ p ∈ ps, 0 ≤ p ∧ p < K.cs.length) (hfew : S.es.length + 8 < 400) :
    Piece w (fun b => selElse 3 (selFor 8 b)) K S l0 rest [Str.ofString "due", Str.ofString "places", Str.ofString "kept"]
      [(Str.ofString "many", .int K.cs.length t1), (Str.ofString "builder", .ref K.ba), (Str.ofString "found", .ref K.fo), (Str.ofString "kind", .int k t), (Str.ofString "places", .ref pa)]
      (fun m' _ l => ∃ ds, SameInts ds m' l) := by
  unfold Piece
  intro name qual params body scope dV kV doc pm cdv9 ct oc an od osl ho
  refine fn_use ho (by exact rfl) ?_
  clear ho
  intro ho
  k_fill
  intro dp un gd outer A₀ base h₀ L f cd m s mean mg mb Q E _ B F X N hnod hl0 W O T hd hu hnm hret
  have hn1 := hnm _ List.mem_cons_self
  have hn2 := hnm _ (List.mem_cons_of_mem _ List.mem_cons_self)
  have hn3 := hnm _ (List.mem_cons_of_mem _ (List.mem_cons_of_mem _ List.mem_cons_self))
  have hn4 := hnm _ (List.mem_cons_of_mem _ (List.mem_cons_of_mem _ (List.mem_cons_of_mem _ List.mem_cons_self)))
  have hn5 := hnm _ (List.mem_cons_of_mem _ (List.mem_cons_of_mem _ (List.mem_cons_of_mem _ (List.mem_cons_of_mem _ List.mem_cons_self))))
  dsimp only at hn1 hn2 hn3 hn4 hn5
  replace F := fr_named F hnm
  try dsimp only [withN] at F
  conv => enter [3, 1]; whnf
  have hnA := nodA.mp hnod
  dsimp only [stLed, List.cons_append, List.nil_append] at N hnA
  ((first | refine peelA hnA (by with_reducible ((repeat (first | exact it_nil | (apply it_na) | (apply it_ca) | (apply it_aa) | (apply it_cons) | (apply it_app))); (try exact it_last))) ?_ | refine peelN hnA (by with_reducible ((repeat (first | exact it_nil | (apply it_na) | (apply it_ca) | (apply it_aa) | (apply it_cons) | (apply it_app))); (try exact it_last))) ?_ | refine peelR hnA (by with_reducible ((repeat (first | exact it_nil | (apply it_na) | (apply it_ca) | (apply it_aa) | (apply it_cons) | (apply it_app))); (try exact it_last))) ?_); (repeat (intro hq9)); refine Past.mk ?_)
  have hpvl : pv.length ≤ 8 := by rw [hpi.length]; exact hpl
  have hpa' := hl0 _ hpa
  try k_fold
  rcases hk3 with rfl | rfl | rfl
  · k_steps
    rename News h₀ L _ _ => kN
    rename Fr h₀ L _ _ => kF
    refine ⟨?_⟩
    try simp only [List.toList_toArray] at kN
    refine' tailB w K S ((?T, tupOf pv ?n) :: l0) ((?T, tupOf pv ?n) :: rest) t1 pa ?T pv pv pc ?n ps (List.mem_cons_of_mem _ hpa) List.mem_cons_self hpi hpi hpl hfew ho _ _ _ _ _ _ _ _ _ _ _ _ _ _ _ _ _ rfl B kF X ?hN ?hno (cons_sub hl0) (W.mono fun _ h => List.mem_cons_of_mem _ h) (O.mono fun _ h => List.mem_cons_of_mem _ h) (by k_asm) hd hu ?hnm ?hr
    case hnm => first | ((repeat (first | exact fr_nil | refine fr_cons (by rfl) ?_)); done) | (intro p hp; ((repeat (rcases List.mem_cons.mp hp with rfl | hp; (· rfl))); exact absurd hp List.not_mem_nil))
    case hN => exact kst_newsOf kN (by (first | exact fun p hp => hp | ((repeat' (first | refine fa_app ?_ ?_ | refine fa_cons ?_ ?_ | refine List.forall_mem_append.mpr ⟨?_, ?_⟩ | refine List.forall_mem_cons.mpr ⟨?_, ?_⟩)) <;> (first | exact List.forall_mem_nil _ | (intro p9 hp9; kp_flats) | kp_flats))))
    case hno => dsimp only [stLed, List.cons_append, List.nil_append, bDict]; kat_tups
    case hr =>
      intro m2 S2 add2 h2 tk2 F2 keep2 N2 nod2 O2 le2 P2
      refine' hret m2 S2 (add2 ++ [?pp]) h2 tk2 F2 ?hm ?hN ?hno ?hO le2 ?hP
      case hN => rw [List.append_assoc add2]; exact N2
      case hno => rw [List.append_assoc add2]; exact nod2
      case hO => rw [List.append_assoc]; exact O2
      case hP => rw [List.append_assoc]; exact ⟨_, P2⟩
      case hm =>
        intro z hz
        refine (keep2 z (kp_sub hz (by decide +kernel))).trans ?_
        (first | ((repeat (first | with_reducible rfl | with_reducible assumption | refine kp_st (by with_reducible assumption) ?_ | refine kp_set (by exact kp_con hz (by ((repeat (with_reducible_and_instances first | exact List.Mem.head _ | refine List.Mem.tail _ ?_)); (first | done | fail "open")))) ?_ | refine kp_same (by assumption) ?_ | exact rfl)); done) | ((repeat' split) <;> first | rfl | (rename_i e9; subst e9; first | assumption | (symm; assumption) | (exfalso; revert hz; simp)) | (rename_i e9 _; subst e9; first | (symm; assumption) | (exfalso; revert hz; simp))))
  · k_steps
    rename News h₀ L _ _ => kN
    rename Fr h₀ L _ _ => kF
    refine ⟨?_⟩
    try simp only [List.toList_toArray] at kN
    refine' way3 w K S ((?T2, tupOf pv ?n2) :: l0) ((?T2, tupOf pv ?n2) :: rest) pa pv pc ps (List.mem_cons_of_mem _ hpa) hpi hpl hin ho _ _ _ _ _ _ _ _ _ _ _ _ _ _ _ _ _ rfl B kF X ?hN ?hno (cons_sub hl0) (W.mono fun _ h => List.mem_cons_of_mem _ h) (O.mono fun _ h => List.mem_cons_of_mem _ h) (by k_asm) hd hu ?hnm ?hr
    case hnm => first | ((repeat (first | exact fr_nil | refine fr_cons (by rfl) ?_)); done) | (intro p hp; ((repeat (rcases List.mem_cons.mp hp with rfl | hp; (· rfl))); exact absurd hp List.not_mem_nil))
    case hN => exact kst_newsOf kN (by (first | exact fun p hp => hp | ((repeat' (first | refine fa_app ?_ ?_ | refine fa_cons ?_ ?_ | refine List.forall_mem_append.mpr ⟨?_, ?_⟩ | refine List.forall_mem_cons.mpr ⟨?_, ?_⟩)) <;> (first | exact List.forall_mem_nil _ | (intro p9 hp9; kp_flats) | kp_flats))))
    case hno => dsimp only [stLed, List.cons_append, List.nil_append, bDict]; kat_tups
    case hr =>
      intro m2 S2 add2 h2 tk2 F2 keep2 N2 nod2 O2 le2 P2
      obtain ⟨esS, P2⟩ := P2; replace esS : S2.es = S.es := by rw [esS]
      refine ex_6 (P2) ?_
      (try clear P2)
      intro pa2 pv2 pc2 du2 dv2 dn2 q9o
      refine an_6 q9o ?_
      clear q9o
      intro e1 e2 mp md ip id
      have g1 : m2 (Str.ofString "many") = some (.int K.cs.length t1) := (keep2 _ (by decide +kernel)).trans rfl
      have g2 : m2 (Str.ofString "builder") = some (.ref K.ba) := (keep2 _ (by decide +kernel)).trans rfl
      have g3 : m2 (Str.ofString "found") = some (.ref K.fo) := (keep2 _ (by decide +kernel)).trans rfl
      have g4 : m2 (Str.ofString "kind") = some (.int _ t) := (keep2 _ (by decide +kernel)).trans rfl
      have F3 := F2
      rw [frame_name e1, frame_name e2, frame_name g1, frame_name g2, frame_name g3, frame_name g4] at F3
      dsimp only at F3
      have N3 := N2
      have hnB := nodA.mp nod2
      dsimp only [stLed, List.cons_append, List.nil_append] at N3 hnB
      ((first | refine peelA hnB (by with_reducible ((repeat (first | exact it_nil | (apply it_na) | (apply it_ca) | (apply it_aa) | (apply it_cons) | (apply it_app))); (try exact it_last))) ?_ | refine peelN hnB (by with_reducible ((repeat (first | exact it_nil | (apply it_na) | (apply it_ca) | (apply it_aa) | (apply it_cons) | (apply it_app))); (try exact it_last))) ?_ | refine peelR hnB (by with_reducible ((repeat (first | exact it_nil | (apply it_na) | (apply it_ca) | (apply it_aa) | (apply it_cons) | (apply it_app))); (try exact it_last))) ?_); (repeat (intro hq9)); refine Past.mk ?_)
      k_steps
      rename Fr h₀ L _ _ => kF2
      refine ⟨?_⟩
      refine' tailB w K S2 (add2 ++ ((_, _) :: l0)) (add2 ++ ((_, _) :: rest)) t1 pa2 du2 pv2 dv2 pc2 dn2 _ mp md ip id ?dl ?few ho _ _ _ _ _ _ _ _ _ _ _ _ _ _ _ _ _ rfl B kF2 X N2 nod2 ?sb (W.mono ?sc) O2 (by k_asm) hd hu ?hnm ?hr
      case dl => exact Nat.le_trans (List.length_filter_le _ _) hpl
      case few => rw [esS]; exact hfew
      case sb =>
        intro p hp
        rcases List.mem_append.mp hp with hp | hp
        · exact List.mem_append_left _ hp
        · exact List.mem_append_right _ (cons_sub hl0 p hp)
      case sc => exact fun p hp => List.mem_append_right _ (List.mem_cons_of_mem _ hp)
      case hnm => first | ((repeat (first | exact fr_nil | refine fr_cons (by rfl) ?_)); done) | (intro p hp; ((repeat (rcases List.mem_cons.mp hp with rfl | hp; (· rfl))); exact absurd hp List.not_mem_nil))
      case hr =>
        intro m3 S3 add3 h3 tk3 F4 keep3 N4 nod4 O4 le4 P4
        rw [esS] at le4
        refine' hret m3 S3 (add3 ++ (add2 ++ [?pp2])) h3 tk3 F4 ?hm ?hN ?hno ?hO le4 ?hP
        case hN => rw [List.append_assoc add3, List.append_assoc add2]; exact N4
        case hno => rw [List.append_assoc add3, List.append_assoc add2]; exact nod4
        case hO => rw [List.append_assoc, List.append_assoc add2]; exact O4
        case hP => rw [List.append_assoc, List.append_assoc add2]; exact ⟨_, P4⟩
        case hm =>
          intro z hz
          have y9 : m2 z = m z := by
            refine (keep2 z (kp_sub hz (by decide +kernel))).trans ?_
            (first | ((repeat (first | with_reducible rfl | with_reducible assumption | refine kp_st (by with_reducible assumption) ?_ | refine kp_set (by exact kp_con hz (by ((repeat (with_reducible_and_instances first | exact List.Mem.head _ | refine List.Mem.tail _ ?_)); (first | done | fail "open")))) ?_ | refine kp_same (by assumption) ?_ | exact rfl)); done) | ((repeat' split) <;> first | rfl | (rename_i e9; subst e9; first | assumption | (symm; assumption) | (exfalso; revert hz; simp)) | (rename_i e9 _; subst e9; first | (symm; assumption) | (exfalso; revert hz; simp))))
          refine (keep3 z (kp_sub hz (by decide +kernel))).trans ?_
          (first | ((repeat (first | with_reducible rfl | with_reducible assumption | refine kp_st (by with_reducible assumption) ?_ | refine kp_set (by exact kp_con hz (by ((repeat (with_reducible_and_instances first | exact List.Mem.head _ | refine List.Mem.tail _ ?_)); (first | done | fail "open")))) ?_ | refine kp_same (by assumption) ?_ | exact rfl)); done) | ((repeat' split) <;> first | exact y9 | (rename_i e9; subst e9; first | exact y9 | (symm; assumption) | (exfalso; revert hz; simp)) | (rename_i e9 _; subst e9; first | exact y9 | (symm; assumption) | (exfalso; revert hz; simp))))
  · k_steps
    rename News h₀ L _ _ => kN
    rename Fr h₀ L _ _ => kF
    refine ⟨?_⟩
    try simp only [List.toList_toArray] at kN
    refine' way4 w K S ((?T3, tupOf pv ?n3) :: l0) ((?T3, tupOf pv ?n3) :: rest) pa pv pc ps (List.mem_cons_of_mem _ hpa) hpi hpl hin ho _ _ _ _ _ _ _ _ _ _ _ _ _ _ _ _ _ rfl B kF X ?hN ?hno (cons_sub hl0) (W.mono fun _ h => List.mem_cons_of_mem _ h) (O.mono fun _ h => List.mem_cons_of_mem _ h) (by k_asm) hd hu ?hnm ?hr
    case hnm => first | ((repeat (first | exact fr_nil | refine fr_cons (by rfl) ?_)); done) | (intro p hp; ((repeat (rcases List.mem_cons.mp hp with rfl | hp; (· rfl))); exact absurd hp List.not_mem_nil))
    case hN => exact kst_newsOf kN (by (first | exact fun p hp => hp | ((repeat' (first | refine fa_app ?_ ?_ | refine fa_cons ?_ ?_ | refine List.forall_mem_append.mpr ⟨?_, ?_⟩ | refine List.forall_mem_cons.mpr ⟨?_, ?_⟩)) <;> (first | exact List.forall_mem_nil _ | (intro p9 hp9; kp_flats) | kp_flats))))
    case hno => dsimp only [stLed, List.cons_append, List.nil_append, bDict]; kat_tups
    case hr =>
      intro m2 S2 add2 h2 tk2 F2 keep2 N2 nod2 O2 le2 P2
      refine an_2 (P2) ?_
      (try clear P2)
      intro esS q9o
      refine ex_1 q9o ?_
      clear q9o
      intro k9 P2
      refine ex_6 (P2) ?_
      (try clear P2)
      intro pa2 pv2 pc2 du2 dv2 dn2 q9o
      refine an_6 q9o ?_
      clear q9o
      intro e1 e2 mp md ip id
      have g1 : m2 (Str.ofString "many") = some (.int K.cs.length t1) := (keep2 _ (by decide +kernel)).trans rfl
      have g2 : m2 (Str.ofString "builder") = some (.ref K.ba) := (keep2 _ (by decide +kernel)).trans rfl
      have g3 : m2 (Str.ofString "found") = some (.ref K.fo) := (keep2 _ (by decide +kernel)).trans rfl
      have g4 : m2 (Str.ofString "kind") = some (.int _ t) := (keep2 _ (by decide +kernel)).trans rfl
      have F3 := F2
      rw [frame_name e1, frame_name e2, frame_name g1, frame_name g2, frame_name g3, frame_name g4] at F3
      dsimp only at F3
      have N3 := N2
      have hnB := nodA.mp nod2
      dsimp only [stLed, List.cons_append, List.nil_append] at N3 hnB
      ((first | refine peelA hnB (by with_reducible ((repeat (first | exact it_nil | (apply it_na) | (apply it_ca) | (apply it_aa) | (apply it_cons) | (apply it_app))); (try exact it_last))) ?_ | refine peelN hnB (by with_reducible ((repeat (first | exact it_nil | (apply it_na) | (apply it_ca) | (apply it_aa) | (apply it_cons) | (apply it_app))); (try exact it_last))) ?_ | refine peelR hnB (by with_reducible ((repeat (first | exact it_nil | (apply it_na) | (apply it_ca) | (apply it_aa) | (apply it_cons) | (apply it_app))); (try exact it_last))) ?_); (repeat (intro hq9)); refine Past.mk ?_)
      k_steps
      rename Fr h₀ L _ _ => kF2
      refine ⟨?_⟩
      refine' tailB w K S2 (add2 ++ ((_, _) :: l0)) (add2 ++ ((_, _) :: rest)) t1 pa2 du2 pv2 dv2 pc2 dn2 _ mp md ip id ?dl ?few ho _ _ _ _ _ _ _ _ _ _ _ _ _ _ _ _ _ rfl B kF2 X N2 nod2 ?sb (W.mono ?sc) O2 (by k_asm) hd hu ?hnm ?hr
      case dl => exact Nat.le_trans (List.length_filter_le _ _) hpl
      case few => rw [esS]; exact hfew
      case sb =>
        intro p hp
        rcases List.mem_append.mp hp with hp | hp
        · exact List.mem_append_left _ hp
        · exact List.mem_append_right _ (cons_sub hl0 p hp)
      case sc => exact fun p hp => List.mem_append_right _ (List.mem_cons_of_mem _ hp)
      case hnm => first | ((repeat (first | exact fr_nil | refine fr_cons (by rfl) ?_)); done) | (intro p hp; ((repeat (rcases List.mem_cons.mp hp with rfl | hp; (· rfl))); exact absurd hp List.not_mem_nil))
      case hr =>
        intro m3 S3 add3 h3 tk3 F4 keep3 N4 nod4 O4 le4 P4
        rw [esS] at le4
        refine' hret m3 S3 (add3 ++ (add2 ++ [?pp3])) h3 tk3 F4 ?hm ?hN ?hno ?hO le4 ?hP
        case hN => rw [List.append_assoc add3, List.append_assoc add2]; exact N4
        case hno => rw [List.append_assoc add3, List.append_assoc add2]; exact nod4
        case hO => rw [List.append_assoc, List.append_assoc add2]; exact O4
        case hP => rw [List.append_assoc, List.append_assoc add2]; exact ⟨_, P4⟩
        case hm =>
          intro z hz
          have y9 : m2 z = m z := by
            refine (keep2 z (kp_sub hz (by decide +kernel))).trans ?_
            (first | ((repeat (first | with_reducible rfl | with_reducible assumption | refine kp_st (by with_reducible assumption) ?_ | refine kp_set (by exact kp_con hz (by ((repeat (with_reducible_and_instances first | exact List.Mem.head _ | refine List.Mem.tail _ ?_)); (first | done | fail "open")))) ?_ | refine kp_same (by assumption) ?_ | exact rfl)); done) | ((repeat' split) <;> first | rfl | (rename_i e9; subst e9; first | assumption | (symm; assumption) | (exfalso; revert hz; simp)) | (rename_i e9 _; subst e9; first | (symm; assumption) | (exfalso; revert hz; simp))))
          refine (keep3 z (kp_sub hz (by decide +kernel))).trans ?_
          (first | ((repeat (first | with_reducible rfl | with_reducible assumption | refine kp_st (by with_reducible assumption) ?_ | refine kp_set (by exact kp_con hz (by ((repeat (with_reducible_and_instances first | exact List.Mem.head _ | refine List.Mem.tail _ ?_)); (first | done | fail "open")))) ?_ | refine kp_same (by assumption) ?_ | exact rfl)); done) | ((repeat' split) <;> first | exact y9 | (rename_i e9; subst e9; first | exact y9 | (symm; assumption) | (exfalso; revert hz; simp)) | (rename_i e9 _; subst e9; first | exact y9 | (symm; assumption) | (exfalso; revert hz; simp))))

end
end
section
local macro_rules | `(tactic| omega) => `(tactic| first | with_reducible assumption | exact Nat.le_of_lt (by with_reducible assumption) | exact Nat.le_trans (by with_reducible assumption) (by decide) | exact Nat.lt_of_lt_of_le (by with_reducible assumption) (by decide) | exact Nat.lt_of_le_of_lt (by with_reducible assumption) (by decide) | exact Nat.le_trans (Nat.le_of_lt (by with_reducible assumption)) (by decide) | exact Nat.ne_of_lt (by with_reducible assumption) | exact Nat.ne_of_gt (by with_reducible assumption) | exact om_ne1 _ 0 | exact om_ne1 _ 1 | exact om_ne1 _ 2 | exact om_ne1 _ 3 | exact om_ne1 _ 4 | exact om_ne2 _ 0 | exact om_ne2 _ 1 | exact om_ne2 _ 2 | exact om_ne2 _ 3 | exact om_ne2 _ 4 | lia)
section
theorem offLoopT : True := by
  w_top off
  trivial

section
variable {prog : Program} {w : World} {A : Around} {E : Value → Shared → Prop} {s s₂ : Shared} {env : Env} {h₀ : Heap} {target : Expr} {body : List Stmt} {Q : Flow → Shared → Prop} {σ : Type}
theorem keep_fr {L : Addr} {h : Heap} {ps : List (Str × Value)} {st : List Str} {m₀ m₁ : Str → Option Value} (h1 : ∀ p ∈ ps, m₁ p.1 = some p.2) (h2 : ∀ z, (∀ p ∈ ps, z ≠ p.1) → st.contains z = false → m₁ z = m₀ z)
    (F : Fr h₀ L h m₁) : Fr h₀ L h (kstB (fun z => if st.contains z then m₁ z else m₀ z) ps) := by
  have em : kstB (fun z => if st.contains z then m₁ z else m₀ z) ps = m₁ := by
    funext y
    refine kstB_eq h1 fun h => ?_
    show (if st.contains y = true then m₁ y else m₀ y) = m₁ y
    split
    · rfl
    · rename_i hc
      exact (h2 y h (Bool.eq_false_iff.mpr hc)).symm
  rw [em]
  exact F

/-- a turn's end, where the loop's name is a cell -/
def TurnT (h₀ : Heap) (L : Addr) (ps : σ → List (Str × Value)) (st : List Str) (m₀ : Str → Option Value) (I : Addr) (oI : Obj) (src : Led) (Jn : σ → Led → Prop) (s₁ : Shared) (f : Flow) (s₂ : Shared) : Prop :=
  f = .next ∧ ∃ (c' : σ) (nx' : Led) (h' : Heap) (tk' : Nat) (m' : Str → Option Value), s₂ = { s₁ with heap := h', toks := tk' } ∧ Fr h₀ L h' m' ∧ (∀ p ∈ ps c', m' p.1 = some p.2) ∧ (∀ z, (∀ p ∈ ps c', z ≠ p.1) → st.contains z = false → m' z = m₀ z) ∧
    News h₀ L h' ((I, oI) :: nx') ∧ Nod ((I, oI) :: nx') ∧ (∀ q ∈ src, q ∈ nx') ∧ Jn c' nx'

theorem loop_tupleT {l : Addr} {vs : List Value} {nn : Nat} {m₀ : Str → Option Value} {news : Led} (ps : σ → List (Str × Value)) (st : List Str) (J : Nat → σ → Led → Prop) (c₀ : σ)
    (hh : A.handled = none) (hl : (l, tupOf vs nn) ∈ news) (F : Fr h₀ env.locals s.heap m₀) (N : News h₀ env.locals s.heap news) (hn : Nod news) (hk : ∀ p ∈ ps c₀, m₀ p.1 = some p.2) (hj : J 0 c₀ news)
    (turn : ∀ i v c nx (u : Str → Option Value) s₁ I oI, i < vs.length → vs[i]? = some v → J i c nx → (l, tupOf vs nn) ∈ nx → Nod ((I, oI) :: nx) →
      Fr h₀ env.locals s₁.heap (kstB (fun z => if st.contains z then u z else m₀ z) (ps c)) → News h₀ env.locals s₁.heap ((I, oI) :: nx) →
      wpAny (model prog w) A (assign target env v) (fun _ s₃ => wpAny (model prog w) A (execs body env) (TurnT h₀ env.locals ps st m₀ I oI [(l, tupOf vs nn)] (J (i + 1)) s₁) E s₃) E s₁)
    (done : ∀ c nx (u : Str → Option Value) h tk, J vs.length c nx → (l, tupOf vs nn) ∈ nx → Nod nx → Fr h₀ env.locals h (kstB (fun z => if st.contains z then u z else m₀ z) (ps c)) → News h₀ env.locals h nx →
      Q .next { s with heap := h, toks := tk }) :
    wpAny (model prog w) A (pyIter (.ref l)) (fun it s₂ => LoopAtT prog w A h₀ env target body Q E it s₂) E s := by
  have hol : s.heap.get? l = some (tupOf vs nn) := (N _ hl).1
  have hls : s.heap.IsTuple l vs.toArray := ⟨_, hol, rfl, nn, rfl⟩
  have hne : l ≠ s.heap.objs.size := Nat.ne_of_lt (Heap.lt_size hol)
  refine wpAny_pyIter_tuple hls ?_
  have W := Walks.tuple (prog := prog) (w := w) hh s.heap.objs.size l hne vs.toArray
  have hlen : vs.toArray.size = vs.length := by simp
  rw [hlen] at W
  have hIL : env.locals ≠ s.heap.objs.size := Nat.ne_of_lt F.ns.lt
  refine ⟨s.heap.objs.size, _, [s.heap.objs.size], vs.length, _, _, m₀, news, (fun i m nx => ∃ c, Nod nx ∧ (l, tupOf vs nn) ∈ nx ∧ (∀ p ∈ ps c, m p.1 = some p.2) ∧ (∀ z, (∀ p ∈ ps c, z ≠ p.1) → st.contains z = false → m z = m₀ z) ∧ J i c nx), rfl, W, ?_, ?_, ?_,
    ⟨⟨_, Heap.get?_push_size _ rfl, rfl, rfl⟩, hls.at fun o e => Heap.get?_push_of_some _ e⟩, F.push _, fun p hp => ⟨Heap.get?_push_of_some _ (N p hp).1, (N p hp).2⟩, fun i s' v Q' st' hQ' => letGo_tupleiter st'.1 hQ', ⟨c₀, hn, hl, hk, fun _ _ _ => rfl, hj⟩, ?_, ?_⟩
  · intro hm
    rcases List.mem_cons.mp hm with e | hm
    · exact hIL e
    · have e := List.mem_singleton.mp hm
      exact (N _ hl).2.1 e.symm
  · intro b hb
    rw [List.mem_singleton.mp hb]
    exact next_is_new F
  · intro p hp hI
    exact absurd (Heap.lt_size (N p hp).1) ((List.mem_singleton.mp hI) ▸ Nat.lt_irrefl _)
  · rintro i v m₁ news₁ s₁ own hin hP ⟨c, hn₁, hl₁, h1, h2, hJ⟩ hoff₁ hown hget hfp hst₁ F₁ N₁
    refine ex_1 (hst₁.1) ?_
    intro oI q9o
    refine an_2 q9o ?_
    clear q9o
    intro hoI _
    have hIown : (s.heap.objs.size, oI) ∈ own := hfp _ List.mem_cons_self (next_is_new F) oI hoI
    have hne₁ : ∀ p ∈ news₁, p.1 ≠ s.heap.objs.size := fun p hp e => hoff₁ p hp (List.mem_singleton.mpr e)
    have N₂ : News h₀ env.locals s₁.heap ((s.heap.objs.size, oI) :: news₁) := fun p hp => by
      rcases List.mem_cons.mp hp with rfl | hp
      · exact N₁ _ (List.mem_append.mpr (.inl hIown))
      · exact N₁ _ (List.mem_append.mpr (.inr hp))
    refine wpAny_mono (turn i v c news₁ m₁ s₁ _ oI hin (by simpa using hP) hJ hl₁ (Nod.of_cons hne₁ hn₁) (keep_fr h1 h2 F₁) N₂) (fun _ s₃ h₃ => wpAny_mono h₃ (fun f s₄ p => ?_) fun _ _ e => e) fun _ _ e => e
    refine with_goal fun X79 hX79 => ?_
    refine an_2 (p) ?_
    (try clear p)
    intro r9q
    subst r9q
    intro q9o
    refine ex_5 q9o ?_
    clear q9o
    intro c' nx' h' tk m' q9o
    refine an_8 q9o ?_
    clear q9o
    intro e F' h1' h2' N' hn' hs' hJ'
    refine hX79 ?_
    have hl' := hs' _ (List.mem_singleton.mpr rfl)
    refine ⟨rfl, h', tk, m', nx', e, F', fun p hp => ?_, fun p hp hq => ?_, c', hn'.cons.2, hl', h1', h2', hJ'⟩
    · rcases List.mem_append.mp hp with h | h
      · have h4 : s₁.heap.get? p.1 = some p.2 := hget p h
        rcases List.mem_cons.mp (hown p h) with h3 | h3
        · rw [h3, hoI] at h4
          have h5 : p = (s.heap.objs.size, oI) := Prod.ext h3 (Option.some.inj h4).symm
          rw [h5]
          exact N' _ List.mem_cons_self
        · have h3 := List.mem_singleton.mp h3
          have h6 : s₁.heap.get? l = some (tupOf vs nn) := (N₂ _ (List.mem_cons_of_mem _ hl₁)).1
          rw [h3, h6] at h4
          have h5 : p = (l, tupOf vs nn) := Prod.ext h3 (Option.some.inj h4).symm
          rw [h5]
          exact N' _ (List.mem_cons_of_mem _ hl')
      · exact N' _ (List.mem_cons_of_mem _ h)
    · exact hn'.cons.1 p hp (List.mem_singleton.mp hq)
  · rintro h' tk m' news' F' N' _ ⟨c, hn', hl', h1, h2, hJ⟩
    exact done c news' m' h' tk hJ hl' hn' (keep_fr h1 h2 F') N'
end

end
section
theorem offLinked : True := by
  w_top off
  trivial
local macro_rules | `(tactic| walk_at "zz") => `(tactic| skip)

/-- the law's words: what keys of the sort there are, in order -/
def wordStep (cs : List Cod) (t : Srt) (ws : List Word) (p : Int) : List Word :=
  match wordOf t (keyOf cs p) with
  | none => ws
  | some w => if w ∈ ws then ws else ws ++ [w]
def wordsN (cs : List Cod) (ps : List Int) (t : Srt) (i : Nat) : List Word := (ps.take i).foldl (wordStep cs t) []
theorem wordsN_succ {cs : List Cod} {ps : List Int} {t : Srt} {i : Nat} {p : Int} (h : ps[i]? = some p) : wordsN cs ps t (i + 1) = wordStep cs t (wordsN cs ps t i) p := by
  unfold wordsN
  rw [List.take_add_one, h, List.foldl_append]; rfl
theorem wordsN_len {cs : List Cod} {ps : List Int} {t : Srt} : ∀ i, i ≤ ps.length → (wordsN cs ps t i).length ≤ i
  | 0, _ => by simp [wordsN]
  | i + 1, hi => by
    have h : ps[i]? = some (ps[i]'(by omega)) := List.getElem?_eq_getElem (by omega)
    rw [wordsN_succ h]
    have ih := wordsN_len (cs := cs) (ps := ps) (t := t) i (by omega)
    unfold wordStep
    split
    · omega
    · split
      · omega
      · rw [List.length_append, List.length_singleton]; omega
theorem words_table (many : Nat) (cs : List Cod) (ps : List Int) (t : Srt) (es : List (List Int × Int)) : ∀ i, i ≤ ps.length → (tableN many cs ps t es i).1.map (·.1) = wordsN cs ps t i
  | 0, _ => by simp [tableN, wordsN]
  | i + 1, hi => by
    have h : ps[i]? = some (ps[i]'(by omega)) := List.getElem?_eq_getElem (by omega)
    have ih := words_table many cs ps t es i (by omega)
    rw [tableN_succ h, wordsN_succ h]
    unfold tableStep wordStep
    cases wordOf t (keyOf cs (ps[i]'(by omega))) with
    | none => exact ih
    | some wd =>
      dsimp only
      rw [ih]
      split
      · exact ih
      · rw [List.map_append, ih]; rfl

/-- whom the law awaits at a word -/
def duesA (cs : List Cod) (ps : List Int) (wd : Word) : List Int := ps.filter fun p => decide (keyOf cs p = .var ∨ keyOf cs p = wd.key)
theorem match_dues {cs : List Cod} {ps : List Int} {wd : Word} : matchA cs ps wd.key = duesA cs ps wd := by
  unfold matchA duesA
  congr 1
  funext p
  have : wd.key ≠ Key.var := by cases wd <;> simp [Word.key]
  simp [this]
/-- the table's pairs, as the law takes them: each from the rows found so far -/
inductive Linked (many : Nat) (cs : List Cod) (ps : List Int) : List (List Int × Int) → List (Word × Int) → List (List Int × Int) → Prop
  | nil {es : List (List Int × Int)} : Linked many cs ps es [] es
  | cons {es e2 : List (List Int × Int)} {wd : Word} {r : List (Word × Int)} : Linked many cs ps (chainA many es (duesA cs ps wd)).2 r e2 → Linked many cs ps es ((wd, (chainA many es (duesA cs ps wd)).1) :: r) e2
theorem Linked.snoc {many : Nat} {cs : List Cod} {ps : List Int} {es e2 : List (List Int × Int)} {r : List (Word × Int)} {wd : Word} (h : Linked many cs ps es r e2) :
    Linked many cs ps es (r ++ [(wd, (chainA many e2 (duesA cs ps wd)).1)]) (chainA many e2 (duesA cs ps wd)).2 := by
  induction h with
  | nil => exact .cons .nil
  | cons _ ih => exact .cons ih
theorem table_linked (many : Nat) (cs : List Cod) (ps : List Int) (t : Srt) (es : List (List Int × Int)) : ∀ i, i ≤ ps.length → Linked many cs ps es (tableN many cs ps t es i).1 (tableN many cs ps t es i).2
  | 0, _ => by simp only [tableN, List.take_zero, List.foldl_nil]; exact .nil
  | i + 1, hi => by
    have h : ps[i]? = some (ps[i]'(by omega)) := List.getElem?_eq_getElem (by omega)
    have ih := table_linked many cs ps t es i (by omega)
    rw [tableN_succ h]
    unfold tableStep
    split
    · exact ih
    · rename_i wd hw
      split
      · exact ih
      · rw [(wordOf_some hw).1, match_dues]
        exact ih.snoc
theorem table_sorts (many : Nat) (cs : List Cod) (ps : List Int) (t : Srt) (es : List (List Int × Int)) : ∀ i, i ≤ ps.length → ∀ pr ∈ (tableN many cs ps t es i).1, pr.1.srt = t
  | 0, _ => by simp [tableN]
  | i + 1, hi => by
    have h : ps[i]? = some (ps[i]'(by omega)) := List.getElem?_eq_getElem (by omega)
    have ih := table_sorts many cs ps t es i (by omega)
    rw [tableN_succ h]
    unfold tableStep
    split
    · exact ih
    · rename_i wd hw
      split
      · exact ih
      · intro pr hp
        rcases List.mem_append.mp hp with hp | hp
        · exact ih pr hp
        · rw [List.mem_singleton.mp hp]; exact (wordOf_some hw).2
theorem tableA_N {many : Nat} {cs : List Cod} {ps : List Int} {t : Srt} {es : List (List Int × Int)} : tableA many cs ps t es = tableN many cs ps t es ps.length := by
  unfold tableA tableN
  rw [List.take_length]

/-- each chain's label is its place -/
def Labels (many : Nat) (es : List (List Int × Int)) : Prop := es.map (·.2) = (List.range es.length).map fun (i : Nat) => ((many + i : Nat) : Int)
theorem chainA_labels {many : Nat} {es : List (List Int × Int)} {ps : List Int} (h : Labels many es) : Labels many (chainA many es ps).2 := by
  unfold chainA
  split
  · exact h
  · exact h
  · split
    · exact h
    · unfold Labels at h ⊢
      rw [List.map_append, h, List.length_append, List.length_singleton, List.range_succ, List.map_append]
      rfl
theorem chainA_le {many : Nat} {es : List (List Int × Int)} {ps : List Int} : es.length ≤ (chainA many es ps).2.length := by
  unfold chainA
  split
  · exact Nat.le_refl _
  · exact Nat.le_refl _
  · split
    · exact Nat.le_refl _
    · simp
theorem Linked.le {many : Nat} {cs : List Cod} {ps : List Int} {es e2 : List (List Int × Int)} {r : List (Word × Int)} (h : Linked many cs ps es r e2) : es.length ≤ e2.length := by
  induction h with
  | nil => exact Nat.le_refl _
  | cons _ ih => exact Nat.le_trans chainA_le ih
theorem Linked.good {many : Nat} {cs : List Cod} {ps : List Int} {es e2 : List (List Int × Int)} {r : List (Word × Int)} (h : Linked many cs ps es r e2) (hp : ps.length ≤ 8) (g : Good es) : Good e2 := by
  induction h with
  | nil => exact g
  | cons _ ih => exact ih (chainA_good g (Nat.le_trans (List.length_filter_le _ _) hp))
theorem Linked.head {many : Nat} {cs : List Cod} {ps : List Int} {es e2 : List (List Int × Int)} {prs : List (Word × Int)} {i : Nat} {pr : Word × Int} (h : Linked many cs ps es (prs.drop i) e2) (hp : prs[i]? = some pr) :
    pr.2 = (chainA many es (duesA cs ps pr.1)).1 ∧ Linked many cs ps (chainA many es (duesA cs ps pr.1)).2 (prs.drop (i + 1)) e2 := by
  refine ex_1 (List.getElem?_eq_some_iff.mp hp) ?_
  intro hi e
  rw [List.drop_eq_getElem_cons hi, e] at h
  cases h with
  | cons h => exact ⟨rfl, h⟩
theorem Linked.end {many : Nat} {cs : List Cod} {ps : List Int} {es e2 : List (List Int × Int)} {prs : List (Word × Int)} (h : Linked many cs ps es (prs.drop prs.length) e2) : es = e2 := by
  rw [List.drop_length] at h
  cases h
  rfl

end
end
section
local macro_rules | `(tactic| omega) => `(tactic| first | with_reducible assumption | exact Nat.le_of_lt (by with_reducible assumption) | exact Nat.le_trans (by with_reducible assumption) (by decide) | exact Nat.lt_of_lt_of_le (by with_reducible assumption) (by decide) | exact Nat.lt_of_le_of_lt (by with_reducible assumption) (by decide) | exact Nat.le_trans (Nat.le_of_lt (by with_reducible assumption)) (by decide) | exact Nat.ne_of_lt (by with_reducible assumption) | exact Nat.ne_of_gt (by with_reducible assumption) | exact om_ne1 _ 0 | exact om_ne1 _ 1 | exact om_ne1 _ 2 | exact om_ne1 _ 3 | exact om_ne1 _ 4 | exact om_ne2 _ 0 | exact om_ne2 _ 1 | exact om_ne2 _ 2 | exact om_ne2 _ 3 | exact om_ne2 _ 4 | lia)
local macro_rules | `(tactic| walk_at "exec For") => `(tactic| (k_here; (with_reducible show wpAny _ _ (exec (Stmt.For (Expr.Name _ _) _ _ [] _) _) _ _ _); (rename Fr _ _ _ _ => lF'); (with_unfolding_all refine' For_invVF lF' ?k1 ?k2 ?_; (case k1 => exact rfl); (case k2 => exact rfl); k_whole)))
local macro_rules | `(tactic| walk_at "exec For Name Name cons nil") => `(tactic| (k_here; (with_reducible show wpAny _ _ (exec (Stmt.For (Expr.Name _ _) _ _ [] _) _) _ _ _); (rename Fr _ _ _ _ => lF'); (with_unfolding_all refine' For_invVF lF' ?k1 ?k2 ?_; (case k1 => exact rfl); (case k2 => exact rfl); k_whole)))
local macro_rules | `(tactic| walk_at "exec For Name Call cons nil") => `(tactic| (k_here; (with_reducible show wpAny _ _ (exec (Stmt.For (Expr.Name _ _) _ _ [] _) _) _ _ _); (rename Fr _ _ _ _ => lF'); (with_unfolding_all refine' For_invVF lF' ?k1 ?k2 ?_; (case k1 => exact rfl); (case k2 => exact rfl); k_whole)))
local macro_rules | `(tactic| walk_at "exec For Name Attribute cons nil") => `(tactic| (k_here; (with_reducible show wpAny _ _ (exec (Stmt.For (Expr.Name _ _) _ _ [] _) _) _ _ _); (rename Fr _ _ _ _ => lF'); (with_unfolding_all refine' For_invVF lF' ?k1 ?k2 ?_; (case k1 => exact rfl); (case k2 => exact rfl); k_whole)))
local macro_rules | `(tactic| walk_at "newTuple") => `(tactic| (k_here; k_dflt (refine' kup_newTuple ?F ?N ?_ ?z; (case F => k_asm); (case N => k_asm); (case z => ((try simp only [sizeLine_eq, List.length_cons, List.length_nil]); omega))); intro D' h' F' N' l1; (try k_lt l1); (try k_sweep)))
local macro_rules | `(tactic| walk_at "call builtin:list.append") => `(tactic| (k_here; (with_reducible show wpAny _ _ (call (Value.builtin _) [Value.ref _, _]) _ _ _); k_dflt (refine' append_K ?k1 ?k2 ?k3 ?_ ?z; (case k1 => k_asm); (case k2 => k_asm); (case k3 => k_upd); (case z => ((try simp only [List.size_toArray, List.length_append, List.length_cons, List.length_nil, sizeLine_eq]); omega)); k_whole); intro h' F' N'; (try simp only [List.push_toArray] at N'); (try k_sweep)))
local macro_rules | `(tactic| walk_at "subscriptTail") => `(tactic| (k_here; (with_reducible show wpAny _ _ (subscriptTail _ _ (Value.ref _) (Value.int _ _)) _ _ _); k_dflt (refine' item_led ?N ?m ?a ?b ?x ?_; (case N => k_asm); (case m => k_mem); (case a => first | decide | omega); (case b => first | decide | omega); (case x => first | rfl | assumption); k_whole)))
local macro_rules | `(tactic| walk_at "call builtin:len") => `(tactic| (k_here; (with_reducible show wpAny _ _ (call (Value.builtin "len") [Value.ref _]) _ _ _); k_dflt (refine' len_led ?N ?m ?e ?f ?_; (case N => k_asm); (case m => k_mem); (case e => first | exact len0 | exact len1 _ | exact len2 _ _ _ | assumption | exact rfl); (case f => first | omega | decide); k_whole)))
local macro_rules | `(tactic| walk_at "call type:tuple") => `(tactic| (k_here; (with_reducible show wpAny _ _ (call (Value.type _) [Value.ref _]) _ _ _); k_dflt (refine' kde_tupleOf ?k1 ?k2 ?k3 ?k4 ?k5 ?_; (case k1 => k_asm); (case k2 => k_asm); (case k3 => exact News.isList (by k_asm) (by k_mem)); (case k4 => (simp only [sizeLine_eq, List.length_cons, List.size_toArray]; omega)); (case k5 => rfl); k_whole); intro D' h' F' N' l1; (try k_lt l1); (try k_sweep)))
section
theorem offWayA3 : True := by
  w_top off
  trivial
local macro_rules | `(tactic| walk_at "zz") => `(tactic| skip)

local macro_rules | `(tactic| walk_at "exec For Name Name cons nil") => `(tactic| (k_here; (with_reducible show wpAny _ _ (exec (Stmt.For (Expr.Name _ _) _ _ [] _) _) _ _ _); (rename Fr _ _ _ _ => lF'); (with_unfolding_all refine' For_invTF lF' ?_ ?h); (case h => (intro _; rfl)); k_whole))
local macro_rules | `(tactic| walk_at "call type:list") => `(tactic| (k_here; (with_reducible show wpAny _ _ (call (Value.type _) [Value.ref _]) _ _ _); k_dflt (refine' kup_listOfT ?F ?N ?b ?e ?_ ?z; (case F => k_asm); (case N => k_asm); (case b => k_mem); (case e => exact rfl); (case z => (simp only [sizeLine_eq, List.size_toArray, List.toList_toArray]; omega))); intro D' c' h' F' N' l1; (try k_lt l1); (try k_sweep)))
local macro_rules | `(tactic| walk_at "call type:list") => `(tactic| (k_here; (with_reducible show wpAny _ _ (call (Value.type _) [Value.ref _]) _ _ _); k_dflt (refine' kup_listOf ?F ?N ?b ?e ?_ ?z; (case F => k_asm); (case N => k_asm); (case b => k_mem); (case e => exact rfl); (case z => (simp only [sizeLine_eq, List.size_toArray, List.toList_toArray]; omega))); intro D' c' h' F' N' l1; (try k_lt l1); (try k_sweep)))
local macro_rules | `(tactic| walk_at "pyIter ref") => `(tactic| (k_here; (with_reducible show wpAny _ _ (pyIter (Value.ref _)) _ _ _); refine Held.out ?_))
local macro_rules | `(tactic| walk_at "eval ListComp") => `(tactic| (k_here; k_dflt (refine LCt.ListComp_T (F₀ := by k_asm) (by with_unfolding_all rfl) (by decide) (by rfl) (by decide) (by rfl) ?_)))
local macro_rules | `(tactic| walk_at "CompSrcT") => `(tactic| (k_here; refine Held.out ?_))
local macro_rules | `(tactic| walk_at "subscriptTail") => `(tactic| (k_here; (with_reducible show wpAny _ _ (subscriptTail _ _ (Value.ref _) (Value.int _ _)) _ _ _); k_dflt (refine' item_dat ?N ?D ?s ?a ?b ?d ?_; (case D => with_reducible assumption); (case N => k_asm); (case a => first | decide | omega); (case b => first | decide | omega); (case d => assumption); (case s => (first | exact fun p hp => hp | ((repeat' (first | refine fa_app ?_ ?_ | refine fa_cons ?_ ?_ | refine List.forall_mem_append.mpr ⟨?_, ?_⟩ | refine List.forall_mem_cons.mpr ⟨?_, ?_⟩)) <;> (first | exact List.forall_mem_nil _ | (intro p9 hp9; kp_flats) | kp_flats))))); intro v9 d9; (try (obtain ⟨t9, e9⟩ := dat_int d9; subst e9))))

/-- what a piece of the law's turn does, of any state -/
def Piece0 (w : World) (sel : List Stmt → List Stmt) (K : LK) (S : LS) (l0 rest : Led) (st : List Str) (nm : List (Str × Value)) (Post : (Str → Option Value) → LS → Led → Prop) : Prop :=
  ∀ {name qual : Str} {params : Arguments} {body : List Stmt} {scope : Scope} {dV kV doc pm cdv ct oc : Value} {an od : Option Addr} {osl : Array (Option Value)}
    (_ : (Mine.hd.heap_1 w.params).lookup 172 = some ⟨oc, od, .func (fnOf name qual params body scope dV kV doc pm an cdv ct), osl⟩)
    (dp un : Nat) (gd : Option (List Code)) (outer : List Env) (A₀ : Around) (base h₀ : Heap) (L f : Addr) (cd : Value) (m : Str → Option Value) (s : Shared)
    (mean : ExcName → Option Value) (mg mb : Str → Option Value) (Q : Flow → Shared → Prop) (E : Value → Shared → Prop),
    PySem.Challenge.rw_rh0065_01 = PySem.Challenge.rw_rh0065_01 →
    Below A₀ base outer h₀ → Fr h₀ L s.heap m → (Mine.hd.heap_1 w.params).In h₀ → News h₀ L s.heap (stLed K L S ++ rest) → Nod (stLed K L S ++ rest) → (∀ p ∈ l0, p ∈ rest) → LW L K l0 →
    Top Mine.V (looseW Mine.V []) mean mg mb h₀ → dp + 60 < recursionLimit → un + 2000 < cLine → (∀ p ∈ nm, m p.1 = some p.2) →
    (∀ m' S' add h' tk', Fr h₀ L h' m' → (∀ z, st.contains z = false → m' z = m z) → News h₀ L h' (stLed K L S' ++ (add ++ rest)) → Nod (stLed K L S' ++ (add ++ rest)) → Post m' S' add → Q .next { s with heap := h', toks := tk' }) →
    wpAny (model PySem.Challenge.rw_rh0065_01.row.prog w) (around dp un gd (envOfC qual scope L f cd) outer) (execs (sel body) (envOfC qual scope L f cd)) Q E s

/-- the state of the loop over the pairs -/
structure PL where
  ofo : Obj
  oP : Obj
  add : Led
  es : List (List Int × Int)
theorem word_key_dat (wd : Word) : wd.key.dat = .tuple [.str wd.srt.tag, wd.dat] := by cases wd <;> rfl

theorem wayA3 (w : World) (K : LK) (S : LS) (l0 rest : Led) (srt : Srt) (tk t1 : Tok) (D : Addr) (vs : List Value) (n : Nat) (prs : List (Word × Int)) (pa : Addr) (pv : List Value) (pc : Nat) (ps : List Int) (esf : List (List Int × Int))
    (hD : (D, tupOf vs n) ∈ l0) (hP : PairsAre l0 vs prs) (hprs : prs.length ≤ 8) (hpa : (pa, listOf pv.toArray pc) ∈ l0) (hpi : Ints pv ps) (hpl : ps.length ≤ 8) (hin : ∀ p ∈ ps, 0 ≤ p ∧ p < K.cs.length)
    (hS : S.oS.data = .cell (some (.str srt.tag tk))) (hsrt : ∀ pr ∈ prs, pr.1.srt = srt) (figs : Figs S.us) (bs : BS w l0 K.cs.length S.es S.nl S.cv S.okn) (td : TD PR w l0 S.ofo esf) (hlab : Labels K.cs.length esf) (hgood : Good S.es)
    (hcP : ∃ x, S.oP.data = .cell x) (hcW : ∃ x, S.oW.data = .cell x) (hlink : Linked K.cs.length K.cs ps esf prs S.es) (hfew : S.es.length < 400) :
    Piece0 w (fun b => (selIf 3 (selFor 8 b)).drop 5) K S l0 rest [Str.ofString "due"]
      [(Str.ofString "many", .int K.cs.length t1), (Str.ofString "found", .ref K.fo), (Str.ofString "pairs", .ref D), (Str.ofString "places", .ref pa)]
      (fun _ S' add => SOK w K (add ++ l0) S' ∧ S'.es = S.es) := by
  obtain ⟨fa, ka, co, ba, bd, ro, ch, kn, fo, kv, cdv, kc, cdn, cs, oF, oK, x, ar, ta⟩ := K
  obtain ⟨us, c, nl, tn, cv, cc, okn, ofo, oS, oP, oW, es⟩ := S
  unfold Piece0
  intro name qual params body scope dV kV doc pm cdv9 ct oc an od osl ho
  refine fn_use ho (by exact rfl) ?_
  clear ho
  intro ho
  k_fill
  intro dp un gd outer A₀ base h₀ L f cd m s mean mg mb Q E _ B F X N hnod hl0 W T hd hu hnm hret
  refine LW.use W ?_
  intro oFm oFd oKm oKd kam hkeys com cods inst m1 m4 knl fol
  refine ex_1 (hcP) ?_
  (try clear hcP)
  intro xP cP
  refine ex_1 (hcW) ?_
  (try clear hcW)
  intro xW cW
  try dsimp only at *
  replace oFm := hl0 _ oFm
  replace oKm := hl0 _ oKm
  replace kam := hl0 _ kam
  replace com := hl0 _ com
  replace inst := hl0 _ inst
  have hkeys' := All2.mono (fun _ _ q => KeyIn.mono hl0 q) hkeys
  have hD' := hl0 _ hD
  have hn1 := hnm _ List.mem_cons_self
  have hn2 := hnm _ (List.mem_cons_of_mem _ List.mem_cons_self)
  have hn3 := hnm _ (List.mem_cons_of_mem _ (List.mem_cons_of_mem _ List.mem_cons_self))
  have hn4 := hnm _ (List.mem_cons_of_mem _ (List.mem_cons_of_mem _ (List.mem_cons_of_mem _ List.mem_cons_self)))
  dsimp only at hn1 hn2 hn3 hn4
  replace F := fr_named F hnm
  try dsimp only [withN] at F
  conv => enter [3, 1]; whnf
  dsimp only [stLed, List.cons_append, List.nil_append] at N hnod
  have hnA := nodA.mp hnod
  ((first | refine peelA hnA (by with_reducible ((repeat (first | exact it_nil | (apply it_na) | (apply it_ca) | (apply it_aa) | (apply it_cons) | (apply it_app))); (try exact it_last))) ?_ | refine peelN hnA (by with_reducible ((repeat (first | exact it_nil | (apply it_na) | (apply it_ca) | (apply it_aa) | (apply it_cons) | (apply it_app))); (try exact it_last))) ?_ | refine peelR hnA (by with_reducible ((repeat (first | exact it_nil | (apply it_na) | (apply it_ca) | (apply it_aa) | (apply it_cons) | (apply it_app))); (try exact it_last))) ?_); (repeat (intro hq9)); refine Past.mk ?_)
  have hpvl : pv.length ≤ 8 := by rw [hpi.length]; exact hpl
  have hpa' := hl0 _ hpa
  have hvl : vs.length ≤ 8 := by rw [hP.length]; exact hprs
  try k_fold
  refine wpAny_noRaise ?_
  k_steps
  refine ⟨?_⟩
  rename News h₀ L _ _ => kN
  rename Fr h₀ L _ _ => kF
  apply loop_tupleT (σ := PL) (fun _ => []) [Str.ofString "due"]
    (fun i c9 nx => nx = (fa, listOf us.toArray c) :: (bd, bDict x ar ta co ro ch kn nl tn) :: (ch, listOf cv.toArray cc) :: (kn, okn) :: (fo, c9.ofo) :: (L + 1 + 1 + 1, oS) :: (L + 1 + 1 + 1 + 1, c9.oP) :: (L + 1 + 1 + 1 + 1 + 1, oW) :: (c9.add ++ rest) ∧
      TD PR w (c9.add ++ l0) c9.ofo c9.es ∧ Labels cs.length c9.es ∧ Linked cs.length cs ps c9.es (prs.drop i) es ∧ ∃ x9, c9.oP.data = .cell x9)
    (PL.mk ofo oP [] esf)
  case hh => rfl
  case F => exact kF
  case N => exact kN
  case hj => exact ⟨rfl, td, hlab, hlink, _, cP⟩
  case hl => k_mem
  case hn => exact hnod
  case hk => exact fun p hp => absurd hp List.not_mem_nil
  case turn =>
    rintro i v ⟨ofo9, oP9, add9, es9⟩ nx u s9 I oI hi' hv ⟨rfl, td9, lab9, link9, x9, cP9⟩ hl hn F2 N2
    dsimp only at td9 lab9 link9 cP9 hn N2 F2
    obtain ⟨⟨wd, lbl⟩, hpr, dpr⟩ := hP.getL hv
    refine an_2 (link9.head hpr) ?_
    intro hlb link10
    have hsw : wd.srt = srt := hsrt _ (List.mem_of_getElem? hpr)
    have hle9 := link9.le
    dsimp only at dpr hlb link10
    refine with_goal fun X79 hX79 => ?_
    refine ex_1 (dat_tup dpr) ?_
    intro pp q9o
    refine an_2 q9o ?_
    clear q9o
    intro r9q
    subst r9q
    intro dpr
    refine hX79 ?_
    obtain ⟨ds, hds, hd0, hd1⟩ : ∃ ds, Dat.tuple [wd.dat, .int lbl] = .tuple ds ∧ ds[(0 : Int).toNat]? = some wd.dat ∧ ds[(1 : Int).toNat]? = some (.int lbl) := ⟨_, rfl, rfl, rfl⟩
    rw [hds] at dpr
    have hnI := nodA.mp hn
    ((first | refine peelA hnI (by with_reducible ((repeat (first | exact it_nil | (apply it_na) | (apply it_ca) | (apply it_aa) | (apply it_cons) | (apply it_app))); (try exact it_last))) ?_ | refine peelN hnI (by with_reducible ((repeat (first | exact it_nil | (apply it_na) | (apply it_ca) | (apply it_aa) | (apply it_cons) | (apply it_app))); (try exact it_last))) ?_ | refine peelR hnI (by with_reducible ((repeat (first | exact it_nil | (apply it_na) | (apply it_ca) | (apply it_aa) | (apply it_cons) | (apply it_app))); (try exact it_last))) ?_); (repeat (intro hq9)); refine Past.mk ?_)
    dsimp only [kstB] at F2
    try k_fold
    k_steps
    rename _ = Data.cell (some (Value.ref pp)) => hcp
    rename Obj => oP8
    rename News _ _ _ _ => kN
    rename Fr _ _ _ _ => kF
    have hn8 : Nod ((I, oI) :: (fa, listOf us.toArray c) :: (bd, bDict x ar ta co ro ch kn nl tn) :: (ch, listOf cv.toArray cc) :: (kn, okn) :: (fo, ofo9) :: (L + 1 + 1 + 1, oS) :: (L + 1 + 1 + 1 + 1, oP8) :: (L + 1 + 1 + 1 + 1 + 1, oW) :: (add9 ++ rest)) := by (first | assumption | (refine nod_of_count (by assumption) (fun a9 => ?_); (try simp only [List.cons_append, List.nil_append, List.map_append, List.map_cons, List.map_nil, List.count_append, List.count_cons, List.count_nil]); omega))
    refine ⟨?_⟩
    refine compT_list0 (vs := pv) (k := pc) (fun i ys => Ints ys (duesA cs (ps.take i) wd)) rfl kF kN hn8 ?hm (by omega) ?rj ?turn ?fin
    case hm => k_mem
    case rj => exact Ints.nil
    case turn =>
      intro i v ys I2 oI2 C oC D2 m₂ h tk E' hi hv hJ hC hx F₁ N₁ hn₁
      refine with_goal fun X79 hX79 => ?_
      refine ex_2 (hpi.get hv) ?_
      intro p t q9o
      refine an_2 q9o ?_
      clear q9o
      intro hpp
      intro r9q
      subst r9q
      refine hX79 ?_
      refine an_2 (hin p (List.mem_of_getElem? hpp)) ?_
      intro hp0 hp1
      obtain ⟨cd, hcd⟩ : ∃ cd, cs[p.toNat]? = some cd := ⟨cs[p.toNat]'(by omega), List.getElem?_eq_getElem (by omega)⟩
      have hck : (cs.map (·.key))[p.toNat]? = some cd.key := by rw [List.getElem?_map, hcd]; rfl
      refine ex_1 (hkeys'.get hck) ?_
      intro vk q9o
      refine an_2 q9o ?_
      clear q9o
      intro hvk hkj
      refine ex_1 (key_ref hkj) ?_
      intro kb
      intro r9q
      subst r9q
      have hko : keyOf cs p = cd.key := by unfold keyOf; rw [hcd]; rfl
      have hvf : duesA cs (ps.take (i + 1)) wd = duesA cs (ps.take i) wd ++ if decide (cd.key = .var ∨ cd.key = wd.key) then [p] else [] := by
        unfold duesA
        rw [filter_take hpp, hko]
      k_steps
      rename News _ _ _ _ => kN2
      rename DatIn l0 _ wd.dat => hv9
      (refine' in_keys (ks := [.var, wd.key]) kN2 ?ma (.cons (.tuple ?mb (.cons (.str _ _) .nil)) (.cons ?dk .nil)) (fun _ h => h) hkj ?sb ?u ?_)
      case ma => k_mem
      case mb => k_mem
      case sb => (first | exact fun p hp => hp | ((repeat' (first | refine fa_app ?_ ?_ | refine fa_cons ?_ ?_ | refine List.forall_mem_append.mpr ⟨?_, ?_⟩ | refine List.forall_mem_cons.mpr ⟨?_, ?_⟩)) <;> (first | exact List.forall_mem_nil _ | (intro p9 hp9; kp_flats) | kp_flats)))
      case u => tlg_ne
      case dk =>
        show DatIn _ _ (Key.dat wd.key)
        rw [word_key_dat, hsw]
        refine' .tuple (vs := [.str srt.tag _, _]) ?mc (.cons (.str _ _) (.cons (DatIn.mono ?sa hv9) .nil))
        case mc => k_mem
        case sa => (first | exact fun p hp => hp | ((repeat' (first | refine fa_app ?_ ?_ | refine fa_cons ?_ ?_ | refine List.forall_mem_append.mpr ⟨?_, ?_⟩ | refine List.forall_mem_cons.mpr ⟨?_, ?_⟩)) <;> (first | exact List.forall_mem_nil _ | (intro p9 hp9; kp_flats) | kp_flats)))
      k_steps
      · rename _ ∈ [Key.var, wd.key] => hz
        refine CEnd.intro _ _ (by k_asm) (by k_asm) (by k_sub) hn₁ ⟨rfl, ?_⟩
        have hq : cd.key = .var ∨ cd.key = wd.key := by simpa using hz
        rw [hvf, if_pos (decide_eq_true hq)]
        exact hJ.append (.one p t)
      · rename ¬ (_ ∈ [Key.var, wd.key]) => hz
        refine CEnd.intro _ _ (by k_asm) (by k_asm) (by k_sub) hn₁ ⟨rfl, ?_⟩
        have hq : ¬ (cd.key = .var ∨ cd.key = wd.key) := by simpa using hz
        rw [hvf, if_neg (by simpa using hq), List.append_nil]
        exact hJ
    case fin =>
      intro ys D2 h tk hJ F₁ N₁ hn₁
      dsimp only
      rw [List.take_of_length_le (Nat.le_of_eq hpi.length.symm)] at hJ
      have hyl : ys.length ≤ 8 := by rw [hJ.length]; exact Nat.le_trans (List.length_filter_le _ _) hpl
      have hnD := (nodA.mp hn₁).1
      ((first | refine peelA hnD (by with_reducible ((repeat (first | exact it_nil | (apply it_na) | (apply it_ca) | (apply it_aa) | (apply it_cons) | (apply it_app))); (try exact it_last))) ?_ | refine peelN hnD (by with_reducible ((repeat (first | exact it_nil | (apply it_na) | (apply it_ca) | (apply it_aa) | (apply it_cons) | (apply it_app))); (try exact it_last))) ?_ | refine peelR hnD (by with_reducible ((repeat (first | exact it_nil | (apply it_na) | (apply it_ca) | (apply it_aa) | (apply it_cons) | (apply it_app))); (try exact it_last))) ?_); (repeat (intro hq9)); refine Past.mk ?_)
      k_steps
      try simp only [List.toList_toArray] at *
      try dsimp only [List.nil_append, List.cons_append, List.append_nil]
      try k_fold
      k_dflt (refine' Does.use1 (fits_does w ?T fo lbl _ ys ?n (duesA cs ps wd) cs.length t1 ofo9 es9 ((?T, tupOf ys ?n) :: (add9 ++ l0)) _ ?gl List.mem_cons_self hJ (Nat.le_trans (List.length_filter_le _ _) hpl) (td9.mono ?g1) lab9 fol (Nat.lt_of_le_of_lt hle9 hfew) m4 hlb) ?P1 ?uB ?uF ?uX ?uN ?un ?uT ?uk ?uL ?ud ?uu ?_; (case uN => k_asm); (case P1 => allgen_close2_more); (case uB => k_asm); (case uF => k_asm); (case uX => k_asm); (case un => first | assumption | kat_tups); (case uT => k_asm); (case uk => rfl); (case uL => rfl); (case ud => ktr_room); (case uu => tlg_ne); (case gl => (refine List.forall_mem_cons.mpr ⟨?_, ?_⟩); (· k_mem); (intro p9 hp9; rcases List.mem_append.mp hp9 with hp9 | hp9; (· k_mem); (replace hp9 := hl0 _ hp9; k_mem))); (case g1 => exact fun _ h => List.mem_cons_of_mem _ h)); intro r' chg' add' h' tk' F' N' nod' young' post'
      refine with_goal fun X79 hX79 => ?_
      refine ex_1 (post') ?_
      (try clear post')
      intro ofo2 q9o
      refine an_4 q9o ?_
      clear q9o
      intro r9q
      subst r9q
      intro r9q
      subst r9q
      intro r9q
      subst r9q
      intro T2
      refine hX79 ?_
      simp only [List.cons_append, List.nil_append] at N' nod'
      k_steps
      rename News _ _ _ _ => kN3
      rename Fr _ _ _ _ => kF3
      dsimp only [TurnT]
      refine' ⟨rfl, PL.mk ofo2 oP8 ((?T7, tupOf ys ?n7) :: (D2, LCg.lst ys) :: add9) _, _, _, _, _, rfl, kF3, fun p hp => absurd hp List.not_mem_nil, ?hm, kst_newsOf kN3 ?hN, ?hno, ?hs, rfl, T2.mono ?ht, chainA_labels lab9, link10, _, hcp⟩
      case hN => (first | exact fun p hp => hp | ((repeat' (first | refine fa_app ?_ ?_ | refine fa_cons ?_ ?_ | refine List.forall_mem_append.mpr ⟨?_, ?_⟩ | refine List.forall_mem_cons.mpr ⟨?_, ?_⟩)) <;> (first | exact List.forall_mem_nil _ | (intro p9 hp9; kp_flats) | kp_flats)))
      case hno => (first | assumption | (refine nod_of_count (by assumption) (fun a9 => ?_); (try simp only [List.cons_append, List.nil_append, List.map_append, List.map_cons, List.map_nil, List.count_append, List.count_cons, List.count_nil]); omega))
      case hs => (first | exact fun p hp => hp | ((repeat' (first | refine fa_app ?_ ?_ | refine fa_cons ?_ ?_ | refine List.forall_mem_append.mpr ⟨?_, ?_⟩ | refine List.forall_mem_cons.mpr ⟨?_, ?_⟩)) <;> (first | exact List.forall_mem_nil _ | (intro p9 hp9; kp_flats) | kp_flats)))
      case ht => (first | exact fun p hp => hp | ((repeat' (first | refine fa_app ?_ ?_ | refine fa_cons ?_ ?_ | refine List.forall_mem_append.mpr ⟨?_, ?_⟩ | refine List.forall_mem_cons.mpr ⟨?_, ?_⟩)) <;> (first | exact List.forall_mem_nil _ | (intro p9 hp9; kp_flats) | kp_flats)))
      case hm =>
        intro z z2 z3
        have y0 : z ≠ Str.ofString "due" := ne_con z3 (by simp)
        simp only [if_neg y0, z3, Bool.false_eq_true, if_false]
  case done =>
    rintro ⟨ofo9, oP9, add9, es9⟩ nx u h tk hJ79 hl hn F2 N2
    refine with_goal fun X79 hX79 => ?_
    refine an_5 (hJ79) ?_
    (try clear hJ79)
    intro r9q
    subst r9q
    intro td9
    intro lab9
    intro link9
    intro q9o
    refine ex_1 q9o ?_
    clear q9o
    intro x9 cP9
    refine hX79 ?_
    dsimp only at td9 lab9 link9 cP9 hn N2 F2
    rw [hP.length] at link9
    obtain rfl := link9.end
    dsimp only [kstB] at F2
    k_steps
    rename News _ _ _ _ => kN3
    rename Fr _ _ _ _ => kF3
    refine' hret _ ⟨us, c, nl, tn, cv, cc, okn, ofo9, oS, oP9, oW, es9⟩ add9 _ _ kF3 ?hm kN3 hn ⟨⟨figs, bs.mono ?sa, td9, hgood, ⟨_, hS⟩, ⟨_, cP9⟩, ⟨_, cW⟩⟩, rfl⟩
    case sa => exact fun p hp => List.mem_append_right _ hp
    case hm =>
      intro z hz
      simp only [hz, Bool.false_eq_true, if_false]
      (first | ((repeat (first | with_reducible rfl | with_reducible assumption | refine kp_st (by with_reducible assumption) ?_ | refine kp_set (by exact kp_con hz (by ((repeat (with_reducible_and_instances first | exact List.Mem.head _ | refine List.Mem.tail _ ?_)); (first | done | fail "open")))) ?_ | refine kp_same (by assumption) ?_ | exact rfl)); done) | ((repeat' split) <;> first | rfl | (rename_i e9; subst e9; first | assumption | (symm; assumption) | (exfalso; revert hz; simp)) | (rename_i e9 _; subst e9; first | (symm; assumption) | (exfalso; revert hz; simp))))

end
section
theorem offWayA2 : True := by
  w_top off
  trivial
local macro_rules | `(tactic| walk_at "zz") => `(tactic| skip)

local macro_rules | `(tactic| walk_at "call type:list") => `(tactic| (k_here; (with_reducible show wpAny _ _ (call (Value.type _) [Value.ref _]) _ _ _); k_dflt (refine' kup_listOfT ?F ?N ?b ?e ?_ ?z; (case F => k_asm); (case N => k_asm); (case b => k_mem); (case e => exact rfl); (case z => (simp only [sizeLine_eq, List.size_toArray, List.toList_toArray]; omega))); intro D' c' h' F' N' l1; (try k_lt l1); (try k_sweep)))
local macro_rules | `(tactic| walk_at "call type:list") => `(tactic| (k_here; (with_reducible show wpAny _ _ (call (Value.type _) [Value.ref _]) _ _ _); k_dflt (refine' kup_listOf ?F ?N ?b ?e ?_ ?z; (case F => k_asm); (case N => k_asm); (case b => k_mem); (case e => exact rfl); (case z => (simp only [sizeLine_eq, List.size_toArray, List.toList_toArray]; omega))); intro D' c' h' F' N' l1; (try k_lt l1); (try k_sweep)))
local macro_rules | `(tactic| walk_at "pyIter ref") => `(tactic| (k_here; (with_reducible show wpAny _ _ (pyIter (Value.ref _)) _ _ _); refine Held.out ?_))
local macro_rules | `(tactic| walk_at "SrcTup") => `(tactic| (k_here; refine Held.out ?_))
local macro_rules | `(tactic| walk_at "compareOp NotEq ref ref") => `(tactic| (k_here; (with_reducible show wpAny _ _ (compareOp CmpOp.NotEq (Value.ref _) (Value.ref _)) _ _ _); refine Held.out ?_))
local macro_rules | `(tactic| walk_at "eval ListComp") => `(tactic| (k_here; refine Held.out ?_))
local macro_rules | `(tactic| walk_at "execs cons") => `(tactic| (k_here; (with_reducible show wpAny _ _ (execs (Stmt.For _ _ _ _ _ :: _) _) _ _ _); refine Held.out ?_))
local macro_rules | `(tactic| walk_at "subscriptTail") => `(tactic| (k_here; (with_reducible show wpAny _ _ (subscriptTail _ _ (Value.ref _) (Value.int _ _)) _ _ _); k_dflt (refine' item_dat ?N ?D ?s ?a ?b ?d ?_; (case D => with_reducible assumption); (case N => k_asm); (case a => first | decide | omega); (case b => first | decide | omega); (case d => assumption); (case s => (first | exact fun p hp => hp | ((repeat' (first | refine fa_app ?_ ?_ | refine fa_cons ?_ ?_ | refine List.forall_mem_append.mpr ⟨?_, ?_⟩ | refine List.forall_mem_cons.mpr ⟨?_, ?_⟩)) <;> (first | exact List.forall_mem_nil _ | (intro p9 hp9; kp_flats) | kp_flats))))); intro v9 d9; (try (obtain ⟨t9, e9⟩ := dat_int d9; subst e9))))

section
variable {prog : Program} {w : World} {A : Around} {E : Value → Shared → Prop} {s : Shared} {h₀ : Heap} {L : Addr} {m : Str → Option Value} {env : Env} {elt : Expr} {x : Str} {scope : Scope} {cl : List (Str × Addr)}
def SrcTup (prog : Program) (w : World) (A : Around) (h₀ : Heap) (L : Addr) (m : Str → Option Value) (env : Env) (elt : Expr) (x : Str) (scope : Scope) (cl : List (Str × Addr)) (Q : Value → Shared → Prop) (xv : Value) (s₁ : Shared) : Prop :=
  ∃ ax vs k news, xv = .ref ax ∧ A.handled = none ∧ Fr h₀ L s₁.heap m ∧ News h₀ L s₁.heap news ∧ Nod news ∧ (ax, tupOf vs k) ∈ news ∧ vs.length ≤ 400 ∧
      ∃ J : Nat → List Value → Led → Prop, J 0 [] news ∧
      (∀ i v ys nx I oI C oC D m₂ h tk (E' : Value → Shared → Prop), i < vs.length → vs[i]? = some v → J i ys nx → (ax, tupOf vs k) ∈ nx → LCg.NsObj oC m₂ → m₂ x = some v → Fr h₀ L h m → News h₀ L h ((I, oI) :: (C, oC) :: (D, LCg.lst ys) :: nx) → Nod ((I, oI) :: (C, oC) :: (D, LCg.lst ys) :: nx) →
        wpAny (model prog w) A (eval elt (compEnvC scope cl C env)) (CEnd h₀ L m { s₁ with heap := h, toks := tk } I oI C oC D (LCg.lst ys) (fun y nx' => (ax, tupOf vs k) ∈ nx' ∧ J (i + 1) (ys ++ [y]) nx')) E' { s₁ with heap := h, toks := tk }) ∧
      (∀ ys nx D h tk, J vs.length ys nx → (ax, tupOf vs k) ∈ nx → Fr h₀ L h m → News h₀ L h ((D, LCg.lst ys) :: nx) → Nod ((D, LCg.lst ys) :: nx) → Q (.ref D) { s₁ with heap := h, toks := tk })
theorem compU_tuple2 {iter : Expr} {px : Pos} {pos : Pos} {Q : Value → Shared → Prop} (F₀ : Fr h₀ L s.heap m)
    (hclos : closureFor scope env = pure cl) (hcell : ∀ y ∈ scope.names, y.2 ≠ .cell) (hkind : scope.kind = .function)
    (hnames : ∀ y ∈ scope.names, y.2 = .local → scope.names.lookup y.1 = some .local) (hx : scope.names.lookup x = some .local)
    (h : wpAny (model prog w) A (eval iter env) (SrcTup prog w A h₀ L m env elt x scope cl Q) E s)
    (hs : ∀ x, foldedSetIterable iter env x = pure x := by intro _; rfl) :
    wpAny (model prog w) A (eval (.ListComp elt [⟨.Name x px, iter, [], 0⟩] scope pos) env) Q E s :=
  compU_tuple F₀ hclos hcell hkind hnames hx (wpAny_mono h (fun _ _ q => q) fun _ _ e => e) hs
end
open Classical in
theorem ne_lists {prog : Program} {w : World} {A : Around} {E : Value → Shared → Prop} {s : Shared} {h₀ : Heap} {L a b : Addr} {news n₁ n₂ : Led} {xs ys : List Value} {ka kb : Nat} {ds es : List Dat} {Q : Value → Shared → Prop}
    (N : News h₀ L s.heap news) (ma : (a, listOf xs.toArray ka) ∈ news) (Da : DatAll n₁ xs ds) (sa : ∀ p ∈ n₁, p ∈ news) (mb : (b, listOf ys.toArray kb) ∈ news) (Db : DatAll n₂ ys es) (sb : ∀ p ∈ n₂, p ∈ news)
    (ha : ∀ d ∈ ds, kqdOk 8 d = true) (hb : ∀ d ∈ es, kqdOk 8 d = true) (hu : A.units + 64 < cLine) (he : ds = es) (h : Q (.bool false) s) : wpAny (model prog w) A (compareOp .NotEq (.ref a) (.ref b)) Q E s :=
  kqd_ne N ma rfl rfl Da sa mb rfl rfl Db sb ha hb hu (by rw [decide_eq_true he]; exact h)
theorem word_ok (wd : Word) : kqdOk 8 wd.dat = true := by cases wd <;> simp [Word.dat, kqdOk]

theorem wayA2 (w : World) (K : LK) (S : LS) (l0 rest : Led) (srt : Srt) (tk t1 : Tok) (wl : Addr) (wv : List Value) (wc : Nat) (pa : Addr) (pv : List Value) (pc : Nat) (ps : List Int)
    (hwl : (wl, listOf wv.toArray wc) ∈ l0) (hW : DatAll l0 wv ((wordsN K.cs ps srt ps.length).map Word.dat)) (hpa : (pa, listOf pv.toArray pc) ∈ l0) (hpi : Ints pv ps) (hpl : ps.length ≤ 8) (hin : ∀ p ∈ ps, 0 ≤ p ∧ p < K.cs.length)
    (hS : S.oS.data = .cell (some (.str srt.tag tk))) (O : SOK w K l0 S) (hfew : S.es.length + 8 < 400) :
    Piece0 w (fun b => (selIf 3 (selFor 8 b)).drop 3) K S l0 rest [Str.ofString "pairs", Str.ofString "due"]
      [(Str.ofString "many", .int K.cs.length t1), (Str.ofString "builder", .ref K.ba), (Str.ofString "found", .ref K.fo), (Str.ofString "words", .ref wl), (Str.ofString "places", .ref pa)]
      (fun _ S' add => SOK w K (add ++ l0) S' ∧ S'.es.length ≤ S.es.length + 8) := by
  obtain ⟨fa, ka, co, ba, bd, ro, ch, kn, fo, kv, cdv, kc, cdn, cs, oF, oK, x, ar, ta⟩ := K
  obtain ⟨us, c, nl, tn, cv, cc, okn, ofo, oS, oP, oW, es⟩ := S
  unfold Piece0
  intro name qual params body scope dV kV doc pm cdv9 ct oc an od osl ho
  refine fn_use ho (by exact rfl) ?_
  clear ho
  intro ho
  k_fill
  intro dp un gd outer A₀ base h₀ L f cd m s mean mg mb Q E _ B F X N hnod hl0 W T hd hu hnm hret
  have W0 := W
  refine LW.use W ?_
  intro oFm oFd oKm oKd kam hkeys com cods inst m1 m4 knl fol
  refine SOK.use O ?_
  intro hfig hbs htd hgood xS cS xP cP xW cW
  try dsimp only at *
  replace oFm := hl0 _ oFm
  replace oKm := hl0 _ oKm
  replace kam := hl0 _ kam
  replace com := hl0 _ com
  replace inst := hl0 _ inst
  have hn1 := hnm _ List.mem_cons_self
  have hn2 := hnm _ (List.mem_cons_of_mem _ List.mem_cons_self)
  have hn3 := hnm _ (List.mem_cons_of_mem _ (List.mem_cons_of_mem _ List.mem_cons_self))
  have hn4 := hnm _ (List.mem_cons_of_mem _ (List.mem_cons_of_mem _ (List.mem_cons_of_mem _ List.mem_cons_self)))
  have hn5 := hnm _ (List.mem_cons_of_mem _ (List.mem_cons_of_mem _ (List.mem_cons_of_mem _ (List.mem_cons_of_mem _ List.mem_cons_self))))
  dsimp only at hn1 hn2 hn3 hn4 hn5
  replace F := fr_named F hnm
  try dsimp only [withN] at F
  conv => enter [3, 1]; whnf
  dsimp only [stLed, List.cons_append, List.nil_append] at N hnod
  have hnA := nodA.mp hnod
  ((first | refine peelA hnA (by with_reducible ((repeat (first | exact it_nil | (apply it_na) | (apply it_ca) | (apply it_aa) | (apply it_cons) | (apply it_app))); (try exact it_last))) ?_ | refine peelN hnA (by with_reducible ((repeat (first | exact it_nil | (apply it_na) | (apply it_ca) | (apply it_aa) | (apply it_cons) | (apply it_app))); (try exact it_last))) ?_ | refine peelR hnA (by with_reducible ((repeat (first | exact it_nil | (apply it_na) | (apply it_ca) | (apply it_aa) | (apply it_cons) | (apply it_app))); (try exact it_last))) ?_); (repeat (intro hq9)); refine Past.mk ?_)
  have hpvl : pv.length ≤ 8 := by rw [hpi.length]; exact hpl
  have hpa' := hl0 _ hpa
  have hwl' := hl0 _ hwl
  try k_fold
  k_steps
  try dsimp only [List.nil_append, List.cons_append, List.append_nil]
  try k_fold
  k_dflt (refine' Does.use3 (table_does w ba bd co ro ch kn pa x ar ta nl tn cv cc okn cdv cdn cs pv pc ps cs.length es l0 _ ?gl srt tk ?g1 ?g2 cods ?g3 hpi hpl hin m4 hbs knl hfew) ?P1 ?P2 ?P3 ?uB ?uF ?uX ?uN ?un ?uT ?uk ?uL ?ud ?uu ?_; (case uN => k_asm); (case P1 => allgen_close2_more); (case P2 => allgen_close2_more); (case P3 => allgen_close2_more); (case uB => k_asm); (case uF => k_asm); (case uX => k_asm); (case un => first | assumption | kat_tups); (case uT => k_asm); (case uk => rfl); (case uL => rfl); (case ud => ktr_room); (case uu => tlg_ne); (case gl => intro p9 hp9; replace hp9 := hl0 _ hp9; k_mem); (case g1 => k_mem); (case g2 => k_mem); (case g3 => k_mem)); intro r' chg' add' h' tk' F' N' nod' young' post'
  refine with_goal fun X79 hX79 => ?_
  refine ex_8 (post') ?_
  (try clear post')
  intro D vs n nl2 tn2 cv2 cc2 okn2 q9o
  refine an_5 q9o ?_
  clear q9o
  intro r9q
  subst r9q
  intro r9q
  subst r9q
  intro hD
  intro hP
  intro S2
  refine hX79 ?_
  simp only [List.cons_append, List.nil_append] at N' nod'
  dsimp only [bDict] at N'
  have N3 : News h₀ L h' ((fa, listOf us.toArray c) :: (bd, bDict x ar ta co ro ch kn nl2 tn2) :: (ch, listOf cv2.toArray cc2) :: (kn, okn2) :: (fo, ofo) :: (L + 1 + 1 + 1, oS) :: (L + 1 + 1 + 1 + 1, oP) :: (L + 1 + 1 + 1 + 1 + 1, oW) :: (add' ++ rest)) := kst_newsOf N' (by (first | exact fun p hp => hp | ((repeat' (first | refine fa_app ?_ ?_ | refine fa_cons ?_ ?_ | refine List.forall_mem_append.mpr ⟨?_, ?_⟩ | refine List.forall_mem_cons.mpr ⟨?_, ?_⟩)) <;> (first | exact List.forall_mem_nil _ | (intro p9 hp9; kp_flats) | kp_flats))))
  have nod3 : Nod ((fa, listOf us.toArray c) :: (bd, bDict x ar ta co ro ch kn nl2 tn2) :: (ch, listOf cv2.toArray cc2) :: (kn, okn2) :: (fo, ofo) :: (L + 1 + 1 + 1, oS) :: (L + 1 + 1 + 1 + 1, oP) :: (L + 1 + 1 + 1 + 1 + 1, oW) :: (add' ++ rest)) := by (first | assumption | (refine nod_of_count (by assumption) (fun a9 => ?_); (try simp only [List.cons_append, List.nil_append, List.map_append, List.map_cons, List.map_nil, List.count_append, List.count_cons, List.count_nil]); omega))
  clear N' nod' N hnod young'
  have hnB := nodA.mp nod3
  ((first | refine peelA hnB (by with_reducible ((repeat (first | exact it_nil | (apply it_na) | (apply it_ca) | (apply it_aa) | (apply it_cons) | (apply it_app))); (try exact it_last))) ?_ | refine peelN hnB (by with_reducible ((repeat (first | exact it_nil | (apply it_na) | (apply it_ca) | (apply it_aa) | (apply it_cons) | (apply it_app))); (try exact it_last))) ?_ | refine peelR hnB (by with_reducible ((repeat (first | exact it_nil | (apply it_na) | (apply it_ca) | (apply it_aa) | (apply it_cons) | (apply it_app))); (try exact it_last))) ?_); (repeat (intro hq9)); refine Past.mk ?_)
  have htA : tableA cs.length cs ps srt es = tableN cs.length cs ps srt es ps.length := tableA_N
  have hlen := tableN_len cs.length cs ps srt es ps.length (Nat.le_refl _)
  have hwt := words_table cs.length cs ps srt es ps.length (Nat.le_refl _)
  have hlk := table_linked cs.length cs ps srt es ps.length (Nat.le_refl _)
  have hst := table_sorts cs.length cs ps srt es ps.length (Nat.le_refl _)
  rw [htA] at hP S2
  generalize tableN cs.length cs ps srt es ps.length = tb at hP S2 hlen hwt hlk hst
  obtain ⟨prs, es2⟩ := tb
  dsimp only at hP S2 hlen hwt hlk hst
  have hvl : vs.length ≤ 8 := by rw [hP.length]; omega
  k_steps
  rename News h₀ L _ _ => kN
  rename Fr h₀ L _ _ => kF
  refine ⟨?_⟩
  k_dflt (refine compU_tuple2 (F₀ := by k_asm) (by with_unfolding_all rfl) (by decide) (by rfl) (by decide) (by rfl) ?_)
  k_steps
  rename News h₀ L _ _ => kN
  rename Fr h₀ L _ _ => kF
  refine ⟨?_⟩
  refine' ⟨_, vs, n, ?led, rfl, rfl, kF, kN, nod3, ?mm, ?ll, fun i ys nx => nx = ?led ∧ DatAll (add' ++ l0) ys ((prs.take i).map fun pr => pr.1.dat), ⟨rfl, .nil⟩, ?turn, ?fin⟩
  case mm => k_mem
  case ll => omega
  case turn =>
    rintro i v ys nx I oI C oC D2 m₂ h tk E' hi hv ⟨rfl, hJ⟩ hmm hC hx F₁ N₁ hn₁
    refine with_goal fun X79 hX79 => ?_
    obtain ⟨⟨wd, lbl⟩, hpr, dpr⟩ := hP.getL hv
    refine hX79 ?_
    dsimp only at dpr
    refine with_goal fun X79 hX79 => ?_
    refine ex_1 (dat_tup dpr) ?_
    intro pp q9o
    refine an_2 q9o ?_
    clear q9o
    intro r9q
    subst r9q
    intro dpr
    refine hX79 ?_
    obtain ⟨ds, hds, hd0⟩ : ∃ ds, Dat.tuple [wd.dat, .int lbl] = .tuple ds ∧ ds[(0 : Int).toNat]? = some wd.dat := ⟨_, rfl, rfl⟩
    rw [hds] at dpr
    k_steps
    rename DatIn _ _ wd.dat => hv9
    refine CEnd.intro _ _ (by k_asm) (by k_asm) (by k_sub) hn₁ ⟨hmm, rfl, ?_⟩
    rw [List.take_add_one, hpr, List.map_append]
    exact hJ.append (.cons hv9 .nil)
  case fin =>
    rintro ys nx D2 h tk ⟨rfl, hJ⟩ hmm F₁ N₁ hn₁
    dsimp only
    rw [hP.length, List.take_length] at hJ
    have hnD := (nodA.mp hn₁).1
    ((first | refine peelA hnD (by with_reducible ((repeat (first | exact it_nil | (apply it_na) | (apply it_ca) | (apply it_aa) | (apply it_cons) | (apply it_app))); (try exact it_last))) ?_ | refine peelN hnD (by with_reducible ((repeat (first | exact it_nil | (apply it_na) | (apply it_ca) | (apply it_aa) | (apply it_cons) | (apply it_app))); (try exact it_last))) ?_ | refine peelR hnD (by with_reducible ((repeat (first | exact it_nil | (apply it_na) | (apply it_ca) | (apply it_aa) | (apply it_cons) | (apply it_app))); (try exact it_last))) ?_); (repeat (intro hq9)); refine Past.mk ?_)
    k_steps
    rename News h₀ L _ _ => kN
    rename Fr h₀ L _ _ => kF
    refine ⟨?_⟩
    refine' ne_lists kN ?a hJ ?sa ?b hW ?sb ?ha ?hb ?u ?he ?_
    case a => k_mem
    case b => k_mem
    case sa => (first | exact fun p hp => hp | ((repeat' (first | refine fa_app ?_ ?_ | refine fa_cons ?_ ?_ | refine List.forall_mem_append.mpr ⟨?_, ?_⟩ | refine List.forall_mem_cons.mpr ⟨?_, ?_⟩)) <;> (first | exact List.forall_mem_nil _ | (intro p9 hp9; kp_flats) | kp_flats)))
    case sb => exact fun p hp => (by replace hp := hl0 _ hp; k_mem)
    case ha =>
      intro d hd
      refine with_goal fun X79 hX79 => ?_
      refine ex_1 (List.mem_map.mp hd) ?_
      intro pr q9o
      refine an_2 q9o ?_
      clear q9o
      intro _
      intro r9q
      subst r9q
      refine hX79 ?_
      exact word_ok _
    case hb =>
      intro d hd
      refine with_goal fun X79 hX79 => ?_
      refine ex_1 (List.mem_map.mp hd) ?_
      intro wd q9o
      refine an_2 q9o ?_
      clear q9o
      intro _
      intro r9q
      subst r9q
      refine hX79 ?_
      exact word_ok _
    case u => tlg_ne
    case he =>
      rw [← hwt, List.map_map]
      rfl
    k_steps
    rename News h₀ L _ _ => kN
    rename Fr h₀ L _ _ => kF
    refine ⟨?_⟩
    refine' wayA3 w ⟨fa, ka, co, ba, bd, ro, ch, kn, fo, kv, cdv, kc, cdn, cs, oF, oK, x, ar, ta⟩ ⟨us, c, nl2, tn2, cv2, cc2, okn2, ofo, oS, oP, oW, es2⟩ (add' ++ l0) ((D2, LCg.lst ys) :: (add' ++ rest)) srt _ t1 D vs n prs pa pv pc ps es
      (List.mem_append_left _ hD) hP (Nat.le_trans hlen.2 hpl) (List.mem_append_right _ hpa) hpi hpl hin hS hst hfig S2 (htd.mono ?sa) hbs.labels (hlk.good hpl hgood) ⟨_, cP⟩ ⟨_, cW⟩ hlk ?few ho _ _ _ _ _ _ _ _ _ _ _ _ _ _ _ _ _ rfl B kF X ?hN ?hno ?sb (W0.mono ?sa) (by k_asm) hd hu ?hnm ?hr
    case sa => exact fun p hp => List.mem_append_right _ hp
    case sb =>
      intro p hp
      rcases List.mem_append.mp hp with hp | hp
      · exact List.mem_cons_of_mem _ (List.mem_append_left _ hp)
      · exact List.mem_cons_of_mem _ (List.mem_append_right _ (hl0 p hp))
    case few => have := hlen.1; dsimp only; omega
    case hN => exact kst_newsOf kN (by (first | exact fun p hp => hp | ((repeat' (first | refine fa_app ?_ ?_ | refine fa_cons ?_ ?_ | refine List.forall_mem_append.mpr ⟨?_, ?_⟩ | refine List.forall_mem_cons.mpr ⟨?_, ?_⟩)) <;> (first | exact List.forall_mem_nil _ | (intro p9 hp9; kp_flats) | kp_flats))))
    case hno => exact hn₁.perm (by dsimp only [stLed, List.cons_append, List.nil_append]; exact (List.perm_middle (l₁ := [_, _, _, _, _, _, _, _])).symm)
    case hnm => first | ((repeat (first | exact fr_nil | refine fr_cons (by rfl) ?_)); done) | (intro p hp; ((repeat (rcases List.mem_cons.mp hp with rfl | hp; (· rfl))); exact absurd hp List.not_mem_nil))
    case hr =>
      intro m3 S3 add3 h3 tk3 F3 keep3 N3' nod3' O3
      refine an_2 (O3) ?_
      (try clear O3)
      intro O3 e3
      refine' hret m3 S3 (add3 ++ ((D2, LCg.lst ys) :: add')) h3 tk3 F3 ?hm ?hN ?hno ⟨O3.mono ?sc, ?le⟩
      case hN => rw [List.append_assoc add3]; exact N3'
      case hno => rw [List.append_assoc add3]; exact nod3'
      case sc =>
        intro p hp
        rw [List.append_assoc]
        rcases List.mem_append.mp hp with hp | hp
        · exact List.mem_append_left _ hp
        · exact List.mem_append_right _ (List.mem_cons_of_mem _ hp)
      case le => have := hlen.1; rw [e3]; dsimp only; omega
      case hm =>
        intro z hz
        refine (keep3 z (kp_sub hz (by decide +kernel))).trans ?_
        (first | ((repeat (first | with_reducible rfl | with_reducible assumption | refine kp_st (by with_reducible assumption) ?_ | refine kp_set (by exact kp_con hz (by ((repeat (with_reducible_and_instances first | exact List.Mem.head _ | refine List.Mem.tail _ ?_)); (first | done | fail "open")))) ?_ | refine kp_same (by assumption) ?_ | exact rfl)); done) | ((repeat' split) <;> first | rfl | (rename_i e9; subst e9; first | assumption | (symm; assumption) | (exfalso; revert hz; simp)) | (rename_i e9 _; subst e9; first | (symm; assumption) | (exfalso; revert hz; simp))))

end
section
theorem offWayA1 : True := by
  w_top off
  trivial

local macro_rules | `(tactic| walk_at "call type:list") => `(tactic| (k_here; (with_reducible show wpAny _ _ (call (Value.type _) [Value.ref _]) _ _ _); k_dflt (refine' kup_listOfT ?F ?N ?b ?e ?_ ?z; (case F => k_asm); (case N => k_asm); (case b => k_mem); (case e => exact rfl); (case z => (simp only [sizeLine_eq, List.size_toArray, List.toList_toArray]; omega))); intro D' c' h' F' N' l1; (try k_lt l1); (try k_sweep)))
local macro_rules | `(tactic| walk_at "call type:list") => `(tactic| (k_here; (with_reducible show wpAny _ _ (call (Value.type _) [Value.ref _]) _ _ _); k_dflt (refine' kup_listOf ?F ?N ?b ?e ?_ ?z; (case F => k_asm); (case N => k_asm); (case b => k_mem); (case e => exact rfl); (case z => (simp only [sizeLine_eq, List.size_toArray, List.toList_toArray]; omega))); intro D' c' h' F' N' l1; (try k_lt l1); (try k_sweep)))
local macro_rules | `(tactic| walk_at "pyIter ref") => `(tactic| (k_here; (with_reducible show wpAny _ _ (pyIter (Value.ref _)) _ _ _); refine Held.out ?_))
local macro_rules | `(tactic| walk_at "subscriptTail") => `(tactic| (k_here; (with_reducible show wpAny _ _ (subscriptTail _ _ (Value.ref _) (Value.int _ _)) _ _ _); k_dflt (refine' item_dat ?N ?D ?s ?a ?b ?d ?_; (case D => with_reducible assumption); (case N => k_asm); (case a => first | decide | omega); (case b => first | decide | omega); (case d => assumption); (case s => (first | exact fun p hp => hp | ((repeat' (first | refine fa_app ?_ ?_ | refine fa_cons ?_ ?_ | refine List.forall_mem_append.mpr ⟨?_, ?_⟩ | refine List.forall_mem_cons.mpr ⟨?_, ?_⟩)) <;> (first | exact List.forall_mem_nil _ | (intro p9 hp9; kp_flats) | kp_flats))))); intro v9 d9; (try (obtain ⟨t9, e9⟩ := dat_str d9; subst e9))))
local macro_rules | `(tactic| walk_at "compareOp Eq str str") => `(tactic| (k_here; k_dflt (refine' eq_str_known ?h ?_; (case h => with_reducible assumption); k_whole)))
local macro_rules | `(tactic| walk_at "compareOp NotIn") => `(tactic| (k_here; (with_reducible show wpAny _ _ (compareOp CmpOp.NotIn _ (Value.ref _)) _ _ _); refine Held.out ?_))
local macro_rules | `(tactic| walk_at "execs cons") => `(tactic| (k_here; (with_reducible show wpAny _ _ (execs (Stmt.Assign [Expr.Name _ _] (Expr.Call (Expr.Attribute _ _ _) _ _ _) _ :: Stmt.If _ _ _ _ :: _) _) _ _ _); refine Held.out ?_))

theorem notin_words {prog : Program} {w : World} {A : Around} {E : Value → Shared → Prop} {s : Shared} {h₀ : Heap} {L a : Addr} {news n₁ n₂ : Led} {xs : List Value} {ka : Nat} {ws : List Word} {wd : Word} {x : Value} {Q : Value → Shared → Prop}
    (N : News h₀ L s.heap news) (ma : (a, listOf xs.toArray ka) ∈ news) (Da : DatAll n₁ xs (ws.map Word.dat)) (sa : ∀ p ∈ n₁, p ∈ news) (Dx : DatIn n₂ x wd.dat) (sx : ∀ p ∈ n₂, p ∈ news)
    (hu : A.units + 64 < cLine) (h : Q (.bool (!decide (wd ∈ ws))) s) : wpAny (model prog w) A (compareOp .NotIn x (.ref a)) Q E s := by
  classical
  refine kqd_notIn N ma rfl rfl Da sa Dx sx ?_ (word_ok _) hu ?_
  · intro d hd
    refine with_goal fun X79 hX79 => ?_
    refine ex_1 (List.mem_map.mp hd) ?_
    intro wd q9o
    refine an_2 q9o ?_
    clear q9o
    intro _
    intro r9q
    subst r9q
    refine hX79 ?_
    exact word_ok _
  · have hm : wd.dat ∈ ws.map Word.dat ↔ wd ∈ ws := by
      rw [List.mem_map]
      constructor
      · rintro ⟨j, hj, e⟩
        have : j = wd := by
          cases j <;> cases wd <;> simp_all [Word.dat]
        rw [← this]; exact hj
      · exact fun hj => ⟨wd, hj, rfl⟩
    by_cases hq : wd ∈ ws
    · rw [decide_eq_true (hm.mpr hq)]; rw [decide_eq_true hq] at h; exact h
    · rw [decide_eq_false (fun q => hq (hm.mp q))]; rw [decide_eq_false hq] at h; exact h

theorem led_one {h₀ h : Heap} {L a : Addr} {o : Obj} {r : Led} {P : Prop} (N : News h₀ L h ((a, o) :: r)) (k : ∀ a', a' = a → News h₀ L h ((a', o) :: r) → P) : P := k a rfl N
theorem led_two {h₀ h : Heap} {L a b : Addr} {o o2 : Obj} {r : Led} {P : Prop} (N : News h₀ L h ((a, o) :: (b, o2) :: r)) (k : ∀ a' b' o', a' = a → b' = b → News h₀ L h ((a', o) :: (b', o') :: r) → P) : P := k a b o2 rfl rfl N

theorem wayA1 (w : World) (K : LK) (S : LS) (l0 rest : Led) (srt : Srt) (tk t1 : Tok) (pa : Addr) (pv : List Value) (pc : Nat) (ps : List Int)
    (hpa : (pa, listOf pv.toArray pc) ∈ l0) (hpi : Ints pv ps) (hpl : ps.length ≤ 8) (hin : ∀ p ∈ ps, 0 ≤ p ∧ p < K.cs.length) (hfew : S.es.length + 8 < 400) (hS : S.oS.data = .cell (some (.str srt.tag tk))) (O : SOK w K l0 S) :
    Piece0 w (fun b => (selIf 3 (selFor 8 b)).drop 1) K S l0 rest [Str.ofString "words", Str.ofString "place", Str.ofString "pairs", Str.ofString "due"]
      [(Str.ofString "many", .int K.cs.length t1), (Str.ofString "builder", .ref K.ba), (Str.ofString "found", .ref K.fo), (Str.ofString "places", .ref pa)]
      (fun _ S' add => SOK w K (add ++ l0) S' ∧ S'.es.length ≤ S.es.length + 8) := by
  obtain ⟨fa, ka, co, ba, bd, ro, ch, kn, fo, kv, cdv, kc, cdn, cs, oF, oK, x, ar, ta⟩ := K
  obtain ⟨us, c, nl, tn, cv, cc, okn, ofo, oS, oP, oW, es⟩ := S
  unfold Piece0
  intro name qual params body scope dV kV doc pm cdv9 ct oc an od osl ho
  refine fn_use ho (by exact rfl) ?_
  clear ho
  intro ho
  k_fill
  intro dp un gd outer A₀ base h₀ L f cd m s mean mg mb Q E _ B F X N hnod hl0 W T hd hu hnm hret
  have W0 := W
  have O0 := O
  refine LW.use W ?_
  intro oFm oFd oKm oKd kam hkeys com cods inst m1 m4 knl fol
  refine SOK.use O ?_
  intro hfig hbs htd hgood xS cS xP cP xW cW
  try dsimp only at *
  replace oFm := hl0 _ oFm
  replace oKm := hl0 _ oKm
  replace kam := hl0 _ kam
  replace com := hl0 _ com
  replace inst := hl0 _ inst
  have hn1 := hnm _ List.mem_cons_self
  have hn2 := hnm _ (List.mem_cons_of_mem _ List.mem_cons_self)
  have hn3 := hnm _ (List.mem_cons_of_mem _ (List.mem_cons_of_mem _ List.mem_cons_self))
  have hn4 := hnm _ (List.mem_cons_of_mem _ (List.mem_cons_of_mem _ (List.mem_cons_of_mem _ List.mem_cons_self)))
  dsimp only at hn1 hn2 hn3 hn4
  replace F := fr_named F hnm
  try dsimp only [withN] at F
  conv => enter [3, 1]; whnf
  dsimp only [stLed, List.cons_append, List.nil_append] at N hnod
  have hnA := nodA.mp hnod
  ((first | refine peelA hnA (by with_reducible ((repeat (first | exact it_nil | (apply it_na) | (apply it_ca) | (apply it_aa) | (apply it_cons) | (apply it_app))); (try exact it_last))) ?_ | refine peelN hnA (by with_reducible ((repeat (first | exact it_nil | (apply it_na) | (apply it_ca) | (apply it_aa) | (apply it_cons) | (apply it_app))); (try exact it_last))) ?_ | refine peelR hnA (by with_reducible ((repeat (first | exact it_nil | (apply it_na) | (apply it_ca) | (apply it_aa) | (apply it_cons) | (apply it_app))); (try exact it_last))) ?_); (repeat (intro hq9)); refine Past.mk ?_)
  have hpvl : pv.length ≤ 8 := by rw [hpi.length]; exact hpl
  have hpa' := hl0 _ hpa
  try k_fold
  refine wpAny_noRaise ?_
  k_steps
  refine ⟨?_⟩
  rename News h₀ L _ _ => kN0
  refine led_one kN0 ?_
  intro wl e1 kN
  subst e1
  clear kN0
  rename Fr h₀ L _ _ => kF
  apply loop_list (σ := List Value × Nat) (fun _ => []) []
    (fun i c9 nx => nx = (wl, listOf c9.1.toArray c9.2) :: (fa, listOf us.toArray c) :: (bd, bDict x ar ta co ro ch kn nl tn) :: (ch, listOf cv.toArray cc) :: (kn, okn) :: (fo, ofo) :: (L + 1 + 1 + 1, oS) :: (L + 1 + 1 + 1 + 1, oP) :: (L + 1 + 1 + 1 + 1 + 1, oW) :: rest ∧
      DatAll l0 c9.1 ((wordsN cs ps srt i).map Word.dat))
    ([], 0)
  case hh => rfl
  case F => exact kF
  case N => exact kN
  case hj => exact ⟨rfl, .nil⟩
  case hl => k_mem
  case hn => kat_tups
  case hk => exact fun p hp => absurd hp List.not_mem_nil
  case turn =>
    rintro i v ⟨wvv, wcc⟩ nx u h tk I oI hi' hv hJ79 hl hn F2 N2
    refine turn_cps ?_
    intro q79 hq79 hb79 hr79
    refine an_2 (hJ79) ?_
    (try clear hJ79)
    intro r9q
    subst r9q
    intro hW
    dsimp only at hW hn N2 F2
    refine with_goal fun X79 hX79 => ?_
    refine ex_2 (hpi.get hv) ?_
    intro p t9 q9o
    refine an_2 q9o ?_
    clear q9o
    intro hpp
    intro r9q
    subst r9q
    refine hX79 ?_
    refine an_2 (hin p (List.mem_of_getElem? hpp)) ?_
    intro hp0 hp1
    obtain ⟨cd, hcd⟩ : ∃ cd, cs[p.toNat]? = some cd := ⟨cs[p.toNat]'(by omega), List.getElem?_eq_getElem (by omega)⟩
    have hck : (cs.map (·.key))[p.toNat]? = some cd.key := by rw [List.getElem?_map, hcd]; rfl
    refine ex_1 (hkeys.get hck) ?_
    intro vk q9o
    refine an_2 q9o ?_
    clear q9o
    intro hvk hki
    refine ex_1 (key_ref hki) ?_
    intro kb
    intro r9q
    subst r9q
    have hko : keyOf cs p = cd.key := by unfold keyOf; rw [hcd]; rfl
    obtain ⟨ds, hds, hd0⟩ := key_tag (k := cd.key)
    have hDk : DatIn l0 (.ref kb) (.tuple ds) := hds ▸ hki
    have htg : (cd.key.tag == srt.tag) = (wordOf srt cd.key).isSome := tag_eq cd.key srt
    have hwl8 : wvv.length ≤ 8 := by
      rw [hW.length, List.length_map]
      have := wordsN_len (cs := cs) (ps := ps) (t := srt) i (by rw [← hpi.length]; omega)
      have := hpi.length
      omega
    have hws := wordsN_succ (cs := cs) (t := srt) hpp
    have hnI := nodA.mp hn
    ((first | refine peelA hnI (by with_reducible ((repeat (first | exact it_nil | (apply it_na) | (apply it_ca) | (apply it_aa) | (apply it_cons) | (apply it_app))); (try exact it_last))) ?_ | refine peelN hnI (by with_reducible ((repeat (first | exact it_nil | (apply it_na) | (apply it_ca) | (apply it_aa) | (apply it_cons) | (apply it_app))); (try exact it_last))) ?_ | refine peelR hnI (by with_reducible ((repeat (first | exact it_nil | (apply it_na) | (apply it_ca) | (apply it_aa) | (apply it_cons) | (apply it_app))); (try exact it_last))) ?_); (repeat (intro hq9)); refine Past.mk ?_)
    dsimp only [kstB] at F2
    try k_fold
    cases hwo : wordOf srt cd.key with
    | none =>
      rw [hwo, Option.isSome_none] at htg
      k_steps
      rename News _ _ _ _ => kN9
      rename Fr _ _ _ _ => kF9
      skip
      have hst : wordsN cs ps srt (i + 1) = wordsN cs ps srt i := by rw [hws, wordStep, hko, hwo]
      refine (hq79 (wvv, wcc) _ _ _ _ kF9 (fun p hp => absurd hp List.not_mem_nil) (by intro z z1 z2 z3; first | ((repeat (first | with_reducible rfl | with_reducible assumption | refine kp_st (by with_reducible assumption) ?_ | refine kp_set (by first | with_reducible exact z1 | with_reducible exact z2 _ List.mem_cons_self | with_reducible exact z2 _ (List.mem_cons_of_mem _ List.mem_cons_self) | with_reducible exact z2 _ (List.mem_cons_of_mem _ (List.mem_cons_of_mem _ List.mem_cons_self)) | exact kp_con z3 (by ((repeat (with_reducible_and_instances first | exact List.Mem.head _ | refine List.Mem.tail _ ?_)); (first | done | fail "open")))) ?_ | refine kp_same (by assumption) ?_ | exact rfl)); done) | ((try dsimp only [kstB]); simp only [if_neg z1, z3, List.contains_nil, Bool.false_eq_true, if_false])) kN9 hn (by (first | exact fun p hp => hp | ((repeat' (first | refine fa_app ?_ ?_ | refine fa_cons ?_ ?_ | refine List.forall_mem_append.mpr ⟨?_, ?_⟩ | refine List.forall_mem_cons.mpr ⟨?_, ?_⟩)) <;> (first | exact List.forall_mem_nil _ | (intro p9 hp9; kp_flats) | kp_flats)))) ⟨rfl, ?_⟩).1
      rw [hst]; exact hW
    | some wd =>
      rw [hwo, Option.isSome_some] at htg
      refine ex_1 (key_word hwo) ?_
      intro ds' q9o
      refine an_2 q9o ?_
      clear q9o
      intro hds' hd1
      rw [hds] at hds'
      obtain rfl : ds = ds' := by injection hds'
      k_steps
      refine ⟨?_⟩
      rename DatIn l0 _ wd.dat => hv9
      rename News _ _ _ _ => kN8
      refine' notin_words kN8 ?ma hW ?sa hv9 ?sx ?u ?_
      case ma => k_mem
      case sa => exact fun p hp => (by replace hp := hl0 _ hp; k_mem)
      case sx => exact fun p hp => (by replace hp := hl0 _ hp; k_mem)
      case u => tlg_ne
      k_steps
      · rename wd ∈ _ => hmem
        rename News _ _ _ _ => kN9
        rename Fr _ _ _ _ => kF9
        skip
        have hst : wordsN cs ps srt (i + 1) = wordsN cs ps srt i := by rw [hws, wordStep, hko, hwo]; simp only [hmem, if_true]
        refine (hq79 (wvv, wcc) _ _ _ _ kF9 (fun p hp => absurd hp List.not_mem_nil) (by intro z z1 z2 z3; first | ((repeat (first | with_reducible rfl | with_reducible assumption | refine kp_st (by with_reducible assumption) ?_ | refine kp_set (by first | with_reducible exact z1 | with_reducible exact z2 _ List.mem_cons_self | with_reducible exact z2 _ (List.mem_cons_of_mem _ List.mem_cons_self) | with_reducible exact z2 _ (List.mem_cons_of_mem _ (List.mem_cons_of_mem _ List.mem_cons_self)) | exact kp_con z3 (by ((repeat (with_reducible_and_instances first | exact List.Mem.head _ | refine List.Mem.tail _ ?_)); (first | done | fail "open")))) ?_ | refine kp_same (by assumption) ?_ | exact rfl)); done) | ((try dsimp only [kstB]); simp only [if_neg z1, z3, List.contains_nil, Bool.false_eq_true, if_false])) kN9 hn (by (first | exact fun p hp => hp | ((repeat' (first | refine fa_app ?_ ?_ | refine fa_cons ?_ ?_ | refine List.forall_mem_append.mpr ⟨?_, ?_⟩ | refine List.forall_mem_cons.mpr ⟨?_, ?_⟩)) <;> (first | exact List.forall_mem_nil _ | (intro p9 hp9; kp_flats) | kp_flats)))) ⟨rfl, ?_⟩).1
        rw [hst]; exact hW
      · rename ¬ (wd ∈ _) => hmem
        rename News _ _ _ _ => kN9
        rename Fr _ _ _ _ => kF9
        rename DatIn l0 _ wd.dat => hv8
        skip
        have hst : wordsN cs ps srt (i + 1) = wordsN cs ps srt i ++ [wd] := by rw [hws, wordStep, hko, hwo]; simp only [hmem, if_false]
        refine (hq79 (_, _) _ _ _ _ kF9 (fun p hp => absurd hp List.not_mem_nil) (by intro z z1 z2 z3; first | ((repeat (first | with_reducible rfl | with_reducible assumption | refine kp_st (by with_reducible assumption) ?_ | refine kp_set (by first | with_reducible exact z1 | with_reducible exact z2 _ List.mem_cons_self | with_reducible exact z2 _ (List.mem_cons_of_mem _ List.mem_cons_self) | with_reducible exact z2 _ (List.mem_cons_of_mem _ (List.mem_cons_of_mem _ List.mem_cons_self)) | exact kp_con z3 (by ((repeat (with_reducible_and_instances first | exact List.Mem.head _ | refine List.Mem.tail _ ?_)); (first | done | fail "open")))) ?_ | refine kp_same (by assumption) ?_ | exact rfl)); done) | ((try dsimp only [kstB]); simp only [if_neg z1, z3, List.contains_nil, Bool.false_eq_true, if_false])) kN9 ?nd (by (first | exact fun p hp => hp | ((repeat' (first | refine fa_app ?_ ?_ | refine fa_cons ?_ ?_ | refine List.forall_mem_append.mpr ⟨?_, ?_⟩ | refine List.forall_mem_cons.mpr ⟨?_, ?_⟩)) <;> (first | exact List.forall_mem_nil _ | (intro p9 hp9; kp_flats) | kp_flats)))) ⟨rfl, ?_⟩).1
        case nd => kat_tups
        rw [hst, List.map_append]
        exact hW.append (.cons hv8 .nil)
  case done =>
    rintro ⟨wvv, wcc⟩ nx u h tk hJ79 hl hn F2 N2
    refine an_2 (hJ79) ?_
    (try clear hJ79)
    intro r9q
    subst r9q
    intro hW
    dsimp only at hW hn N2 F2
    rw [hpi.length] at hW
    dsimp only [kstB] at F2
    k_steps
    rename News h₀ L _ _ => kN
    rename Fr h₀ L _ _ => kF
    refine ⟨?_⟩
    refine' wayA2 w ⟨fa, ka, co, ba, bd, ro, ch, kn, fo, kv, cdv, kc, cdn, cs, oF, oK, x, ar, ta⟩ ⟨us, c, nl, tn, cv, cc, okn, ofo, oS, oP, oW, es⟩ ((wl, listOf wvv.toArray wcc) :: l0) ((wl, listOf wvv.toArray wcc) :: rest) srt _ t1 wl wvv wcc pa pv pc ps
      List.mem_cons_self (hW.mono ?sa) (List.mem_cons_of_mem _ hpa) hpi hpl hin hS (O0.mono ?sa) hfew ho _ _ _ _ _ _ _ _ _ _ _ _ _ _ _ _ _ rfl B kF X ?hN ?hno (cons_sub hl0) (W0.mono ?sa) (by k_asm) hd hu ?hnm ?hr
    case sa => exact fun p hp => List.mem_cons_of_mem _ hp
    case hN => exact kst_newsOf kN (by (first | exact fun p hp => hp | ((repeat' (first | refine fa_app ?_ ?_ | refine fa_cons ?_ ?_ | refine List.forall_mem_append.mpr ⟨?_, ?_⟩ | refine List.forall_mem_cons.mpr ⟨?_, ?_⟩)) <;> (first | exact List.forall_mem_nil _ | (intro p9 hp9; kp_flats) | kp_flats))))
    case hno => exact hn.perm (by dsimp only [stLed, List.cons_append, List.nil_append]; exact (List.perm_middle (l₁ := [_, _, _, _, _, _, _, _])).symm)
    case hnm => first | ((repeat (first | exact fr_nil | refine fr_cons (by rfl) ?_)); done) | (intro p hp; ((repeat (rcases List.mem_cons.mp hp with rfl | hp; (· rfl))); exact absurd hp List.not_mem_nil))
    case hr =>
      intro m3 S3 add3 h3 tk3 F3 keep3 N3' nod3' O3
      refine an_2 (O3) ?_
      (try clear O3)
      intro O3 e3
      refine' hret m3 S3 (add3 ++ [(wl, listOf wvv.toArray wcc)]) h3 tk3 F3 ?hm ?hN ?hno ⟨?sc, e3⟩
      case hN => rw [List.append_assoc add3]; exact N3'
      case hno => rw [List.append_assoc add3]; exact nod3'
      case sc => rw [List.append_assoc]; exact O3
      case hm =>
        intro z hz
        have y1 := ne_con hz (x := Str.ofString "place") (by simp)
        refine (keep3 z (kp_sub hz (by decide +kernel))).trans ?_
        simp only [if_neg y1, List.contains_nil, Bool.false_eq_true, if_false]
        (first | ((repeat (first | with_reducible rfl | with_reducible assumption | refine kp_st (by with_reducible assumption) ?_ | refine kp_set (by exact kp_con hz (by ((repeat (with_reducible_and_instances first | exact List.Mem.head _ | refine List.Mem.tail _ ?_)); (first | done | fail "open")))) ?_ | refine kp_same (by assumption) ?_ | exact rfl)); done) | ((repeat' split) <;> first | rfl | (rename_i e9; subst e9; first | assumption | (symm; assumption) | (exfalso; revert hz; simp)) | (rename_i e9 _; subst e9; first | (symm; assumption) | (exfalso; revert hz; simp))))

end
section
theorem offWayA : True := by
  w_top off
  trivial

local macro_rules | `(tactic| walk_at "execs cons") => `(tactic| (k_here; (with_reducible show wpAny _ _ (execs (Stmt.Assign [Expr.Name _ _] _ _ :: Stmt.For _ _ _ _ _ :: _) _) _ _ _); refine Held.out ?_))
local macro_rules | `(tactic| walk_at "execs cons Assign cons") => `(tactic| (k_here; (with_reducible show wpAny _ _ (execs (Stmt.Assign [Expr.Name _ _] _ _ :: Stmt.For _ _ _ _ _ :: _) _) _ _ _); refine Held.out ?_))

theorem led_obj {h₀ h : Heap} {L a : Addr} {o : Obj} {r : Led} {P : Prop} (N : News h₀ L h ((a, o) :: r)) (k : ∀ a' o', a' = a → News h₀ L h ((a', o') :: r) → P) : P := k a o rfl N

theorem wayA (w : World) (K : LK) (S : LS) (l0 rest : Led) (k : Int) (t t1 : Tok) (pa : Addr) (pv : List Value) (pc : Nat) (ps : List Int) (hk2 : k = 0 ∨ k = 1)
    (hpa : (pa, listOf pv.toArray pc) ∈ l0) (hpi : Ints pv ps) (hpl : ps.length ≤ 8) (hin : ∀ p ∈ ps, 0 ≤ p ∧ p < K.cs.length) (hfew : S.es.length + 8 < 400) :
    Piece w (fun b => selIf 3 (selFor 8 b)) K S l0 rest [Str.ofString "words", Str.ofString "place", Str.ofString "pairs", Str.ofString "due"]
      [(Str.ofString "many", .int K.cs.length t1), (Str.ofString "builder", .ref K.ba), (Str.ofString "found", .ref K.fo), (Str.ofString "kind", .int k t), (Str.ofString "places", .ref pa)]
      (fun _ _ _ => True) := by
  obtain ⟨fa, ka, co, ba, bd, ro, ch, kn, fo, kv, cdv, kc, cdn, cs, oF, oK, x, ar, ta⟩ := K
  obtain ⟨us, c, nl, tn, cv, cc, okn, ofo, oS, oP, oW, es⟩ := S
  unfold Piece
  intro name qual params body scope dV kV doc pm cdv9 ct oc an od osl ho
  refine fn_use ho (by exact rfl) ?_
  clear ho
  intro ho
  k_fill
  intro dp un gd outer A₀ base h₀ L f cd m s mean mg mb Q E _ B F X N hnod hl0 W O T hd hu hnm hret
  have W0 := W
  have O0 := O
  refine LW.use W ?_
  intro oFm oFd oKm oKd kam hkeys com cods inst m1 m4 knl fol
  refine SOK.use O ?_
  intro hfig hbs htd hgood xS cS xP cP xW cW
  try dsimp only at *
  replace oFm := hl0 _ oFm
  replace oKm := hl0 _ oKm
  replace kam := hl0 _ kam
  replace com := hl0 _ com
  replace inst := hl0 _ inst
  have hn1 := hnm _ List.mem_cons_self
  have hn2 := hnm _ (List.mem_cons_of_mem _ List.mem_cons_self)
  have hn3 := hnm _ (List.mem_cons_of_mem _ (List.mem_cons_of_mem _ List.mem_cons_self))
  have hn4 := hnm _ (List.mem_cons_of_mem _ (List.mem_cons_of_mem _ (List.mem_cons_of_mem _ List.mem_cons_self)))
  have hn5 := hnm _ (List.mem_cons_of_mem _ (List.mem_cons_of_mem _ (List.mem_cons_of_mem _ (List.mem_cons_of_mem _ List.mem_cons_self))))
  dsimp only at hn1 hn2 hn3 hn4 hn5
  replace F := fr_named F hnm
  try dsimp only [withN] at F
  conv => enter [3, 1]; whnf
  dsimp only [stLed, List.cons_append, List.nil_append, bDict] at N hnod
  have hnA := nodA.mp hnod
  ((first | refine peelA hnA (by with_reducible ((repeat (first | exact it_nil | (apply it_na) | (apply it_ca) | (apply it_aa) | (apply it_cons) | (apply it_app))); (try exact it_last))) ?_ | refine peelN hnA (by with_reducible ((repeat (first | exact it_nil | (apply it_na) | (apply it_ca) | (apply it_aa) | (apply it_cons) | (apply it_app))); (try exact it_last))) ?_ | refine peelR hnA (by with_reducible ((repeat (first | exact it_nil | (apply it_na) | (apply it_ca) | (apply it_aa) | (apply it_cons) | (apply it_app))); (try exact it_last))) ?_); (repeat (intro hq9)); refine Past.mk ?_)
  have hpvl : pv.length ≤ 8 := by rw [hpi.length]; exact hpl
  have hpa' := hl0 _ hpa
  try k_fold
  rcases hk2 with rfl | rfl
  · k_steps
    rename _ = Data.cell (some (Value.str _ _)) => hcS
    rename Obj => oS2
    rename News h₀ L _ _ => kN0
    rename Fr h₀ L _ _ => kF
    refine ⟨?_⟩
    refine led_obj kN0 ?_
    intro ml om e1 kN
    subst e1
    clear kN0
    have hno : Nod ((ml, om) :: (fa, listOf us.toArray c) :: (bd, bDict x ar ta co ro ch kn nl tn) :: (ch, listOf cv.toArray cc) :: (kn, okn) :: (fo, ofo) :: (L + 1 + 1 + 1, oS2) :: (L + 1 + 1 + 1 + 1, oP) :: (L + 1 + 1 + 1 + 1 + 1, oW) :: rest) := by kat_tups
    refine' wayA1 w ⟨fa, ka, co, ba, bd, ro, ch, kn, fo, kv, cdv, kc, cdn, cs, oF, oK, x, ar, ta⟩ ⟨us, c, nl, tn, cv, cc, okn, ofo, oS2, oP, oW, es⟩ l0 ((ml, om) :: rest) Srt.const _ t1 pa pv pc ps
      hpa hpi hpl hin hfew hcS { O0 with cS := ⟨_, hcS⟩ } ho _ _ _ _ _ _ _ _ _ _ _ _ _ _ _ _ _ rfl B kF X ?hN ?hno (fun p hp => List.mem_cons_of_mem _ (hl0 p hp)) W0 (by k_asm) hd hu ?hnm ?hr
    case hN => exact kst_newsOf kN (by (first | exact fun p hp => hp | ((repeat' (first | refine fa_app ?_ ?_ | refine fa_cons ?_ ?_ | refine List.forall_mem_append.mpr ⟨?_, ?_⟩ | refine List.forall_mem_cons.mpr ⟨?_, ?_⟩)) <;> (first | exact List.forall_mem_nil _ | (intro p9 hp9; kp_flats) | kp_flats))))
    case hno => exact hno.perm (by dsimp only [stLed, List.cons_append, List.nil_append]; exact (List.perm_middle (l₁ := [_, _, _, _, _, _, _, _])).symm)
    case hnm => first | ((repeat (first | exact fr_nil | refine fr_cons (by rfl) ?_)); done) | (intro p hp; ((repeat (rcases List.mem_cons.mp hp with rfl | hp; (· rfl))); exact absurd hp List.not_mem_nil))
    case hr =>
      intro m3 S3 add3 h3 tk3 F3 keep3 N3' nod3' O3
      refine an_2 (O3) ?_
      (try clear O3)
      intro O3 e3
      refine' hret m3 S3 (add3 ++ [(ml, om)]) h3 tk3 F3 ?hm ?hN ?hno (O3.mono ?sc) e3 trivial
      case hN => rw [List.append_assoc add3]; exact N3'
      case hno => rw [List.append_assoc add3]; exact nod3'
      case sc =>
        intro p hp
        rw [List.append_assoc]
        rcases List.mem_append.mp hp with hp | hp
        · exact List.mem_append_left _ hp
        · exact List.mem_append_right _ (List.mem_cons_of_mem _ hp)
      case hm =>
        intro z hz
        refine (keep3 z (kp_sub hz (by decide +kernel))).trans ?_
        (first | ((repeat (first | with_reducible rfl | with_reducible assumption | refine kp_st (by with_reducible assumption) ?_ | refine kp_set (by exact kp_con hz (by ((repeat (with_reducible_and_instances first | exact List.Mem.head _ | refine List.Mem.tail _ ?_)); (first | done | fail "open")))) ?_ | refine kp_same (by assumption) ?_ | exact rfl)); done) | ((repeat' split) <;> first | rfl | (rename_i e9; subst e9; first | assumption | (symm; assumption) | (exfalso; revert hz; simp)) | (rename_i e9 _; subst e9; first | (symm; assumption) | (exfalso; revert hz; simp))))
  · k_steps
    rename _ = Data.cell (some (Value.str _ _)) => hcS
    rename Obj => oS2
    rename News h₀ L _ _ => kN0
    rename Fr h₀ L _ _ => kF
    refine ⟨?_⟩
    refine led_obj kN0 ?_
    intro ml om e1 kN
    subst e1
    clear kN0
    have hno : Nod ((ml, om) :: (fa, listOf us.toArray c) :: (bd, bDict x ar ta co ro ch kn nl tn) :: (ch, listOf cv.toArray cc) :: (kn, okn) :: (fo, ofo) :: (L + 1 + 1 + 1, oS2) :: (L + 1 + 1 + 1 + 1, oP) :: (L + 1 + 1 + 1 + 1 + 1, oW) :: rest) := by kat_tups
    refine' wayA1 w ⟨fa, ka, co, ba, bd, ro, ch, kn, fo, kv, cdv, kc, cdn, cs, oF, oK, x, ar, ta⟩ ⟨us, c, nl, tn, cv, cc, okn, ofo, oS2, oP, oW, es⟩ l0 ((ml, om) :: rest) Srt.struct _ t1 pa pv pc ps
      hpa hpi hpl hin hfew hcS { O0 with cS := ⟨_, hcS⟩ } ho _ _ _ _ _ _ _ _ _ _ _ _ _ _ _ _ _ rfl B kF X ?hN ?hno (fun p hp => List.mem_cons_of_mem _ (hl0 p hp)) W0 (by k_asm) hd hu ?hnm ?hr
    case hN => exact kst_newsOf kN (by (first | exact fun p hp => hp | ((repeat' (first | refine fa_app ?_ ?_ | refine fa_cons ?_ ?_ | refine List.forall_mem_append.mpr ⟨?_, ?_⟩ | refine List.forall_mem_cons.mpr ⟨?_, ?_⟩)) <;> (first | exact List.forall_mem_nil _ | (intro p9 hp9; kp_flats) | kp_flats))))
    case hno => exact hno.perm (by dsimp only [stLed, List.cons_append, List.nil_append]; exact (List.perm_middle (l₁ := [_, _, _, _, _, _, _, _])).symm)
    case hnm => first | ((repeat (first | exact fr_nil | refine fr_cons (by rfl) ?_)); done) | (intro p hp; ((repeat (rcases List.mem_cons.mp hp with rfl | hp; (· rfl))); exact absurd hp List.not_mem_nil))
    case hr =>
      intro m3 S3 add3 h3 tk3 F3 keep3 N3' nod3' O3
      refine an_2 (O3) ?_
      (try clear O3)
      intro O3 e3
      refine' hret m3 S3 (add3 ++ [(ml, om)]) h3 tk3 F3 ?hm ?hN ?hno (O3.mono ?sc) e3 trivial
      case hN => rw [List.append_assoc add3]; exact N3'
      case hno => rw [List.append_assoc add3]; exact nod3'
      case sc =>
        intro p hp
        rw [List.append_assoc]
        rcases List.mem_append.mp hp with hp | hp
        · exact List.mem_append_left _ hp
        · exact List.mem_append_right _ (List.mem_cons_of_mem _ hp)
      case hm =>
        intro z hz
        refine (keep3 z (kp_sub hz (by decide +kernel))).trans ?_
        (first | ((repeat (first | with_reducible rfl | with_reducible assumption | refine kp_st (by with_reducible assumption) ?_ | refine kp_set (by exact kp_con hz (by ((repeat (with_reducible_and_instances first | exact List.Mem.head _ | refine List.Mem.tail _ ?_)); (first | done | fail "open")))) ?_ | refine kp_same (by assumption) ?_ | exact rfl)); done) | ((repeat' split) <;> first | rfl | (rename_i e9; subst e9; first | assumption | (symm; assumption) | (exfalso; revert hz; simp)) | (rename_i e9 _; subst e9; first | (symm; assumption) | (exfalso; revert hz; simp))))

end
section
theorem offTurn1 : True := by
  w_top off
  trivial
local macro_rules | `(tactic| walk_at "zz") => `(tactic| skip)

local macro_rules | `(tactic| walk_at "call type:list") => `(tactic| (k_here; (with_reducible show wpAny _ _ (call (Value.type _) [Value.ref _]) _ _ _); k_dflt (refine' kup_listOfT ?F ?N ?b ?e ?_ ?z; (case F => k_asm); (case N => k_asm); (case b => k_mem); (case e => exact rfl); (case z => (simp only [sizeLine_eq, List.size_toArray, List.toList_toArray]; omega))); intro D' c' h' F' N' l1; (try k_lt l1); (try k_sweep)))
local macro_rules | `(tactic| walk_at "call type:list") => `(tactic| (k_here; (with_reducible show wpAny _ _ (call (Value.type _) [Value.ref _]) _ _ _); k_dflt (refine' kup_listOf ?F ?N ?b ?e ?_ ?z; (case F => k_asm); (case N => k_asm); (case b => k_mem); (case e => exact rfl); (case z => (simp only [sizeLine_eq, List.size_toArray, List.toList_toArray]; omega))); intro D' c' h' F' N' l1; (try k_lt l1); (try k_sweep)))
local macro_rules | `(tactic| walk_at "compareOp NotEq ref ref") => `(tactic| (k_here; (with_reducible show wpAny _ _ (compareOp CmpOp.NotEq (Value.ref _) (Value.ref _)) _ _ _); refine Held.out ?_))
local macro_rules | `(tactic| walk_at "execs cons") => `(tactic| (k_here; (with_reducible show wpAny _ _ (execs (Stmt.Assign [Expr.Name _ _] (Expr.Subscript _ _ _) _ :: _) _) _ _ _); refine Held.out ?_))
local macro_rules | `(tactic| walk_at "execs cons Assign cons") => `(tactic| (k_here; (with_reducible show wpAny _ _ (execs (Stmt.Assign [Expr.Name _ _] (Expr.Subscript _ _ _) _ :: _) _) _ _ _); refine Held.out ?_))
local macro_rules | `(tactic| walk_at "execs cons") => `(tactic| (k_here; (with_reducible show wpAny _ _ (execs (Stmt.Assign [Expr.Name _ _] (Expr.Call (Expr.Name _ _) [Expr.Name _ _] [] _) _ :: Stmt.If _ _ _ _ :: Stmt.If _ _ _ _ :: Stmt.If _ _ _ _ :: _) _) _ _ _); refine Held.out ?_))
local macro_rules | `(tactic| walk_at "execs cons Assign cons") => `(tactic| (k_here; (with_reducible show wpAny _ _ (execs (Stmt.Assign [Expr.Name _ _] (Expr.Call (Expr.Name _ _) [Expr.Name _ _] [] _) _ :: Stmt.If _ _ _ _ :: Stmt.If _ _ _ _ :: Stmt.If _ _ _ _ :: _) _) _ _ _); refine Held.out ?_))

theorem ints_all {l : Led} {vs : List Value} {ks : List Int} (h : Ints vs ks) : DatAll l vs (ks.map Dat.int) := by
  obtain ⟨h⟩ := h
  induction h with
  | nil => exact .nil
  | cons k t _ ih => exact .cons (.int k t) ih
theorem ne_ints {prog : Program} {w : World} {A : Around} {E : Value → Shared → Prop} {s : Shared} {h₀ : Heap} {L a b : Addr} {news : Led} {xs ys : List Value} {ka kb : Nat} {ks : List Int} {Q : Value → Shared → Prop}
    (N : News h₀ L s.heap news) (ma : (a, listOf xs.toArray ka) ∈ news) (Da : Ints xs ks) (mb : (b, listOf ys.toArray kb) ∈ news) (Db : Ints ys ks)
    (hu : A.units + 64 < cLine) (h : Q (.bool false) s) : wpAny (model prog w) A (compareOp .NotEq (.ref a) (.ref b)) Q E s :=
  have hk : ∀ d ∈ ks.map Dat.int, kqdOk 8 d = true := fun d hd => by obtain ⟨k, _, rfl⟩ := List.mem_map.mp hd; rfl
  ne_lists (n₁ := []) (n₂ := []) N ma (ints_all Da) (fun _ h => nomatch h) mb (ints_all Db) (fun _ h => nomatch h) hk hk hu rfl h

theorem led_cap {h₀ h : Heap} {L a : Addr} {xs : List Value} {n : Nat} {r : Led} {P : Prop} (N : News h₀ L h ((a, listOf xs.toArray n) :: r)) (k : ∀ a' n', a' = a → n' = n → News h₀ L h ((a', listOf xs.toArray n') :: r) → P) : P := k a n rfl rfl N
theorem turn1 (w : World) (K : LK) (S : LS) (l0 rest : Led) (k : Int) (t t1 : Tok) (pa : Addr) (pv : List Value) (pc : Nat) (ps : List Int) (hk0 : 0 ≤ k) (hk5 : k < 5)
    (hpa : (pa, listOf pv.toArray pc) ∈ l0) (hpi : Ints pv ps) (hpl : ps.length ≤ 8) (hin : ∀ p ∈ ps, 0 ≤ p ∧ p < K.cs.length) (hfew : S.es.length + 8 < 400) :
    Piece w (fun b => (selFor 8 b).drop 2) K S l0 rest [Str.ofString "kept", Str.ofString "words", Str.ofString "place", Str.ofString "pairs", Str.ofString "due", Str.ofString "places"]
      [(Str.ofString "many", .int K.cs.length t1), (Str.ofString "builder", .ref K.ba), (Str.ofString "found", .ref K.fo), (Str.ofString "kind", .int k t), (Str.ofString "places", .ref pa)]
      (fun _ _ _ => True) := by
  unfold Piece
  intro name qual params body scope dV kV doc pm cdv9 ct oc an od osl ho
  refine fn_use ho (by exact rfl) ?_
  clear ho
  intro ho
  k_fill
  intro dp un gd outer A₀ base h₀ L f cd m s mean mg mb Q E _ B F X N hnod hl0 W O T hd hu hnm hret
  have hn1 := hnm _ List.mem_cons_self
  have hn2 := hnm _ (List.mem_cons_of_mem _ List.mem_cons_self)
  have hn3 := hnm _ (List.mem_cons_of_mem _ (List.mem_cons_of_mem _ List.mem_cons_self))
  have hn4 := hnm _ (List.mem_cons_of_mem _ (List.mem_cons_of_mem _ (List.mem_cons_of_mem _ List.mem_cons_self)))
  have hn5 := hnm _ (List.mem_cons_of_mem _ (List.mem_cons_of_mem _ (List.mem_cons_of_mem _ (List.mem_cons_of_mem _ List.mem_cons_self))))
  dsimp only at hn1 hn2 hn3 hn4 hn5
  replace F := fr_named F hnm
  try dsimp only [withN] at F
  conv => enter [3, 1]; whnf
  have hnA := nodA.mp hnod
  dsimp only [stLed, List.cons_append, List.nil_append] at N hnA
  ((first | refine peelA hnA (by with_reducible ((repeat (first | exact it_nil | (apply it_na) | (apply it_ca) | (apply it_aa) | (apply it_cons) | (apply it_app))); (try exact it_last))) ?_ | refine peelN hnA (by with_reducible ((repeat (first | exact it_nil | (apply it_na) | (apply it_ca) | (apply it_aa) | (apply it_cons) | (apply it_app))); (try exact it_last))) ?_ | refine peelR hnA (by with_reducible ((repeat (first | exact it_nil | (apply it_na) | (apply it_ca) | (apply it_aa) | (apply it_cons) | (apply it_app))); (try exact it_last))) ?_); (repeat (intro hq9)); refine Past.mk ?_)
  have hpvl : pv.length ≤ 8 := by rw [hpi.length]; exact hpl
  have hpa' := hl0 _ hpa
  try k_fold
  k_steps
  · have hk2 : k = 0 ∨ k = 1 := by omega
    rename News h₀ L _ _ => kN0
    rename Fr h₀ L _ _ => kF
    refine ⟨?_⟩
    try simp only [List.toList_toArray] at kN0
    refine led_cap (xs := pv) kN0 ?_
    intro kl kc e1 e2 kN
    subst e1
    subst e2
    clear kN0
    have hno : Nod ((kl, listOf pv.toArray kc) :: (stLed K L S ++ rest)) := by dsimp only [stLed, List.cons_append, List.nil_append, bDict]; kat_tups
    refine' wayA w K S ((kl, listOf pv.toArray kc) :: l0) ((kl, listOf pv.toArray kc) :: rest) k t t1 pa pv pc ps hk2 (List.mem_cons_of_mem _ hpa) hpi hpl hin hfew ho _ _ _ _ _ _ _ _ _ _ _ _ _ _ _ _ _ rfl B kF X ?hN ?hno (cons_sub hl0) (W.mono fun _ h => List.mem_cons_of_mem _ h) (O.mono fun _ h => List.mem_cons_of_mem _ h) (by k_asm) hd hu ?hnm ?hr
    case hnm => first | ((repeat (first | exact fr_nil | refine fr_cons (by rfl) ?_)); done) | (intro p hp; ((repeat (rcases List.mem_cons.mp hp with rfl | hp; (· rfl))); exact absurd hp List.not_mem_nil))
    case hN => exact kst_newsOf kN (by (first | exact fun p hp => hp | ((repeat' (first | refine fa_app ?_ ?_ | refine fa_cons ?_ ?_ | refine List.forall_mem_append.mpr ⟨?_, ?_⟩ | refine List.forall_mem_cons.mpr ⟨?_, ?_⟩)) <;> (first | exact List.forall_mem_nil _ | (intro p9 hp9; kp_flats) | kp_flats))))
    case hno => exact hno.perm (by dsimp only [stLed, List.cons_append, List.nil_append]; exact (List.perm_middle (l₁ := [_, _, _, _, _, _, _, _])).symm)
    case hr =>
      intro m2 S2 add2 h2 tk2 F2 keep2 N2 nod2 O2 le2 _
      have g1 : m2 (Str.ofString "places") = some (.ref pa) := (keep2 _ (by decide +kernel)).trans rfl
      have g2 : m2 (Str.ofString "kept") = some (.ref kl) := (keep2 _ (by decide +kernel)).trans rfl
      have F3 := F2
      rw [frame_name g1, frame_name g2] at F3
      dsimp only at F3
      have N3 := N2
      dsimp only [stLed, List.cons_append, List.nil_append] at N3
      clear kN
      k_steps
      refine ⟨?_⟩
      rename News h₀ L _ _ => kN2
      rename Fr h₀ L _ _ => kF2
      refine' ne_ints kN2 ?ma hpi ?mb hpi ?u ?_
      case ma => k_mem
      case mb => k_mem
      case u => tlg_ne
      k_steps
      rename News h₀ L _ _ => kN3
      rename Fr h₀ L _ _ => kF3
      refine' hret _ S2 (add2 ++ [(kl, listOf pv.toArray kc)]) _ _ kF3 ?hm ?hN ?hno ?hO le2 trivial
      case hN => rw [List.append_assoc add2]; exact kst_newsOf kN3 (by dsimp only [stLed, List.cons_append, List.nil_append, bDict]; (first | exact fun p hp => hp | ((repeat' (first | refine fa_app ?_ ?_ | refine fa_cons ?_ ?_ | refine List.forall_mem_append.mpr ⟨?_, ?_⟩ | refine List.forall_mem_cons.mpr ⟨?_, ?_⟩)) <;> (first | exact List.forall_mem_nil _ | (intro p9 hp9; kp_flats) | kp_flats))))
      case hno => rw [List.append_assoc add2]; exact nod2
      case hO => rw [List.append_assoc]; exact O2
      case hm =>
        intro z hz
        have y9 : m2 z = m z := by
          refine (keep2 z (kp_sub hz (by decide +kernel))).trans ?_
          (first | ((repeat (first | with_reducible rfl | with_reducible assumption | refine kp_st (by with_reducible assumption) ?_ | refine kp_set (by exact kp_con hz (by ((repeat (with_reducible_and_instances first | exact List.Mem.head _ | refine List.Mem.tail _ ?_)); (first | done | fail "open")))) ?_ | refine kp_same (by assumption) ?_ | exact rfl)); done) | ((repeat' split) <;> first | rfl | (rename_i e9; subst e9; first | assumption | (symm; assumption) | (exfalso; revert hz; simp)) | (rename_i e9 _; subst e9; first | (symm; assumption) | (exfalso; revert hz; simp))))
        (first | ((repeat (first | with_reducible rfl | with_reducible assumption | refine kp_st (by with_reducible assumption) ?_ | refine kp_set (by exact kp_con hz (by ((repeat (with_reducible_and_instances first | exact List.Mem.head _ | refine List.Mem.tail _ ?_)); (first | done | fail "open")))) ?_ | refine kp_same (by assumption) ?_ | exact rfl)); done) | ((repeat' split) <;> first | exact y9 | (rename_i e9; subst e9; first | exact y9 | (symm; assumption) | (exfalso; revert hz; simp)) | (rename_i e9 _; subst e9; first | exact y9 | (symm; assumption) | (exfalso; revert hz; simp))))
  · have hk3 : k = 2 ∨ k = 3 ∨ k = 4 := by omega
    rename News h₀ L _ _ => kN0
    rename Fr h₀ L _ _ => kF
    refine ⟨?_⟩
    try simp only [List.toList_toArray] at kN0
    refine led_cap (xs := pv) kN0 ?_
    intro kl kc e1 e2 kN
    subst e1
    subst e2
    clear kN0
    have hno : Nod ((kl, listOf pv.toArray kc) :: (stLed K L S ++ rest)) := by dsimp only [stLed, List.cons_append, List.nil_append, bDict]; kat_tups
    refine' wayB w K S ((kl, listOf pv.toArray kc) :: l0) ((kl, listOf pv.toArray kc) :: rest) k t t1 pa pv pc ps hk3 (List.mem_cons_of_mem _ hpa) hpi hpl hin hfew ho _ _ _ _ _ _ _ _ _ _ _ _ _ _ _ _ _ rfl B kF X ?hN ?hno (cons_sub hl0) (W.mono fun _ h => List.mem_cons_of_mem _ h) (O.mono fun _ h => List.mem_cons_of_mem _ h) (by k_asm) hd hu ?hnm ?hr
    case hnm => first | ((repeat (first | exact fr_nil | refine fr_cons (by rfl) ?_)); done) | (intro p hp; ((repeat (rcases List.mem_cons.mp hp with rfl | hp; (· rfl))); exact absurd hp List.not_mem_nil))
    case hN => exact kst_newsOf kN (by (first | exact fun p hp => hp | ((repeat' (first | refine fa_app ?_ ?_ | refine fa_cons ?_ ?_ | refine List.forall_mem_append.mpr ⟨?_, ?_⟩ | refine List.forall_mem_cons.mpr ⟨?_, ?_⟩)) <;> (first | exact List.forall_mem_nil _ | (intro p9 hp9; kp_flats) | kp_flats))))
    case hno => exact hno.perm (by dsimp only [stLed, List.cons_append, List.nil_append]; exact (List.perm_middle (l₁ := [_, _, _, _, _, _, _, _])).symm)
    case hr =>
      intro m2 S2 add2 h2 tk2 F2 keep2 N2 nod2 O2 le2 P2
      refine ex_7 (P2) ?_
      (try clear P2)
      intro ds pa2 pv2 pc2 ka2 kv2 kc2 q9o
      refine an_6 q9o ?_
      clear q9o
      intro g1 g2 mp mk ip ik
      have hsub : ∀ p ∈ add2 ++ ((kl, listOf pv.toArray kc) :: l0), p ∈ add2 ++ ((kl, listOf pv.toArray kc) :: rest) := fun p hp => by
        rcases List.mem_append.mp hp with hp | hp
        · exact List.mem_append_left _ hp
        · exact List.mem_append_right _ (cons_sub hl0 p hp)
      replace mp := hsub _ mp
      replace mk := hsub _ mk
      have F3 := F2
      rw [frame_name g1, frame_name g2] at F3
      dsimp only at F3
      have N3 := N2
      dsimp only [stLed, List.cons_append, List.nil_append] at N3
      clear kN
      k_steps
      refine ⟨?_⟩
      rename News h₀ L _ _ => kN2
      rename Fr h₀ L _ _ => kF2
      refine' ne_ints kN2 ?ma ip ?mb ik ?u ?_
      case ma => (repeat refine List.Mem.tail _ ?_); exact mp
      case mb => (repeat refine List.Mem.tail _ ?_); exact mk
      case u => tlg_ne
      k_steps
      rename News h₀ L _ _ => kN3
      rename Fr h₀ L _ _ => kF3
      refine' hret _ S2 (add2 ++ [(kl, listOf pv.toArray kc)]) _ _ kF3 ?hm ?hN ?hno ?hO le2 trivial
      case hN => rw [List.append_assoc add2]; exact kst_newsOf kN3 (by dsimp only [stLed, List.cons_append, List.nil_append, bDict]; (first | exact fun p hp => hp | ((repeat' (first | refine fa_app ?_ ?_ | refine fa_cons ?_ ?_ | refine List.forall_mem_append.mpr ⟨?_, ?_⟩ | refine List.forall_mem_cons.mpr ⟨?_, ?_⟩)) <;> (first | exact List.forall_mem_nil _ | (intro p9 hp9; kp_flats) | kp_flats))))
      case hno => rw [List.append_assoc add2]; exact nod2
      case hO => rw [List.append_assoc]; exact O2
      case hm =>
        intro z hz
        have y9 : m2 z = m z := by
          refine (keep2 z (kp_sub hz (by decide +kernel))).trans ?_
          (first | ((repeat (first | with_reducible rfl | with_reducible assumption | refine kp_st (by with_reducible assumption) ?_ | refine kp_set (by exact kp_con hz (by ((repeat (with_reducible_and_instances first | exact List.Mem.head _ | refine List.Mem.tail _ ?_)); (first | done | fail "open")))) ?_ | refine kp_same (by assumption) ?_ | exact rfl)); done) | ((repeat' split) <;> first | rfl | (rename_i e9; subst e9; first | assumption | (symm; assumption) | (exfalso; revert hz; simp)) | (rename_i e9 _; subst e9; first | (symm; assumption) | (exfalso; revert hz; simp))))
        (first | ((repeat (first | with_reducible rfl | with_reducible assumption | refine kp_st (by with_reducible assumption) ?_ | refine kp_set (by exact kp_con hz (by ((repeat (with_reducible_and_instances first | exact List.Mem.head _ | refine List.Mem.tail _ ?_)); (first | done | fail "open")))) ?_ | refine kp_same (by assumption) ?_ | exact rfl)); done) | ((repeat' split) <;> first | exact y9 | (rename_i e9; subst e9; first | exact y9 | (symm; assumption) | (exfalso; revert hz; simp)) | (rename_i e9 _; subst e9; first | exact y9 | (symm; assumption) | (exfalso; revert hz; simp))))

end
section
theorem offTurn : True := by
  w_top off
  trivial

local macro_rules | `(tactic| walk_at "pyIter ref") => `(tactic| (k_here; (with_reducible show wpAny _ _ (pyIter (Value.ref _)) _ _ _); refine Held.out ?_))
local macro_rules | `(tactic| walk_at "call ref") => `(tactic| (k_here; (with_reducible show wpAny _ _ (call (Value.ref 141) [Value.ref _, Value.int _ _]) _ _ _); (try k_fold); k_dflt (refine' draw_use ?hf ?ha ?hb ?P1 ?uB ?uF ?uX ?uN ?un ?uT ?uk ?uL ?ud ?uu ?_; (case uN => k_asm); (case P1 => allgen_close2_more); (case hf => assumption); (case ha => first | decide | omega); (case hb => first | decide | omega); (case uB => k_asm); (case uF => k_asm); (case uX => k_asm); (case un => first | assumption | kat_tups); (case uT => k_asm); (case uk => rfl); (case uL => rfl); (case ud => ktr_room); (case uu => tlg_ne)); intro k' t' us' c' h' tk' h0' h1' hf' F' N' nod'; (try simp only [List.cons_append, List.nil_append] at N' nod'); (have hb9 := Held.mk (And.intro h0' h1')); clear h0' h1'))
local macro_rules | `(tactic| walk_at "execs cons Assign cons") => `(tactic| (k_here; (with_reducible show wpAny _ _ (execs (Stmt.Assign [Expr.Name _ _] (Expr.Call (Expr.Name _ _) [Expr.Name _ _] [] _) _ :: Stmt.If _ _ _ _ :: Stmt.If _ _ _ _ :: []) _) _ _ _); refine Held.out ?_))
local macro_rules | `(tactic| walk_at "execs cons") => `(tactic| (k_here; (with_reducible show wpAny _ _ (execs (Stmt.Assign [Expr.Name _ _] (Expr.Call (Expr.Name _ _) [Expr.Name _ _] [] _) _ :: Stmt.If _ _ _ _ :: Stmt.If _ _ _ _ :: []) _) _ _ _); refine Held.out ?_))

theorem led_fig {h₀ h : Heap} {L a b : Addr} {us : List Value} {c : Nat} {o : Obj} {r : Led} {P : Prop} (N : News h₀ L h ((a, listOf us.toArray c) :: (b, o) :: r)) (G : Figs us)
    (k : ∀ us' c' b', Figs us' → b' = b → News h₀ L h ((a, listOf us'.toArray c') :: (b', o) :: r) → P) : P := k us c b G rfl N
theorem held_nat {a : Int} (h : Held (0 ≤ a ∧ a < 5)) : ∃ n : Nat, a = (n : Int) ∧ n < 5 := ⟨a.toNat, by have := h.out; omega, by have := h.out; omega⟩
theorem turnAll (w : World) (K : LK) (S : LS) (l0 rest : Led) (t1 : Tok) (hfew : S.es.length + 8 < 400) :
    Piece w (selFor 8) K S l0 rest [Str.ofString "kind", Str.ofString "step", Str.ofString "kept", Str.ofString "words", Str.ofString "place", Str.ofString "pairs", Str.ofString "due", Str.ofString "places"]
      [(Str.ofString "many", .int K.cs.length t1), (Str.ofString "builder", .ref K.ba), (Str.ofString "found", .ref K.fo)]
      (fun _ _ _ => True) := by
  obtain ⟨fa, ka, co, ba, bd, ro, ch, kn, fo, kv, cdv, kc, cdn, cs, oF, oK, x, ar, ta⟩ := K
  obtain ⟨us, c, nl, tn, cv, cc, okn, ofo, oS, oP, oW, es⟩ := S
  unfold Piece
  intro name qual params body scope dV kV doc pm cdv9 ct oc an od osl ho
  refine fn_use ho (by exact rfl) ?_
  clear ho
  intro ho
  k_fill
  intro dp un gd outer A₀ base h₀ L f cd m s mean mg mb Q E _ B F X N hnod hl0 W O T hd hu hnm hret
  have W0 := W
  have O0 := O
  refine LW.use W ?_
  intro oFm oFd oKm oKd kam hkeys com cods inst m1 m4 knl fol
  refine SOK.use O ?_
  intro hfig hbs htd hgood xS cS xP cP xW cW
  try dsimp only at *
  replace oFm := hl0 _ oFm
  replace oKm := hl0 _ oKm
  have hn1 := hnm _ List.mem_cons_self
  have hn2 := hnm _ (List.mem_cons_of_mem _ List.mem_cons_self)
  have hn3 := hnm _ (List.mem_cons_of_mem _ (List.mem_cons_of_mem _ List.mem_cons_self))
  dsimp only at hn1 hn2 hn3
  replace F := fr_named F hnm
  try dsimp only [withN] at F
  conv => enter [3, 1]; whnf
  dsimp only [stLed, List.cons_append, List.nil_append] at N hnod
  have hnA := nodA.mp hnod
  ((first | refine peelA hnA (by with_reducible ((repeat (first | exact it_nil | (apply it_na) | (apply it_ca) | (apply it_aa) | (apply it_cons) | (apply it_app))); (try exact it_last))) ?_ | refine peelN hnA (by with_reducible ((repeat (first | exact it_nil | (apply it_na) | (apply it_ca) | (apply it_aa) | (apply it_cons) | (apply it_app))); (try exact it_last))) ?_ | refine peelR hnA (by with_reducible ((repeat (first | exact it_nil | (apply it_na) | (apply it_ca) | (apply it_aa) | (apply it_cons) | (apply it_app))); (try exact it_last))) ?_); (repeat (intro hq9)); refine Past.mk ?_)
  try k_fold
  refine wpAny_noRaise ?_
  k_steps
  · refine ⟨?_⟩
    rename IsRange _ _ _ _ _ _ _ _ => kR
    rename Held (0 ≤ _ ∧ _ < (5 : Int)) => hb2
    rename News h₀ L _ _ => kN0
    rename Fr h₀ L _ _ => kF
    rename Figs _ => kG
    refine ex_1 (held_nat hb2) ?_
    intro n2 q9o
    refine an_2 q9o ?_
    clear q9o
    intro e2 hn2
    subst e2
    refine led_fig kN0 kG ?_
    intro us3 c3 pl fig3 e3 kN
    subst e3
    clear kN0
    have kN2 : News h₀ L _ ((pl, listOf [].toArray 0) :: (fa, listOf us3.toArray c3) :: (bd, bDict x ar ta co ro ch kn nl tn) :: (ch, listOf cv.toArray cc) :: (kn, okn) :: (fo, ofo) :: (L + 1 + 1 + 1, oS) :: (L + 1 + 1 + 1 + 1, oP) :: (L + 1 + 1 + 1 + 1 + 1, oW) :: rest) := kst_newsOf kN (by (first | exact fun p hp => hp | ((repeat' (first | refine fa_app ?_ ?_ | refine fa_cons ?_ ?_ | refine List.forall_mem_append.mpr ⟨?_, ?_⟩ | refine List.forall_mem_cons.mpr ⟨?_, ?_⟩)) <;> (first | exact List.forall_mem_nil _ | (intro p9 hp9; kp_flats) | kp_flats))))
    apply loop_range (n := n2) (σ := (List Value × Nat) × (List Value × Nat)) (fun _ => []) []
      (fun i c9 nx => nx = (pl, listOf c9.1.1.toArray c9.1.2) :: (fa, listOf c9.2.1.toArray c9.2.2) :: (bd, bDict x ar ta co ro ch kn nl tn) :: (ch, listOf cv.toArray cc) :: (kn, okn) :: (fo, ofo) :: (L + 1 + 1 + 1, oS) :: (L + 1 + 1 + 1 + 1, oP) :: (L + 1 + 1 + 1 + 1 + 1, oW) :: rest ∧
        Figs c9.2.1 ∧ ∃ ps, Ints c9.1.1 ps ∧ ps.length ≤ i ∧ ∀ p ∈ ps, 0 ≤ p ∧ p < cs.length)
      (([], 0), (us3, c3))
    case hh => rfl
    case hr => exact kR
    case hsmall => rcases (by omega : n2 = 0 ∨ n2 = 1 ∨ n2 = 2 ∨ n2 = 3 ∨ n2 = 4) with rfl | rfl | rfl | rfl | rfl <;> rfl
    case hsz => exact rangeSize_nat _ _
    case F => exact kF
    case N => exact kN2
    case hj => exact ⟨rfl, fig3, [], Ints.nil, by simp, by simp⟩
    case hn => kat_tups
    case hk => exact fun p hp => absurd hp List.not_mem_nil
    case turn =>
      rintro i t ⟨⟨pv9, pc9⟩, us9, c9⟩ nx u h tk I oI hi hJ79 hn F2 N2
      refine turn_cps ?_
      intro q79 hq79 hb79 hr79
      refine with_goal fun X79 hX79 => ?_
      refine an_3 (hJ79) ?_
      (try clear hJ79)
      intro r9q
      subst r9q
      intro fg9
      intro q9o
      refine ex_1 q9o ?_
      clear q9o
      intro ps9 q9o
      refine an_3 q9o ?_
      clear q9o
      intro hi9 hl9 hin9
      refine hX79 ?_
      dsimp only at fg9 hi9 hn F2 N2
      have hp8 : pv9.length ≤ 8 := by rw [hi9.length]; omega
      clear kG hfig fig3
      have hnI := nodA.mp hn
      ((first | refine peelA hnI (by with_reducible ((repeat (first | exact it_nil | (apply it_na) | (apply it_ca) | (apply it_aa) | (apply it_cons) | (apply it_app))); (try exact it_last))) ?_ | refine peelN hnI (by with_reducible ((repeat (first | exact it_nil | (apply it_na) | (apply it_ca) | (apply it_aa) | (apply it_cons) | (apply it_app))); (try exact it_last))) ?_ | refine peelR hnI (by with_reducible ((repeat (first | exact it_nil | (apply it_na) | (apply it_ca) | (apply it_aa) | (apply it_cons) | (apply it_app))); (try exact it_last))) ?_); (repeat (intro hq9)); refine Past.mk ?_)
      dsimp only [kstB] at F2
      try k_fold
      k_steps
      rename Held (0 ≤ _ ∧ _ < (cs.length : Int)) => hb9
      rename Figs _ => kG9
      rename News _ _ _ _ => kN9
      rename Fr _ _ _ _ => kF9
      skip
      refine' (hq79 ((_, _), (_, _)) _ _ _ _ kF9 (fun p hp => absurd hp List.not_mem_nil) (by intro z z1 z2 z3; first | ((repeat (first | with_reducible rfl | with_reducible assumption | refine kp_st (by with_reducible assumption) ?_ | refine kp_set (by first | with_reducible exact z1 | with_reducible exact z2 _ List.mem_cons_self | with_reducible exact z2 _ (List.mem_cons_of_mem _ List.mem_cons_self) | with_reducible exact z2 _ (List.mem_cons_of_mem _ (List.mem_cons_of_mem _ List.mem_cons_self)) | exact kp_con z3 (by ((repeat (with_reducible_and_instances first | exact List.Mem.head _ | refine List.Mem.tail _ ?_)); (first | done | fail "open")))) ?_ | refine kp_same (by assumption) ?_ | exact rfl)); done) | ((try dsimp only [kstB]); simp only [if_neg z1, z3, List.contains_nil, Bool.false_eq_true, if_false])) (kst_newsOf kN9 ?hN) ?hno ?hs ⟨rfl, kG9, ps9 ++ [_], hi9.append (.one _ _), ?hl, ?hi⟩).1
      case hN => (first | exact fun p hp => hp | ((repeat' (first | refine fa_app ?_ ?_ | refine fa_cons ?_ ?_ | refine List.forall_mem_append.mpr ⟨?_, ?_⟩ | refine List.forall_mem_cons.mpr ⟨?_, ?_⟩)) <;> (first | exact List.forall_mem_nil _ | (intro p9 hp9; kp_flats) | kp_flats)))
      case hno => (first | assumption | (refine nod_of_count (by assumption) (fun a9 => ?_); (try simp only [List.cons_append, List.nil_append, List.map_append, List.map_cons, List.map_nil, List.count_append, List.count_cons, List.count_nil]); omega))
      case hs => (first | exact fun p hp => hp | ((repeat' (first | refine fa_app ?_ ?_ | refine fa_cons ?_ ?_ | refine List.forall_mem_append.mpr ⟨?_, ?_⟩ | refine List.forall_mem_cons.mpr ⟨?_, ?_⟩)) <;> (first | exact List.forall_mem_nil _ | (intro p9 hp9; kp_flats) | kp_flats)))
      case hl => rw [List.length_append, List.length_singleton]; omega
      case hi =>
        intro p hp
        rcases List.mem_append.mp hp with hp | hp
        · exact hin9 p hp
        · rw [List.mem_singleton.mp hp]; exact hb9.out
    case done =>
      rintro ⟨⟨pv9, pc9⟩, us9, c9⟩ nx u h tk hJ79 hn F2 N2
      refine with_goal fun X79 hX79 => ?_
      refine an_3 (hJ79) ?_
      (try clear hJ79)
      intro r9q
      subst r9q
      intro fg9
      intro q9o
      refine ex_1 q9o ?_
      clear q9o
      intro ps9 q9o
      refine an_3 q9o ?_
      clear q9o
      intro hi9 hl9 hin9
      refine hX79 ?_
      dsimp only at fg9 hi9 hn F2 N2
      dsimp only [kstB] at F2
      rename _ = (2 : Int) => hk2
      k_steps
      rename News h₀ L _ _ => kN7
      rename Fr h₀ L _ _ => kF7
      refine ⟨?_⟩
      refine' turn1 w ⟨fa, ka, co, ba, bd, ro, ch, kn, fo, kv, cdv, kc, cdn, cs, oF, oK, x, ar, ta⟩ ⟨us9, c9, nl, tn, cv, cc, okn, ofo, oS, oP, oW, es⟩ ((pl, listOf pv9.toArray pc9) :: l0) ((pl, listOf pv9.toArray pc9) :: rest) _ _ t1 pl pv9 pc9 ps9 ?k0 ?k5 List.mem_cons_self hi9 (by omega) hin9 hfew ho _ _ _ _ _ _ _ _ _ _ _ _ _ _ _ _ _ rfl B kF7 X ?hN ?hno (cons_sub hl0) (W0.mono ?sa) { O0.mono ?sa with figs := fg9 } (by k_asm) hd hu ?hnm ?hr
      case sa => exact fun p hp => List.mem_cons_of_mem _ hp
      case hN => exact kst_newsOf kN7 (by (first | exact fun p hp => hp | ((repeat' (first | refine fa_app ?_ ?_ | refine fa_cons ?_ ?_ | refine List.forall_mem_append.mpr ⟨?_, ?_⟩ | refine List.forall_mem_cons.mpr ⟨?_, ?_⟩)) <;> (first | exact List.forall_mem_nil _ | (intro p9 hp9; kp_flats) | kp_flats))))
      case hno => dsimp only [stLed, List.cons_append, List.nil_append]; (first | assumption | (refine nod_of_count (by assumption) (fun a9 => ?_); (try simp only [List.cons_append, List.nil_append, List.map_append, List.map_cons, List.map_nil, List.count_append, List.count_cons, List.count_nil]); omega))
      case hnm => first | ((repeat (first | exact fr_nil | refine fr_cons (by rfl) ?_)); done) | (intro p hp; ((repeat (rcases List.mem_cons.mp hp with rfl | hp; (· rfl))); exact absurd hp List.not_mem_nil))
      case k0 => omega
      case k5 => omega
      case hr =>
        intro m2 S2 add2 h2 tk2 F2 keep2 N2 nod2 O2 le2 _
        refine' hret m2 S2 (add2 ++ [(pl, listOf pv9.toArray pc9)]) _ _ F2 ?hm ?hN ?hno ?hO le2 trivial
        case hN => rw [List.append_assoc add2]; exact N2
        case hno => rw [List.append_assoc add2]; exact nod2
        case hO => rw [List.append_assoc]; exact O2
        case hm =>
          intro z hz
          have y1 := ne_con hz (x := Str.ofString "step") (by simp)
          refine (keep2 z (kp_sub hz (by decide +kernel))).trans ?_
          simp only [if_neg y1, List.contains_nil, Bool.false_eq_true, if_false]
          (first | ((repeat (first | with_reducible rfl | with_reducible assumption | refine kp_st (by with_reducible assumption) ?_ | refine kp_set (by exact kp_con hz (by ((repeat (with_reducible_and_instances first | exact List.Mem.head _ | refine List.Mem.tail _ ?_)); (first | done | fail "open")))) ?_ | refine kp_same (by assumption) ?_ | exact rfl)); done) | ((repeat' split) <;> first | rfl | (rename_i e9; subst e9; first | assumption | (symm; assumption) | (exfalso; revert hz; simp)) | (rename_i e9 _; subst e9; first | (symm; assumption) | (exfalso; revert hz; simp))))
  · rename Figs _ => kG
    rename Held (0 ≤ _ ∧ _ < (5 : Int)) => hb1
    try dsimp only [List.nil_append, List.cons_append, List.append_nil]
    try k_fold
    k_dflt (refine' Does.use1 (some_does w fa _ _ cs.length t1 _ kG m1 m4) ?P1 ?uB ?uF ?uX ?uN ?un ?uT ?uk ?uL ?ud ?uu ?_; (case uN => k_asm); (case P1 => allgen_close2_more); (case uB => k_asm); (case uF => k_asm); (case uX => k_asm); (case un => first | assumption | kat_tups); (case uT => k_asm); (case uk => rfl); (case uL => rfl); (case ud => ktr_room); (case uu => tlg_ne)); intro r' chg' add' h' tk' F' N' nod' young' post'
    refine with_goal fun X79 hX79 => ?_
    refine ex_6 (post') ?_
    (try clear post')
    intro D vs ps us2 c2 n q9o
    refine an_7 q9o ?_
    clear q9o
    intro r9q
    subst r9q
    intro r9q
    subst r9q
    intro hfig2
    intro r9q
    subst r9q
    intro hvi
    intro hvl
    intro hvin
    refine hX79 ?_
    simp only [List.cons_append, List.nil_append] at N' nod'
    k_steps
    rename News h₀ L _ _ => kN7
    rename Fr h₀ L _ _ => kF7
    refine ⟨?_⟩
    refine' turn1 w ⟨fa, ka, co, ba, bd, ro, ch, kn, fo, kv, cdv, kc, cdn, cs, oF, oK, x, ar, ta⟩ ⟨us2, c2, nl, tn, cv, cc, okn, ofo, oS, oP, oW, es⟩ ((D, listOf vs.toArray n) :: l0) ((D, listOf vs.toArray n) :: rest) _ _ t1 D vs n ps hb1.out.1 hb1.out.2 List.mem_cons_self hvi (by omega) hvin hfew ho _ _ _ _ _ _ _ _ _ _ _ _ _ _ _ _ _ rfl B kF7 X ?hN ?hno (cons_sub hl0) (W0.mono ?sa) { O0.mono ?sa with figs := hfig2 } (by k_asm) hd hu ?hnm ?hr
    case sa => exact fun p hp => List.mem_cons_of_mem _ hp
    case hN => exact kst_newsOf kN7 (by (first | exact fun p hp => hp | ((repeat' (first | refine fa_app ?_ ?_ | refine fa_cons ?_ ?_ | refine List.forall_mem_append.mpr ⟨?_, ?_⟩ | refine List.forall_mem_cons.mpr ⟨?_, ?_⟩)) <;> (first | exact List.forall_mem_nil _ | (intro p9 hp9; kp_flats) | kp_flats))))
    case hno => dsimp only [stLed, List.cons_append, List.nil_append]; (first | assumption | (refine nod_of_count (by assumption) (fun a9 => ?_); (try simp only [List.cons_append, List.nil_append, List.map_append, List.map_cons, List.map_nil, List.count_append, List.count_cons, List.count_nil]); omega))
    case hnm => first | ((repeat (first | exact fr_nil | refine fr_cons (by rfl) ?_)); done) | (intro p hp; ((repeat (rcases List.mem_cons.mp hp with rfl | hp; (· rfl))); exact absurd hp List.not_mem_nil))
    case hr =>
      intro m2 S2 add2 h2 tk2 F2 keep2 N2 nod2 O2 le2 _
      refine' hret m2 S2 (add2 ++ [(D, listOf vs.toArray n)]) _ _ F2 ?hm ?hN ?hno ?hO le2 trivial
      case hN => rw [List.append_assoc add2]; exact N2
      case hno => rw [List.append_assoc add2]; exact nod2
      case hO => rw [List.append_assoc]; exact O2
      case hm =>
        intro z hz
        refine (keep2 z (kp_sub hz (by decide +kernel))).trans ?_
        (first | ((repeat (first | with_reducible rfl | with_reducible assumption | refine kp_st (by with_reducible assumption) ?_ | refine kp_set (by exact kp_con hz (by ((repeat (with_reducible_and_instances first | exact List.Mem.head _ | refine List.Mem.tail _ ?_)); (first | done | fail "open")))) ?_ | refine kp_same (by assumption) ?_ | exact rfl)); done) | ((repeat' split) <;> first | rfl | (rename_i e9; subst e9; first | assumption | (symm; assumption) | (exfalso; revert hz; simp)) | (rename_i e9 _; subst e9; first | (symm; assumption) | (exfalso; revert hz; simp))))

end
end
section
local macro_rules | `(tactic| omega) => `(tactic| first | with_reducible assumption | exact Nat.le_of_lt (by with_reducible assumption) | exact Nat.le_trans (by with_reducible assumption) (by decide) | exact Nat.lt_of_lt_of_le (by with_reducible assumption) (by decide) | exact Nat.lt_of_le_of_lt (by with_reducible assumption) (by decide) | exact Nat.le_trans (Nat.le_of_lt (by with_reducible assumption)) (by decide) | exact Nat.ne_of_lt (by with_reducible assumption) | exact Nat.ne_of_gt (by with_reducible assumption) | exact om_ne1 _ 0 | exact om_ne1 _ 1 | exact om_ne1 _ 2 | exact om_ne1 _ 3 | exact om_ne1 _ 4 | exact om_ne2 _ 0 | exact om_ne2 _ 1 | exact om_ne2 _ 2 | exact om_ne2 _ 3 | exact om_ne2 _ 4 | lia)
section
theorem offMid : True := by
  w_top off
  trivial

open PyProof
section
variable {prog : Program} {w : World} {A : Around} {E : Value → Shared → Prop} {s : Shared} {h₀ : Heap} {L : Addr} {m : Str → Option Value} {news : Led}

/-- the cut [1:-1], as reckoned -/
theorem cut_mid (n : Nat) (hn : 2 ≤ n) : Builtin.Slice.sliceAdjust (some 1) (some (-1)) 1 (n : Int) = (1, (n : Int) - 1) := by
  unfold Builtin.Slice.sliceAdjust
  have h1 : ¬ ((1 : Int) < 0) := by omega
  have h3 : ((-1 : Int) < 0) := by omega
  simp only [h1, h3, if_false, if_true]
  refine Prod.ext ?_ ?_
  · show min (1 : Int) n = 1
    omega
  · show max (-1 + (n : Int)) 0 = n - 1
    omega
theorem many_mid (n : Nat) (hn : 2 ≤ n) : Builtin.Slice.slicePlaces 1 ((n : Int) - 1) 1 = n - 2 := by
  unfold Builtin.Slice.slicePlaces
  have h1 : (1 : Int) > 0 := by omega
  simp only [h1, if_true, Int.ediv_one]
  split <;> omega
theorem applied_mid {sl : Addr} {n : Nat} {u u2 : Tok} {Q : Int × Int × Nat → Shared → Prop} (hs : s.heap.IsSliceOf sl (.int 1 u) (.int (-1) u2) .none) (hn : 2 ≤ n) (h : Q (1, 1, n - 2) s) :
    wpAny (model prog w) A (Builtin.Slice.sliceApplied (.ref sl) (pure (n : Int))) Q E s := by
  refine ex_1 (id hs) ?_
  intro os q9o
  refine an_3 q9o ?_
  clear q9o
  intro hos _ hds
  unfold Builtin.Slice.sliceApplied Builtin.Slice.sliceFields
  refine wpAny_bind (wpAny_bind (wpAny_field hos hds (x := .int 1 u) rfl (wpAny_bind (wpAny_field hos hds (x := .int (-1) u2) rfl (wpAny_bind (wpAny_field hos hds (x := .none) rfl (wpAny_pure ?_)))))))
  refine wpAny_bind (slicePart_none ?_)
  show wpAny _ _ (if ((1 : Int) == 0) = true then _ else _) _ _ s
  rw [if_neg (by decide)]
  refine wpAny_bind (slicePart_int (wpAny_bind (slicePart_int (wpAny_bind (wpAny_pure ?_)))))
  show wpAny _ _ (match Builtin.Slice.sliceAdjust (some 1) (some (-1)) 1 (n : Int) with | (lo, hi) => pure (lo, (1 : Int), Builtin.Slice.slicePlaces lo hi 1)) _ _ s
  rw [cut_mid n hn]
  show wpAny _ _ (pure ((1 : Int), (1 : Int), Builtin.Slice.slicePlaces 1 ((n : Int) - 1) 1)) _ _ s
  rw [many_mid n hn]
  exact wpAny_pure h
/-- what lies between the first and the last -/
def midOf {α : Type} (vs : List α) : List α := (vs.drop 1).take (vs.length - 2)
theorem pick_mid (vs : List Value) : ((List.range (vs.toArray.size - 2)).filterMap fun (k : Nat) => vs.toArray[((1 : Int) + (k : Int) * 1).toNat]?).toArray = (midOf vs).toArray := by
  have e : (fun (k : Nat) => vs.toArray[((1 : Int) + (k : Int) * 1).toNat]?) = (fun x => vs.toArray[x]?) ∘ fun k => 1 + k := by
    funext k
    have : ((1 : Int) + (k : Int) * 1).toNat = 1 + k := by omega
    rw [this]; rfl
  rw [e, ← List.filterMap_map, pick_run vs.toArray 1 (vs.toArray.size - 2)]
  simp [midOf]
theorem get_mid {t sl : Addr} {vs : List Value} {u u2 : Tok} {Q : Value → Shared → Prop} (ht : IsTup s.heap t vs.toArray) (hs : s.heap.IsSliceOf sl (.int 1 u) (.int (-1) u2) .none) (h2 : 2 ≤ vs.length) (hsz : vs.length ≤ sizeLine)
    (h : Q (.ref s.heap.objs.size) { s with heap := s.heap.push (tupOf (midOf vs) 0) }) : wpAny (model prog w) A (getItem (.ref t) (.ref sl)) Q E s := by
  have hm : sizeOk (.seq (midOf vs).toArray) := by
    show (midOf vs).toArray.size ≤ sizeLine
    rw [List.size_toArray, midOf, List.length_take, List.length_drop]
    omega
  refine ex_1 (id hs) ?_
  intro os q9o
  refine an_3 q9o ?_
  clear q9o
  intro hos hcs hds
  unfold getItem
  try with_reducible refine wpAny_holding ?_
  first | refine wpAny_bind (wpAny_pure ?_) | skip
  refine wpAny_bind (wpAny_sequenceKey ht.typeIs (by decide) ?_)
  refine wpAny_bind (wpAny_callSpecial?_slot (name := Str.ofString "__getitem__") ht.typeIs slot_tuple_getitem
    (wpAny_call_entry slot_tuple_getitem ht.typeIs entry_tuple_getitem ?_ (args_tuple_getitem _ _)))
  show wpAny _ _ (Builtin.Tuple.tupleItemsOf (.ref t) >>= _) _ _ s
  refine wpAny_bind (tupleItemsOf_ ht ?_)
  refine wpAny_bind (wpAny_typeOf ⟨os, hos, hcs⟩ ?_)
  rw [if_pos (by decide)]
  have hsz2 : vs.toArray.size = vs.length := by simp
  refine wpAny_bind (applied_mid (n := vs.toArray.size) hs (by rw [hsz2]; exact h2) ?_)
  show wpAny _ _ (if ((1 : Int) == 0 && (1 : Int) == 1 && (vs.toArray.size - 2) == vs.toArray.size) = true then _ else _) _ _ s
  rw [if_neg (by simp), pick_mid vs]
  first
    | exact wpAny_bind (m := Builtin.Tuple.tupleExact _) (wpAny_newObj_type (wpAny_pure ⟨_, rfl, wpAny_pure h⟩) hm)
    | exact wpAny_bind (m := Builtin.Tuple.tupleExact _) (wpAny_newObj_type (wpAny_bind (wpAny_pure (wpAny_pure ⟨_, rfl, wpAny_pure h⟩))) hm)
    | exact wpAny_bind (wpAny_bind (m := Builtin.Tuple.tupleExact _) (wpAny_newObj_type (wpAny_pure (wpAny_pure ⟨_, rfl, wpAny_pure h⟩)) hm))
    | exact wpAny_bind (wpAny_bind (m := Builtin.Tuple.tupleExact _) (wpAny_newObj_type (wpAny_pure ⟨_, rfl, wpAny_pure h⟩) hm))
theorem slice_mid {value slice : PySem.Expr} {t : Addr} {vs : List Value} {n : Nat} {u u2 : Tok} {Q : Value → Shared → Prop}
    (F : Fr h₀ L s.heap m) (N : News h₀ L s.heap news) (ht : (t, tupOf vs n) ∈ news) (h2 : 2 ≤ vs.length) (hsz : vs.length ≤ sizeLine)
    (h : ∀ D h', Fr h₀ L h' m → News h₀ L h' ((D, tupOf (midOf vs) 0) :: news) → (∀ p ∈ news, p.1 < D) → Q (.ref D) { s with heap := h' })
    (hs : subscripted slice false (.ref t) (.ref s.heap.objs.size) = operate [.ref s.heap.objs.size, .ref t] (getItem (.ref t) (.ref s.heap.objs.size)) := by with_unfolding_all rfl)
    (hg : ∀ r, letTemporaryGo value (.ref t) r = pure () := by intro _; with_unfolding_all rfl) :
    wpAny (model prog w) A (subscriptTail value slice (.ref t) (.ref s.heap.objs.size)) Q E { s with heap := s.heap.push { cls := .type "slice", data := .fields #[.int 1 u, .int (-1) u2, .none] } } := by
  have ht0 : IsTup s.heap t vs.toArray := N.isTup ht
  have ht' : IsTup (s.heap.push { cls := .type "slice", data := .fields #[.int 1 u, .int (-1) u2, .none] }) t vs.toArray := ht0.keeps fun _ _ e => Heap.get?_push_of_some _ e
  refine subscriptTail_ops (s := { s with heap := s.heap.push { cls := .type "slice", data := .fields #[.int 1 u, .int (-1) u2, .none] } }) ht'.typeIs slot_tuple_getitem.lookup
    (get_mid ht' (Heap.IsSliceOf.new ..) h2 hsz ?_) hs hg
  have N1 := News.push (F.push { cls := .type "slice", data := .fields #[.int 1 u, .int (-1) u2, .none] }) (N.grown fun _ _ e => Heap.get?_push_of_some _ e) (tupOf (midOf vs) 0)
  rw [Heap.size_push] at N1
  show Q (.ref (s.heap.push _).objs.size) _
  rw [Heap.size_push]
  exact h _ _ ((F.push _).push _) N1 fun p hp => Nat.lt_succ_of_lt (Heap.lt_size (N p hp).1)
theorem last_tup {value slice : PySem.Expr} {t : Addr} {vs : List Value} {n : Nat} {u : Tok} {v : Value} {Q : Value → Shared → Prop} (N : News h₀ L s.heap news) (ht : (t, tupOf vs n) ∈ news) (hv : vs.getLast? = some v) (h : Q v s)
    (hs : subscripted slice false (.ref t) (.int (-1) u) = operate [.ref t, .int (-1) u] (getItem (.ref t) (.int (-1) u)) := by with_unfolding_all rfl) :
    wpAny (model prog w) A (subscriptTail value slice (.ref t) (.int (-1) u)) Q E s := by
  have hl : 1 ≤ vs.length := by
    cases vs with
    | nil => cases hv
    | cons _ _ => simp
  refine item_tupleT (j := vs.length - 1) (N.isTup ht) (by decide) (by decide) ?_ (by rw [← List.getLast?_eq_getElem?]; exact hv) h hs
  unfold seqIndex?
  have h3 : ((-1 : Int) < 0) := by omega
  simp only [h3, if_true]
  rw [if_pos (by simp; omega)]
  congr 1
  omega
end

end
section
theorem offLoopD : True := by
  w_top off
  trivial
local macro_rules | `(tactic| walk_at "zz") => `(tactic| skip)

section
variable {prog : Program} {w : World} {A : Around} {E : Value → Shared → Prop} {s : Shared} {env : Env} {h₀ : Heap} {x : Str} {body : List Stmt} {Q : Flow → Shared → Prop} {σ : Type}
theorem loop_TD {l0 : Led} {d : Addr} {o : Obj} {es : List (List Int × Int)} {m₀ : Str → Option Value} {news : Led} (ps : σ → List (Str × Value)) (st : List Str) (J : Nat → σ → Led → Prop) (c₀ : σ)
    (hh : A.handled = none) (T : TD prog w l0 o es) (hd : (d == sysModules) = false) (hl : (d, o) ∈ news) (F : Fr h₀ env.locals s.heap m₀) (N : News h₀ env.locals s.heap news) (hn : Nod news) (hk : ∀ p ∈ ps c₀, m₀ p.1 = some p.2) (hj : J 0 c₀ news)
    (turn : ∀ i a ok e c nx (u : Str → Option Value) h tk I oI, i < es.length → es[i]? = some e → (a, ok) ∈ l0 → TupInts e.1 ok → J i c nx → (d, o) ∈ nx → Nod ((I, oI) :: nx) →
      Fr h₀ env.locals h (fun y => if y = x then some (.ref a) else kstB (fun z => if st.contains z then u z else m₀ z) (ps c) y) → News h₀ env.locals h ((I, oI) :: nx) →
      wpAny (model prog w) A (execs body env) (TurnQ h₀ env.locals x ps st m₀ I oI [(d, o)] (J (i + 1)) { s with heap := h, toks := tk } Q) E { s with heap := h, toks := tk })
    (done : ∀ c nx (u : Str → Option Value) h tk, J es.length c nx → (d, o) ∈ nx → Nod nx → Fr h₀ env.locals h (fun y => if y = x then u y else kstB (fun z => if st.contains z then u z else m₀ z) (ps c) y) → News h₀ env.locals h nx →
      Q .next { s with heap := h, toks := tk }) :
    wpAny (model prog w) A (pyIter (.ref d)) (fun it s₂ => LoopAtV prog w A h₀ env x body Q E it s₂) E s := by
  refine with_goal fun X79 hX79 => ?_
  refine ex_3 (T) ?_
  (try clear T)
  intro arr ep xs q9o
  refine an_5 q9o ?_
  clear q9o
  intro r9q
  subst r9q
  intro h2
  intro _
  intro h4
  intro h5
  refine hX79 ?_
  have hlen : arr.size = es.length := by rw [← Array.length_toList, h2, List.length_map, h5.length]
  have hol := (N _ hl).1
  have hraw : RawAt s.heap d arr ep := ⟨_, hol, ⟨rfl, rfl, rfl⟩, rfl⟩
  have hne : d ≠ s.heap.objs.size := Nat.ne_of_lt (Heap.lt_size hol)
  refine raw_iter hd hraw ?_
  have W := raw_walks_keys (prog := prog) (w := w) hh s.heap.objs.size d hne arr ep
  rw [hlen] at W
  refine loop_walk (src := [(d, _)]) ps st J c₀ W (fun i h st => by obtain ⟨o, e, _⟩ := st.1; exact ⟨o, e⟩) (next_is_new F) (Nat.ne_of_lt F.ns.lt) (fun p hp => Nat.ne_of_lt (Heap.lt_size (N p hp).1)) (fun q hq => by rw [List.mem_singleton.mp hq]; exact hl)
    ⟨⟨_, Heap.get?_push_size _ rfl, rfl, by rw [hlen]; rfl⟩, hraw.push _⟩ (F.push _) (fun p hp => ⟨Heap.get?_push_of_some _ (N p hp).1, (N p hp).2⟩) hn hk hj ?_ ?_
  · rintro i v c nx u h tk oI hi ⟨en, hen, rfl⟩ hJ hs hn' F' N'
    have hx : (arr.toList)[i]? = some en := by rw [Array.getElem?_toList]; exact hen
    rw [h2, List.getElem?_map] at hx
    cases hxi : xs[i]? with
    | none => rw [hxi] at hx; cases hx
    | some x9 =>
      rw [hxi] at hx
      cases hx
      refine ex_1 (h5.getL hxi) ?_
      intro e q9o
      refine an_3 q9o ?_
      clear q9o
      intro he e1 _
      refine ex_1 (h4 x9 (List.mem_of_getElem? hxi)) ?_
      intro ok q9o
      refine an_2 q9o ?_
      clear q9o
      intro hm hk
      exact turn i x9.2.1 ok e c nx u h tk _ oI hi he hm (e1 ▸ hk) hJ (hs _ (List.mem_singleton.mpr rfl)) hn' F' N'
  · intro c nx u h tk hJ hs hn' F' N'
    exact done c nx u h tk hJ (hs _ (List.mem_singleton.mpr rfl)) hn' F' N'
end

end
section
theorem offEnds : True := by
  w_top off
  trivial
local macro_rules | `(tactic| walk_at "zz") => `(tactic| skip)
local macro_rules | `(tactic| walk_at "zz") => `(tactic| skip)

section
variable {prog : Program} {w : World} {A : Around} {E : Value → Shared → Prop} {s : Shared} {h₀ : Heap} {L : Addr} {news na nb : Led}
theorem done_at {l : Led} {kvs : List (Int × Value)} {bs : List (Int × List Dat)} (h : DoneAre l kvs bs) (nd : (bs.map (·.1)).Nodup) {b : Int × List Dat} (hb : b ∈ bs) : ∃ y, valueAt kvs b.1 = some y ∧ DatIn l y (.list b.2) := by
  induction h with
  | nil => cases hb
  | @cons kv c kvs bs h _ ih =>
    rw [List.map_cons, List.nodup_cons] at nd
    rcases List.mem_cons.mp hb with rfl | hb
    · refine ⟨kv.2, ?_, h.2⟩
      unfold valueAt
      rw [List.find?_cons_of_pos (by simp [h.1])]
      rfl
    · refine ex_1 (ih nd.2 hb) ?_
      intro y q9o
      refine an_2 q9o ?_
      clear q9o
      intro hy hd
      refine ⟨y, ?_, hd⟩
      have hne : ¬ kv.1 = b.1 := by
        intro e
        apply nd.1
        rw [← h.1, e]
        exact List.mem_map_of_mem hb
      unfold valueAt at hy ⊢
      rw [List.find?_cons_of_neg (by simp [hne])]
      exact hy
theorem hits_of {ka kb : List (Int × Value)} {ba bb : List (Int × List Dat)} (N : News h₀ L s.heap news) (ha : DoneAre na ka ba) (sa : ∀ p ∈ na, p ∈ news) (hb : DoneAre nb kb bb) (sb : ∀ p ∈ nb, p ∈ news) (nd : (bb.map (·.1)).Nodup)
    (sub : ∀ b ∈ ba, b ∈ bb) (ok : ∀ b ∈ ba, kqdOk 8 (.list b.2) = true) (hu : A.in1.units + 64 < cLine) : KeqHits A.in1 s kb ka true := by
  induction ha with
  | nil => exact .nil
  | @cons kv b kvs bs h _ ih =>
    refine ex_1 (done_at hb nd (sub b List.mem_cons_self)) ?_
    intro y q9o
    refine an_2 q9o ?_
    clear q9o
    intro hy hd
    obtain ⟨k, v⟩ := kv
    refine an_2 (h) ?_
    (try clear h)
    intro h1 h2
    dsimp only at h1 h2
    have hok := ok b List.mem_cons_self
    refine ex_1 (kqd_in N 8 (h2.mono sa) hok) ?_
    intro as ra
    refine ex_1 (kqd_in N 8 (hd.mono sb) hok) ?_
    intro cs rb
    have he := keq_at (A := A) ra rb (shaped_of hok) (shaped_of hok) hu
    rw [(kqd_eqv 8 _ _ 8 hok hok).mpr rfl] at he
    exact KeqHits.hit (e := true) (b := true) (by rw [h1]; exact hy) he (ih (fun c hc => sub c (List.mem_cons_of_mem _ hc)) fun c hc => ok c (List.mem_cons_of_mem _ hc))
end

def chB (ar : Int) (es : List (List Int × Int)) : List (Int × List Dat) := es.map fun e => (e.2, rowsOf ar e.1)
def coB (cs : List Cod) (k : Nat) : List (Int × List Dat) := (List.range k).map fun (p : Nat) => ((p : Int), insOf cs p)
theorem flat_app {a b : List (Int × List Dat)} : flatB (a ++ b) = flatB a ++ flatB b := by simp [flatB]
theorem flat_ch {ar : Int} {es : List (List Int × Int)} : flatB (chB ar es) = rows1 ar es := by simp [flatB, chB, rows1, List.flatMap_map]
theorem flat_co {cs : List Cod} {k : Nat} : flatB (coB cs k) = rows2 cs k := by simp [flatB, coB, rows2, List.flatMap_map]
theorem ch_keys {ar : Int} {es : List (List Int × Int)} : (chB ar es).map (·.1) = es.map (·.2) := by simp [chB]
theorem co_keys {cs : List Cod} {k : Nat} : (coB cs k).map (·.1) = (List.range k).map fun (p : Nat) => (p : Int) := by simp [coB]
theorem nodup_blocks {ar : Int} {es : List (List Int × Int)} {cs : List Cod} (h : Labels cs.length es) : ((chB ar es ++ coB cs cs.length).map (·.1)).Nodup := by
  rw [List.map_append, ch_keys, co_keys, h]
  rw [List.nodup_append]
  refine ⟨?_, ?_, ?_⟩
  · rw [List.nodup_iff_pairwise_ne]
    exact List.Pairwise.map _ (fun a b hab => by intro e; exact hab (by omega)) (List.nodup_iff_pairwise_ne.mp List.nodup_range)
  · rw [List.nodup_iff_pairwise_ne]
    exact List.Pairwise.map _ (fun a b hab => by intro e; exact hab (by omega)) (List.nodup_iff_pairwise_ne.mp List.nodup_range)
  · intro a ha b hb e
    refine with_goal fun X79 hX79 => ?_
    refine ex_1 (List.mem_map.mp ha) ?_
    intro i q9o
    refine an_2 q9o ?_
    clear q9o
    intro hi
    intro r9q
    subst r9q
    refine hX79 ?_
    refine with_goal fun X79 hX79 => ?_
    refine ex_1 (List.mem_map.mp hb) ?_
    intro j q9o
    refine an_2 q9o ?_
    clear q9o
    intro hj
    intro r9q
    subst r9q
    refine hX79 ?_
    have := List.mem_range.mp hj
    omega
theorem nodup_blocks2 {ar : Int} {es : List (List Int × Int)} {cs : List Cod} (h : Labels cs.length es) : ((coB cs cs.length ++ chB ar es).map (·.1)).Nodup := by
  have := nodup_blocks (ar := ar) h
  rw [List.map_append] at this ⊢
  exact (List.perm_append_comm).nodup_iff.mp this
theorem pos_blocks {ar : Int} {es : List (List Int × Int)} {cs : List Cod} (h : Labels cs.length es) : ∀ b ∈ chB ar es ++ coB cs cs.length, 0 ≤ b.1 := by
  intro b hb
  rcases List.mem_append.mp hb with hb | hb
  · have : b.1 ∈ (chB ar es).map (·.1) := List.mem_map_of_mem hb
    rw [ch_keys, h] at this
    refine ex_1 (List.mem_map.mp this) ?_
    intro i q9o
    refine an_2 q9o ?_
    clear q9o
    intro _ e
    omega
  · refine with_goal fun X79 hX79 => ?_
    refine ex_1 (List.mem_map.mp hb) ?_
    intro p q9o
    refine an_2 q9o ?_
    clear q9o
    intro _
    intro r9q
    subst r9q
    refine hX79 ?_
    exact Int.natCast_nonneg p

theorem ok_try : PyData.strOk (Str.ofString "try") = true := by decide +kernel
theorem ok_retry : PyData.strOk (Str.ofString "retry") = true := by decide +kernel
theorem ok_trust : PyData.strOk (Str.ofString "trust") = true := by decide +kernel
theorem ok_neck : PyData.strOk (Str.ofString "neck_cut") = true := by decide +kernel
theorem ok_exec : PyData.strOk (Str.ofString "execute") = true := by decide +kernel
theorem no_try : (Str.ofString "try" == Str.ofString "label") = false := by decide +kernel
theorem no_retry : (Str.ofString "retry" == Str.ofString "label") = false := by decide +kernel
theorem no_trust : (Str.ofString "trust" == Str.ofString "label") = false := by decide +kernel
theorem no_neck : (Str.ofString "neck_cut" == Str.ofString "label") = false := by decide +kernel
theorem no_exec : (Str.ofString "execute" == Str.ofString "label") = false := by decide +kernel
/-- a row of a code that a block may hold -/
def RowOk (d : Dat) : Prop := kqdOk 7 d = true ∧ Other d
theorem rows_ok (ar : Int) (ds : List Int) : ∀ d ∈ rowsOf ar ds, RowOk d := by
  intro d hd
  unfold rowsOf at hd
  rcases List.mem_append.mp hd with hd | hd
  · rcases List.mem_cons.mp hd with rfl | hd
    · exact ⟨by simp [kqdOk, ok_try], _, _, rfl, no_try⟩
    · refine with_goal fun X79 hX79 => ?_
      refine ex_1 (List.mem_map.mp hd) ?_
      intro k q9o
      refine an_2 q9o ?_
      clear q9o
      intro _
      intro r9q
      subst r9q
      refine hX79 ?_
      exact ⟨by simp [kqdOk, ok_retry], _, _, rfl, no_retry⟩
  · rw [List.mem_singleton.mp hd]
    exact ⟨by simp [kqdOk, ok_trust], _, _, rfl, no_trust⟩
/-- the law's own code of a clause -/
def insL (k p : Nat) : List Dat := List.replicate k (.tuple [.str (Str.ofString "neck_cut")]) ++ [.tuple [.str (Str.ofString "execute"), .int p]]
theorem insL_ok (k p : Nat) : ∀ d ∈ insL k p, RowOk d := by
  intro d hd
  rcases List.mem_append.mp hd with hd | hd
  · rw [List.eq_of_mem_replicate hd]
    exact ⟨by simp [kqdOk, ok_neck], _, _, rfl, no_neck⟩
  · rw [List.mem_singleton.mp hd]
    exact ⟨by simp [kqdOk, ok_exec], _, _, rfl, no_exec⟩
/-- what a clause's code must be -/
def CodOk (c : Cod) : Prop := c.ins.length ≤ 8 ∧ ∀ d ∈ c.ins, RowOk d
theorem blocks_ok {ar : Int} {es : List (List Int × Int)} {cs : List Cod} (h : ∀ c ∈ cs, CodOk c) : ∀ b ∈ chB ar es ++ coB cs cs.length, ∀ d ∈ b.2, RowOk d := by
  intro b hb d hd
  rcases List.mem_append.mp hb with hb | hb
  · refine with_goal fun X79 hX79 => ?_
    refine ex_1 (List.mem_map.mp hb) ?_
    intro e q9o
    refine an_2 q9o ?_
    clear q9o
    intro _
    intro r9q
    subst r9q
    refine hX79 ?_
    exact rows_ok _ _ d hd
  · refine with_goal fun X79 hX79 => ?_
    refine ex_1 (List.mem_map.mp hb) ?_
    intro p q9o
    refine an_2 q9o ?_
    clear q9o
    intro hp
    intro r9q
    subst r9q
    refine hX79 ?_
    have hp := List.mem_range.mp hp
    dsimp only at hd
    unfold insOf at hd
    rw [List.getElem?_eq_getElem hp] at hd
    exact (h _ (List.getElem_mem hp)).2 d hd
theorem blocks_kqd {ar : Int} {es : List (List Int × Int)} {cs : List Cod} (h : ∀ c ∈ cs, CodOk c) : ∀ b ∈ chB ar es ++ coB cs cs.length, kqdOk 8 (.list b.2) = true := by
  intro b hb
  simp only [kqdOk, List.all_eq_true]
  exact fun d hd => (blocks_ok h b hb d hd).1
theorem co_succ {cs : List Cod} {i : Nat} : coB cs (i + 1) = coB cs i ++ [((i : Int), insOf cs i)] := by
  simp [coB, List.range_succ]
theorem ch_succ {ar : Int} {es : List (List Int × Int)} {i : Nat} {e : List Int × Int} (h : es[i]? = some e) : chB ar (es.take (i + 1)) = chB ar (es.take i) ++ [(e.2, rowsOf ar e.1)] := by
  unfold chB
  rw [List.take_add_one, h, List.map_append]; rfl
/-- a chain's rows, as the law writes them -/
theorem rowsOf_mid {ar d0 d1 : Int} {ds : List Int} (h0 : ds[0]? = some d0) (h1 : ds.getLast? = some d1) :
    rowsOf ar ds = .tuple [.str (Str.ofString "try"), .int d0, .int ar] :: ((midOf ds).map fun d => Dat.tuple [.str (Str.ofString "retry"), .int d]) ++ [.tuple [.str (Str.ofString "trust"), .int d1]] := by
  unfold rowsOf midOf
  have e0 : ds.headD 0 = d0 := by
    cases ds with
    | nil => cases h0
    | cons a r => simpa using h0
  have e1 : ds.getLastD 0 = d1 := by
    rw [List.getLastD_eq_getLast?, h1]; rfl
  rw [e0, e1]

end
section
theorem offAdds : True := by
  w_top off
  trivial
local macro_rules | `(tactic| walk_at "zz") => `(tactic| skip)
local macro_rules | `(tactic| walk_at "zz") => `(tactic| skip)
local macro_rules | `(tactic| walk_at "zz") => `(tactic| skip)

section
variable {prog : Program} {w : World} {A : Around} {E : Value → Shared → Prop} {s : Shared} {h₀ : Heap} {L a b : Addr} {m : Str → Option Value} {news : Led} {xs ys : List Value} {ka kb : Nat} {Q : Value → Shared → Prop}
theorem add_led (F : Fr h₀ L s.heap m) (N : News h₀ L s.heap news) (ma : (a, listOf xs.toArray ka) ∈ news) (mb : (b, listOf ys.toArray kb) ∈ news) (hz : xs.length + ys.length ≤ 4000)
    (h : ∀ D h', Fr h₀ L h' m → News h₀ L h' ((D, listOf (xs ++ ys).toArray 0) :: news) → (∀ p ∈ news, p.1 < D) → Q (.ref D) { s with heap := h' }) : wpAny (model prog w) A (binaryOp .Add (.ref a) (.ref b)) Q E s :=
  kmk_add_lit F N (N.isList ma) (N.isList mb) (by simp) h (by rw [sizeLine_eq]; simp only [List.toList_toArray]; omega)
theorem find_nodup {es : List (List Int × Int)} {i : Nat} {e : List Int × Int} (nd : (es.map (·.1)).Nodup) (he : es[i]? = some e) : findE es e.1 = some e.2 := by
  unfold findE
  induction es generalizing i with
  | nil => cases he
  | cons c r ih =>
    rw [List.map_cons, List.nodup_cons] at nd
    cases i with
    | zero =>
      have : c = e := by simpa using he
      subst this
      rw [List.find?_cons_of_pos (by simp)]; rfl
    | succ i =>
      have he' : r[i]? = some e := by simpa using he
      have hne : ¬ c.1 = e.1 := by
        intro q
        exact nd.1 (q ▸ List.mem_map_of_mem (List.mem_of_getElem? he'))
      rw [List.find?_cons_of_neg (by simp [hne])]
      exact ih nd.2 he'
theorem TD.find {l : Led} {o : Obj} {es : List (List Int × Int)} (T : TD prog w l o es) {i : Nat} {e : List Int × Int} (he : es[i]? = some e) : findE es e.1 = some e.2 := by
  refine ex_3 (T) ?_
  (try clear T)
  intro arr ep xs q9o
  refine an_5 q9o ?_
  clear q9o
  intro w1 w2 nd w4 h5
  refine find_nodup ?_ he
  have : es.map (·.1) = xs.map (·.1) := by
    clear nd he w1 w2 w4
    induction h5 with
    | nil => rfl
    | cons h _ ih => rw [List.map_cons, List.map_cons, ih, h.1]
  rw [this]; exact nd
theorem led_three {h : Heap} {c : Addr} {o : Obj} {x : Str} {tx td tr : Tok} {d ar : Int} {n n2 : Nat} {r : Led} {P : Prop}
    (N : News h₀ L h ((a, o) :: (b, listOf [.ref c].toArray n) :: (c, tupOf [.str x tx, .int d td, .int ar tr] n2) :: r))
    (k : ∀ o3, DatIn [(c, o3)] (.ref c) (.tuple [.str x, .int d, .int ar]) → News h₀ L h ((a, o) :: (b, listOf [.ref c].toArray n) :: (c, o3) :: r) → P) : P :=
  k _ (.tuple List.mem_cons_self (.cons (.str _ _) (.cons (.int _ _) (.cons (.int _ _) .nil)))) N
theorem led_last {h : Heap} {b c : Addr} {x : Str} {tx td : Tok} {d : Int} {n1 n n2 : Nat} {zs : List Value} {r : Led} {P : Prop}
    (N : News h₀ L h ((a, listOf (zs ++ [Value.ref c]).toArray n1) :: (b, listOf [.ref c].toArray n) :: (c, tupOf [.str x tx, .int d td] n2) :: r))
    (k : ∀ o3, DatIn [(c, o3)] (.ref c) (.tuple [.str x, .int d]) → News h₀ L h ((a, listOf (zs ++ [Value.ref c]).toArray n1) :: (b, listOf [.ref c].toArray n) :: (c, o3) :: r) → P) : P :=
  k _ (.tuple List.mem_cons_self (.cons (.str _ _) (.cons (.int _ _) .nil))) N
theorem new_key {ar : Int} {es : List (List Int × Int)} {cs : List Cod} {i : Nat} {e : List Int × Int} (h : Labels cs.length es) (he : es[i]? = some e) : e.2 ∉ (coB cs cs.length ++ chB ar (es.take i)).map (·.1) := by
  have nd := nodup_blocks2 (ar := ar) h
  have hs : coB cs cs.length ++ chB ar es = (coB cs cs.length ++ chB ar (es.take i)) ++ (e.2, rowsOf ar e.1) :: chB ar (es.drop (i + 1)) := by
    have e1 : es = es.take i ++ e :: es.drop (i + 1) := by
      refine ex_1 (List.getElem?_eq_some_iff.mp he) ?_
      intro hi q
      rw [← q, ← List.drop_eq_getElem_cons hi, List.take_append_drop]
    have e2 : chB ar es = chB ar (es.take i) ++ (e.2, rowsOf ar e.1) :: chB ar (es.drop (i + 1)) := by
      conv => lhs; rw [e1]
      simp [chB]
    rw [e2, List.append_assoc]
  rw [hs, List.map_append, List.nodup_append] at nd
  intro hm
  exact nd.2.2 _ hm _ (by simp) rfl
end
theorem led_gen {h₀ h : Heap} {L : Addr} {led : Led} {P : Prop} (N : News h₀ L h led) (n : Nod led) (k : ∀ led', led' = led → News h₀ L h led' → Nod led' → P) : P := k led rfl N n
section
variable {R L3 T2 S1 D2 L1 I pd a1 a2 a3 a4 a5 a6 a7 a8 a9 : Addr × Obj} {add rest : Led}
theorem pick_news {h₀ h : Heap} {L : Addr} (N : News h₀ L h (R :: L3 :: T2 :: S1 :: D2 :: L1 :: I :: pd :: a1 :: a2 :: a3 :: a4 :: a5 :: a6 :: a7 :: a8 :: a9 :: (add ++ rest))) :
    News h₀ L h (pd :: I :: a1 :: a2 :: a3 :: a4 :: a5 :: a6 :: a7 :: a8 :: a9 :: ((R :: T2 :: add) ++ rest)) := by
  refine kst_newsOf N fun p hp => ?_
  simp only [List.cons_append, List.mem_append, List.mem_cons] at hp ⊢
  rcases hp with h | h | h | h | h | h | h | h | h | h | h | h | h | h | h <;> simp [h]
theorem pick_nod (n : Nod (D2 :: L1 :: I :: pd :: a1 :: a2 :: a3 :: a4 :: a5 :: a6 :: a7 :: a8 :: a9 :: (add ++ rest))) (hT : AllLt T2.1 (I :: pd :: a1 :: a2 :: a3 :: a4 :: a5 :: a6 :: a7 :: a8 :: a9 :: (add ++ rest)))
    (hR : AllLt R.1 (T2 :: I :: pd :: a1 :: a2 :: a3 :: a4 :: a5 :: a6 :: a7 :: a8 :: a9 :: (add ++ rest))) : Nod (pd :: I :: a1 :: a2 :: a3 :: a4 :: a5 :: a6 :: a7 :: a8 :: a9 :: ((R :: T2 :: add) ++ rest)) := by
  have n2 := Nod.of_cons (allLt_ne hR) (Nod.of_cons (allLt_ne hT) n.cons.2.cons.2)
  refine nod_of_count n2 fun a9 => ?_
  simp only [List.cons_append, List.nil_append, List.map_append, List.map_cons, List.map_nil, List.count_append, List.count_cons, List.count_nil]
  omega
theorem swap_news {h₀ h : Heap} {L : Addr} {a b : Addr × Obj} {r : Led} (N : News h₀ L h (a :: b :: r)) : News h₀ L h (b :: a :: r) :=
  kst_newsOf N fun p hp => by
    simp only [List.mem_cons] at hp ⊢
    rcases hp with h | h | h <;> simp [h]
theorem swap_nod {a a' b : Addr × Obj} {r : Led} (n : Nod (a :: b :: r)) (e : a'.1 = a.1) : Nod (b :: a' :: r) := by
  refine nod_of_count n fun x => ?_
  simp only [List.map_cons, List.count_cons, e]
  omega
end
def retryD (d : Int) : Dat := .tuple [.str (Str.ofString "retry"), .int d]

end
end
section
local macro_rules | `(tactic| omega) => `(tactic| first | with_reducible assumption | exact Nat.le_of_lt (by with_reducible assumption) | exact Nat.le_trans (by with_reducible assumption) (by decide) | exact Nat.lt_of_lt_of_le (by with_reducible assumption) (by decide) | exact Nat.lt_of_le_of_lt (by with_reducible assumption) (by decide) | exact Nat.le_trans (Nat.le_of_lt (by with_reducible assumption)) (by decide) | exact Nat.ne_of_lt (by with_reducible assumption) | exact Nat.ne_of_gt (by with_reducible assumption) | exact om_ne1 _ 0 | exact om_ne1 _ 1 | exact om_ne1 _ 2 | exact om_ne1 _ 3 | exact om_ne1 _ 4 | exact om_ne2 _ 0 | exact om_ne2 _ 1 | exact om_ne2 _ 2 | exact om_ne2 _ 3 | exact om_ne2 _ 4 | lia)
local macro_rules | `(tactic| walk_at "exec For") => `(tactic| (k_here; (with_reducible show wpAny _ _ (exec (Stmt.For (Expr.Name _ _) _ _ [] _) _) _ _ _); (rename Fr _ _ _ _ => lF'); (with_unfolding_all refine' For_invVF lF' ?k1 ?k2 ?_; (case k1 => exact rfl); (case k2 => exact rfl); k_whole)))
local macro_rules | `(tactic| walk_at "exec For Name Name cons nil") => `(tactic| (k_here; (with_reducible show wpAny _ _ (exec (Stmt.For (Expr.Name _ _) _ _ [] _) _) _ _ _); (rename Fr _ _ _ _ => lF'); (with_unfolding_all refine' For_invVF lF' ?k1 ?k2 ?_; (case k1 => exact rfl); (case k2 => exact rfl); k_whole)))
local macro_rules | `(tactic| walk_at "exec For Name Call cons nil") => `(tactic| (k_here; (with_reducible show wpAny _ _ (exec (Stmt.For (Expr.Name _ _) _ _ [] _) _) _ _ _); (rename Fr _ _ _ _ => lF'); (with_unfolding_all refine' For_invVF lF' ?k1 ?k2 ?_; (case k1 => exact rfl); (case k2 => exact rfl); k_whole)))
local macro_rules | `(tactic| walk_at "exec For Name Attribute cons nil") => `(tactic| (k_here; (with_reducible show wpAny _ _ (exec (Stmt.For (Expr.Name _ _) _ _ [] _) _) _ _ _); (rename Fr _ _ _ _ => lF'); (with_unfolding_all refine' For_invVF lF' ?k1 ?k2 ?_; (case k1 => exact rfl); (case k2 => exact rfl); k_whole)))
local macro_rules | `(tactic| walk_at "newTuple") => `(tactic| (k_here; k_dflt (refine' kup_newTuple ?F ?N ?_ ?z; (case F => k_asm); (case N => k_asm); (case z => ((try simp only [sizeLine_eq, List.length_cons, List.length_nil]); omega))); intro D' h' F' N' l1; (try k_lt l1); (try k_sweep)))
local macro_rules | `(tactic| walk_at "call builtin:list.append") => `(tactic| (k_here; (with_reducible show wpAny _ _ (call (Value.builtin _) [Value.ref _, _]) _ _ _); k_dflt (refine' append_K ?k1 ?k2 ?k3 ?_ ?z; (case k1 => k_asm); (case k2 => k_asm); (case k3 => k_upd); (case z => ((try simp only [List.size_toArray, List.length_append, List.length_cons, List.length_nil, sizeLine_eq]); omega)); k_whole); intro h' F' N'; (try simp only [List.push_toArray] at N'); (try k_sweep)))
local macro_rules | `(tactic| walk_at "subscriptTail") => `(tactic| (k_here; (with_reducible show wpAny _ _ (subscriptTail _ _ (Value.ref _) (Value.int _ _)) _ _ _); k_dflt (refine' item_led ?N ?m ?a ?b ?x ?_; (case N => k_asm); (case m => k_mem); (case a => first | decide | omega); (case b => first | decide | omega); (case x => first | rfl | assumption); k_whole)))
local macro_rules | `(tactic| walk_at "call builtin:len") => `(tactic| (k_here; (with_reducible show wpAny _ _ (call (Value.builtin "len") [Value.ref _]) _ _ _); k_dflt (refine' len_led ?N ?m ?e ?f ?_; (case N => k_asm); (case m => k_mem); (case e => first | exact len0 | exact len1 _ | exact len2 _ _ _ | assumption | exact rfl); (case f => first | omega | decide); k_whole)))
local macro_rules | `(tactic| walk_at "call type:tuple") => `(tactic| (k_here; (with_reducible show wpAny _ _ (call (Value.type _) [Value.ref _]) _ _ _); k_dflt (refine' kde_tupleOf ?k1 ?k2 ?k3 ?k4 ?k5 ?_; (case k1 => k_asm); (case k2 => k_asm); (case k3 => exact News.isList (by k_asm) (by k_mem)); (case k4 => (simp only [sizeLine_eq, List.length_cons, List.size_toArray]; omega)); (case k5 => rfl); k_whole); intro D' h' F' N' l1; (try k_lt l1); (try k_sweep)))
section
theorem offLaw12 : True := by
  w_top off
  trivial

local macro_rules | `(tactic| walk_at "compareOp Eq ref ref") => `(tactic| (k_here; (with_reducible show wpAny _ _ (compareOp CmpOp.Eq (Value.ref _) (Value.ref _)) _ _ _); refine Held.out ?_))

/-- the law's end, from a place on -/
def Tail (w : World) (sel : List Stmt → List Stmt) (K : LK) (S : LS) (ron : Nat) (l0 rest : Led) (nm : List (Str × Value)) : Prop :=
  ∀ {name qual : Str} {params : Arguments} {body : List Stmt} {scope : Scope} {dV kV doc pm cdv ct oc : Value} {an od : Option Addr} {osl : Array (Option Value)}
    (_ : (Mine.hd.heap_1 w.params).lookup 172 = some ⟨oc, od, .func (fnOf name qual params body scope dV kV doc pm an cdv ct), osl⟩)
    (dp un : Nat) (gd : Option (List Code)) (outer : List Env) (A₀ : Around) (base h₀ : Heap) (L f : Addr) (cd : Value) (m : Str → Option Value) (s : Shared)
    (mean : ExcName → Option Value) (mg mb : Str → Option Value) (Q : Flow → Shared → Prop) (E : Value → Shared → Prop),
    PySem.Challenge.rw_rh0065_01 = PySem.Challenge.rw_rh0065_01 →
    Below A₀ base outer h₀ → Fr h₀ L s.heap m → (Mine.hd.heap_1 w.params).In h₀ → News h₀ L s.heap (stLed K L S ++ ((K.ro, listOf #[] ron) :: rest)) → Nod (stLed K L S ++ ((K.ro, listOf #[] ron) :: rest)) → (∀ p ∈ l0, p ∈ rest) → LW L K l0 → SOK w K l0 S →
    Top Mine.V (looseW Mine.V []) mean mg mb h₀ → dp + 80 < recursionLimit → un + 2500 < cLine → (∀ p ∈ nm, m p.1 = some p.2) →
    (∀ m' h' tk', Fr h₀ L h' m' → Q (.ret (.bool true)) { s with heap := h', toks := tk' }) →
    wpAny (model PySem.Challenge.rw_rh0065_01.row.prog w) (around dp un gd (envOfC qual scope L f cd) outer) (execs (sel body) (envOfC qual scope L f cd)) Q E s

theorem law12 (w : World) (K : LK) (S : LS) (ron : Nat) (l0 rest : Led) (pd : Addr) (po : Obj) (kvs : List (Int × Value)) (hcod : ∀ c ∈ K.cs, CodOk c) (hfew : S.es.length < 300)
    (hpd : (pd, po) ∈ l0) (hps : (pd == sysModules) = false) (hpo : po.IsDictOf (PySem.intKind PR w) kvs) (hkv : DoneAre l0 kvs (coB K.cs K.cs.length ++ chB K.ar S.es)) :
    Tail w (fun b => b.drop 12) K S ron l0 rest [(Str.ofString "builder", .ref K.ba), (Str.ofString "parts", .ref pd)] := by
  obtain ⟨fa, ka, co, ba, bd, ro, ch, kn, fo, kv, cdv, kc, cdn, cs, oF, oK, x, ar, ta⟩ := K
  obtain ⟨us, c, nl, tn, cv, cc, okn, ofo, oS, oP, oW, es⟩ := S
  unfold Tail
  intro name qual params body scope dV kV doc pm cdv9 ct oc an od osl ho
  refine fn_use ho (by exact rfl) ?_
  clear ho
  intro ho
  k_fill
  intro dp un gd outer A₀ base h₀ L f cd m s mean mg mb Q E _ B F X N hnod hl0 W O T hd hu hnm hret
  refine LW.use W ?_
  intro oFm oFd oKm oKd kam hkeys com cods inst m1 m4 knl fol
  refine SOK.use O ?_
  intro hfig hbs htd hgood xS cS xP cP xW cW
  try dsimp only at *
  replace com := hl0 _ com
  replace inst := hl0 _ inst
  have hpd' := hl0 _ hpd
  have hn1 := hnm _ List.mem_cons_self
  have hn2 := hnm _ (List.mem_cons_of_mem _ List.mem_cons_self)
  dsimp only at hn1 hn2
  replace F := fr_named F hnm
  try dsimp only [withN] at F
  conv => enter [3, 1]; whnf
  dsimp only [stLed, List.cons_append, List.nil_append, bDict] at N hnod
  have hnA := nodA.mp hnod
  ((first | refine peelA hnA (by with_reducible ((repeat (first | exact it_nil | (apply it_na) | (apply it_ca) | (apply it_aa) | (apply it_cons) | (apply it_app))); (try exact it_last))) ?_ | refine peelN hnA (by with_reducible ((repeat (first | exact it_nil | (apply it_na) | (apply it_ca) | (apply it_aa) | (apply it_cons) | (apply it_app))); (try exact it_last))) ?_ | refine peelR hnA (by with_reducible ((repeat (first | exact it_nil | (apply it_na) | (apply it_ca) | (apply it_aa) | (apply it_cons) | (apply it_app))); (try exact it_last))) ?_); (repeat (intro hq9)); refine Past.mk ?_)
  try k_fold
  k_steps
  try dsimp only [List.nil_append, List.cons_append, List.append_nil]
  try k_fold
  k_dflt (refine' Does.use1 (finish_does w ba bd co ro ch kn x ar ta nl tn cv cc es cdv cdn cs ron _ ?h1 ?h2 ?h3 (hbs.chains.mono ?h4) hgood ?h5 ?h6 (cods.mono ?h4) m4 ?h7) ?P1 ?uB ?uF ?uX ?uN ?un ?uT ?uk ?uL ?ud ?uu ?_; (case uN => k_asm); (case P1 => allgen_close2_more); (case uB => k_asm); (case uF => k_asm); (case uX => k_asm); (case un => first | assumption | kat_tups); (case uT => k_asm); (case uk => rfl); (case uL => rfl); (case ud => ktr_room); (case uu => tlg_ne); (case h1 => k_mem); (case h2 => k_mem); (case h3 => k_mem); (case h4 => intro p9 hp9; replace hp9 := hl0 _ hp9; k_mem); (case h5 => omega); (case h6 => k_mem); (case h7 => exact fun c hc => (hcod c hc).1)); intro r' chg' add' h' tk' F' N' nod' young' post'
  refine with_goal fun X79 hX79 => ?_
  refine ex_2 (post') ?_
  (try clear post')
  intro vs n q9o
  refine an_3 q9o ?_
  clear q9o
  intro r9q
  subst r9q
  intro r9q
  subst r9q
  intro hD
  refine hX79 ?_
  simp only [List.cons_append, List.nil_append] at N' nod'
  have hvl : vs.length ≤ 4000 := by
    rw [hD.length, List.length_append]
    have := rows1_len (ar := ar) hgood
    have := rows2_len (cs := cs) (fun c hc => (hcod c hc).1) cs.length
    omega
  have hpl : (chB ar es ++ coB cs cs.length).length = es.length + cs.length := by simp [chB, coB]
  k_steps
  try dsimp only [List.nil_append, List.cons_append, List.append_nil]
  try k_fold
  k_dflt (refine' Does.use0 (parts_does w ro vs n (chB ar es ++ coB cs cs.length) _ ?g1 ?g2 (fun b hb d hd => (blocks_ok hcod b hb d hd).2) (nodup_blocks hbs.labels) (pos_blocks hbs.labels) hvl ?g3) ?uB ?uF ?uX ?uN ?un ?uT ?uk ?uL ?ud ?uu ?_; (case uN => k_asm); (case uB => k_asm); (case uF => k_asm); (case uX => k_asm); (case un => first | assumption | kat_tups); (case uT => k_asm); (case uk => rfl); (case uL => rfl); (case ud => ktr_room); (case uu => tlg_ne); (case g1 => k_mem); (case g2 => rw [flat_app, flat_ch, flat_co]; exact hD.mono (by (first | exact fun p hp => hp | ((repeat' (first | refine fa_app ?_ ?_ | refine fa_cons ?_ ?_ | refine List.forall_mem_append.mpr ⟨?_, ?_⟩ | refine List.forall_mem_cons.mpr ⟨?_, ?_⟩)) <;> (first | exact List.forall_mem_nil _ | (intro p9 hp9; kp_flats) | kp_flats))))); (case g3 => omega)); intro r' chg' add' h' tk' F' N' nod' young' post'
  refine with_goal fun X79 hX79 => ?_
  refine ex_3 (post') ?_
  (try clear post')
  intro P o kvs2 q9o
  refine an_6 q9o ?_
  clear q9o
  intro r9q
  subst r9q
  intro r9q
  subst r9q
  intro hP
  intro hPs
  intro hdo
  intro hdone
  refine hX79 ?_
  simp only [List.cons_append, List.nil_append] at N' nod'
  k_steps
  rename News h₀ L _ _ => kN
  rename Fr h₀ L _ _ => kF
  refine ⟨?_⟩
  refine' keq_pairs (r := true) kN (List.mem_append_left _ hP) ?m2 hdo hpo hPs hps ?ln ?u (hits_of kN hdone ?s1 hkv ?s2 (nodup_blocks2 hbs.labels) ?sb (blocks_kqd hcod) ?u2) ?_
  case m2 => k_mem
  case ln =>
    rw [hdone.length, hkv.length]
    simp [Nat.add_comm]
  case u => tlg_ne
  case u2 => tlg_ne
  case s1 => exact fun p hp => hp
  case s2 => exact fun p hp => (by replace hp := hl0 _ hp; k_mem)
  case sb =>
    intro b hb
    rcases List.mem_append.mp hb with hb | hb
    · exact List.mem_append_right _ hb
    · exact List.mem_append_left _ hb
  k_steps
  exact hret _ _ _ kF

end
section
theorem offLaw11 : True := by
  w_top off
  trivial

local macro_rules | `(tactic| walk_at "pyIter ref") => `(tactic| (k_here; (with_reducible show wpAny _ _ (pyIter (Value.ref _)) _ _ _); refine Held.out ?_))
local macro_rules | `(tactic| walk_at "binaryOp Add ref ref") => `(tactic| (k_here; (with_reducible show wpAny _ _ (binaryOp _ (Value.ref _) (Value.ref _)) _ _ _); k_dflt (refine' add_led ?F ?N ?a ?b ?z ?_; (case F => k_asm); (case N => k_asm); (case a => k_mem); (case b => k_mem); (case z => ((try simp only [List.length_append, List.length_cons, List.length_nil]); omega)); k_whole); intro D' h' F' N' l1; (try dsimp only); (try k_lt l1); (try k_sweep)))
local macro_rules | `(tactic| walk_at "setItem ref int") => `(tactic| (k_here; (with_reducible show wpAny _ _ (setItem (Value.ref _) (Value.int _ _) _) _ _ _); refine Held.out ?_))
local macro_rules | `(tactic| walk_at "execs cons") => `(tactic| (k_here; (with_reducible show wpAny _ _ (execs (Stmt.Return _ _ :: _) _) _ _ _); refine Held.out ?_))
local macro_rules | `(tactic| walk_at "SrcTup") => `(tactic| (k_here; refine Held.out ?_))
local macro_rules | `(tactic| walk_at "eval ListComp") => `(tactic| (k_here; refine Held.out ?_))
local macro_rules | `(tactic| walk_at "subscriptTail Name Slice ref ref") => `(tactic| (k_here; (with_reducible show wpAny _ _ (subscriptTail _ (PySem.Expr.Slice _ _ none _) (Value.ref _) (Value.ref _)) _ _ _); k_dflt (refine' slice_mid ?F ?N ?l ?q ?z ?_ ?s ?t; (case F => k_asm); (case N => k_asm); (case l => k_mem); (case q => assumption); (case z => (rw [sizeLine_eq]; omega)); (case s => with_unfolding_all rfl); (case t => (intro _; with_unfolding_all rfl))); intro D' h' F' N' l1; (try dsimp only); (try k_lt l1); (try k_sweep)))
local macro_rules | `(tactic| walk_at "subscriptTail") => `(tactic| (k_here; (with_reducible show wpAny _ _ (subscriptTail _ _ (Value.ref _) (Value.int _ _)) _ _ _); k_dflt (first
  | (refine' item_tup ?N ?m ?a ?b ?x ?_; (case N => k_asm); (case m => k_mem); (case a => first | decide | omega); (case b => first | decide | omega); (case x => assumption); k_whole)
  | (refine' last_tup ?N ?m ?x ?_; (case N => k_asm); (case m => k_mem); (case x => assumption); k_whole))))
local macro_rules | `(tactic| walk_at "exec For Name Name cons nil") => `(tactic| (k_here; (with_reducible show wpAny _ _ (exec (Stmt.For (Expr.Name _ _) _ _ [] _) _) _ _ _); (rename Fr _ _ _ _ => lF'); (with_unfolding_all refine' For_invVF lF' ?k1 ?k2 ?_; (case k1 => exact rfl); (case k2 => exact rfl); k_whole)))

theorem ints_last {vs : List Value} {ks : List Int} (h : Ints vs ks) (hne : 1 ≤ ks.length) : ∃ d t, ks.getLast? = some d ∧ vs.getLast? = some (.int d t) := by
  have hl := h.length
  have hv : vs[vs.length - 1]? = some (vs[vs.length - 1]'(by omega)) := List.getElem?_eq_getElem (by omega)
  refine ex_2 (h.get hv) ?_
  intro d t q9o
  refine an_2 q9o ?_
  clear q9o
  intro hd e
  refine ⟨d, t, ?_, ?_⟩
  · rw [List.getLast?_eq_getElem?, ← hl]; exact hd
  · rw [List.getLast?_eq_getElem?, hv, e]
theorem ints_mid {vs : List Value} {ks : List Int} (h : Ints vs ks) : Ints (midOf vs) (midOf ks) := by
  unfold midOf
  rw [h.length]
  have : Ints (vs.drop 1) (ks.drop 1) := by
    obtain ⟨h⟩ := h
    cases h with
    | nil => exact ⟨.nil⟩
    | cons k t h => exact ⟨h⟩
  exact this.take _

theorem law11 (w : World) (K : LK) (S : LS) (ron : Nat) (l0 rest : Led) (t4 : Tok) (pd : Addr) (po : Obj) (kvs : List (Int × Value)) (hcod : ∀ c ∈ K.cs, CodOk c) (hfew : S.es.length < 300) (hl1 : ∀ p ∈ l0, p ∈ rest)
    (hps : (pd == sysModules) = false) (hpo : po.IsDictOf (PySem.intKind PR w) kvs) (hkv : DoneAre l0 kvs (coB K.cs K.cs.length)) :
    Tail w (fun b => b.drop 11) K S ron l0 ((pd, po) :: rest) [(Str.ofString "builder", .ref K.ba), (Str.ofString "found", .ref K.fo), (Str.ofString "wide", .int K.ar t4), (Str.ofString "parts", .ref pd)] := by
  obtain ⟨fa, ka, co, ba, bd, ro, ch, kn, fo, kv, cdv, kc, cdn, cs, oF, oK, x, ar, ta⟩ := K
  obtain ⟨us, c, nl, tn, cv, cc, okn, ofo, oS, oP, oW, es⟩ := S
  unfold Tail
  intro name qual params body scope dV kV doc pm cdv9 ct oc an od osl ho
  refine fn_use ho (by exact rfl) ?_
  clear ho
  intro ho
  k_fill
  intro dp un gd outer A₀ base h₀ L f cd m s mean mg mb Q E _ B F X N hnod hl0 W O T hd hu hnm hret
  have W0 := W
  have O0 := O
  refine LW.use W ?_
  intro oFm oFd oKm oKd kam hkeys com cods inst m1 m4 knl fol
  refine SOK.use O ?_
  intro hfig hbs htd hgood xS cS xP cP xW cW
  try dsimp only at *
  have hn1 := hnm _ List.mem_cons_self
  have hn2 := hnm _ (List.mem_cons_of_mem _ List.mem_cons_self)
  have hn3 := hnm _ (List.mem_cons_of_mem _ (List.mem_cons_of_mem _ List.mem_cons_self))
  have hn4 := hnm _ (List.mem_cons_of_mem _ (List.mem_cons_of_mem _ (List.mem_cons_of_mem _ List.mem_cons_self)))
  dsimp only at hn1 hn2 hn3 hn4
  replace F := fr_named F hnm
  try dsimp only [withN] at F
  conv => enter [3, 1]; whnf
  dsimp only [stLed, List.cons_append, List.nil_append] at N hnod
  try k_fold
  refine wpAny_noRaise ?_
  k_steps
  refine ⟨?_⟩
  have N2 : News h₀ L s.heap ((pd, po) :: (fa, listOf us.toArray c) :: (bd, bDict x ar ta co ro ch kn nl tn) :: (ch, listOf cv.toArray cc) :: (kn, okn) :: (fo, ofo) :: (L + 1 + 1 + 1, oS) :: (L + 1 + 1 + 1 + 1, oP) :: (L + 1 + 1 + 1 + 1 + 1, oW) :: (ro, listOf #[] ron) :: ([] ++ rest)) := kst_newsOf N (by (first | exact fun p hp => hp | ((repeat' (first | refine fa_app ?_ ?_ | refine fa_cons ?_ ?_ | refine List.forall_mem_append.mpr ⟨?_, ?_⟩ | refine List.forall_mem_cons.mpr ⟨?_, ?_⟩)) <;> (first | exact List.forall_mem_nil _ | (intro p9 hp9; kp_flats) | kp_flats))))
  apply loop_TD (σ := Obj × List (Int × Value) × Led) (fun _ => []) []
    (fun i c9 nx => nx = (pd, c9.1) :: (fa, listOf us.toArray c) :: (bd, bDict x ar ta co ro ch kn nl tn) :: (ch, listOf cv.toArray cc) :: (kn, okn) :: (fo, ofo) :: (L + 1 + 1 + 1, oS) :: (L + 1 + 1 + 1 + 1, oP) :: (L + 1 + 1 + 1 + 1 + 1, oW) :: (ro, listOf #[] ron) :: (c9.2.2 ++ rest) ∧
      c9.1.IsDictOf (PySem.intKind PR w) c9.2.1 ∧ DoneAre (c9.2.2 ++ l0) c9.2.1 (coB cs cs.length ++ chB ar (es.take i)))
    (po, kvs, [])
  case hh => rfl
  case T => exact htd
  case hd => exact fol
  case F => k_asm
  case N => exact N2
  case hl => k_mem
  case hj => exact ⟨rfl, hpo, by simpa [chB] using hkv⟩
  case hn => (first | assumption | (refine nod_of_count (by assumption) (fun a9 => ?_); (try simp only [List.cons_append, List.nil_append, List.map_append, List.map_cons, List.map_nil, List.count_append, List.count_cons, List.count_nil]); omega))
  case hk => exact fun p hp => absurd hp List.not_mem_nil
  case turn =>
    rintro i a ok e ⟨o9, kvs9, add9⟩ nx u h tk I oI hi he hm hk hJ79 hl hn F2 N2
    refine turn_cps ?_
    intro q79 hq79 hb79 hr79
    refine an_3 (hJ79) ?_
    (try clear hJ79)
    intro r9q
    subst r9q
    intro hd9
    intro hk9
    dsimp only at hd9 hk9 hn F2 N2
    refine with_goal fun X79 hX79 => ?_
    refine ex_2 (hk) ?_
    (try clear hk)
    intro dv dn q9o
    refine an_2 q9o ?_
    clear q9o
    intro r9q
    subst r9q
    intro hints
    refine hX79 ?_
    have hdi : Ints dv e.1 := ⟨hints⟩
    refine an_2 (hgood e (List.mem_of_getElem? he)) ?_
    intro g2 g8
    have hdl := hdi.length
    have hdv2 : 2 ≤ dv.length := by omega
    refine ex_2 (ints_last hdi (by omega)) ?_
    intro d1 td1 q9o
    refine an_2 q9o ?_
    clear q9o
    intro hl1' hv1
    have hv0' : dv[0]? = some (dv[0]'(by omega)) := List.getElem?_eq_getElem (by omega)
    refine ex_2 (hdi.get hv0') ?_
    intro d0 td0 q9o
    refine an_2 q9o ?_
    clear q9o
    intro hl0' hv0e
    have hv0 : dv[(0 : Int).toNat]? = some (.int d0 td0) := by rw [← hv0e]; exact hv0'
    clear hints
    have hnI := nodA.mp hn
    ((first | refine peelA hnI (by with_reducible ((repeat (first | exact it_nil | (apply it_na) | (apply it_ca) | (apply it_aa) | (apply it_cons) | (apply it_app))); (try exact it_last))) ?_ | refine peelN hnI (by with_reducible ((repeat (first | exact it_nil | (apply it_na) | (apply it_ca) | (apply it_aa) | (apply it_cons) | (apply it_app))); (try exact it_last))) ?_ | refine peelR hnI (by with_reducible ((repeat (first | exact it_nil | (apply it_na) | (apply it_ca) | (apply it_aa) | (apply it_cons) | (apply it_app))); (try exact it_last))) ?_); (repeat (intro hq9)); refine Past.mk ?_)
    dsimp only [kstB] at F2
    try k_fold
    k_steps
    refine ⟨?_⟩
    k_dflt (refine compU_tuple2 (F₀ := by k_asm) (by with_unfolding_all rfl) (by decide) (by rfl) (by decide) (by rfl) ?_)
    k_steps
    rename News _ _ _ _ => kN0
    rename Fr _ _ _ _ => kF
    rename_i T1 _ _ _ _ _ _ _ _ _ _ _ _ _ _ _ L1 _ _ _ _ _ _ _ _ _ _ _ _ _ _ _ _ MT _ _ _ _ _ _ _ _ _ _ _ _ _ _ _ _ _
    refine led_three kN0 ?_
    intro o3 hT3 kN1
    clear kN0
    refine led_gen kN1 (by kat_tups) ?_
    intro led eled kN nd
    refine ⟨?_⟩
    refine' ⟨_, midOf dv, 0, led, rfl, rfl, kF, kN, nd, ?mm, ?ll, fun i ys nx => ∃ A, nx = A ++ led ∧ DatAll A ys (((midOf e.1).take i).map retryD), ⟨[], rfl, .nil⟩, ?turn, ?fin⟩
    case mm => rw [eled]; k_mem
    case ll => (have : (midOf dv).length ≤ dv.length := by (unfold midOf; rw [List.length_take, List.length_drop]; omega)); omega
    case turn =>
      rintro i v ys nx I2 oI2 C oC D2 m₂ h2 tk2 E' hi2 hv2 ⟨A, rfl, hJ⟩ hmm hC hx F₁ N₁ hn₁
      refine with_goal fun X79 hX79 => ?_
      refine ex_2 ((ints_mid hdi).get hv2) ?_
      intro q tq q9o
      refine an_2 q9o ?_
      clear q9o
      intro hq
      intro r9q
      subst r9q
      refine hX79 ?_
      clear kN1 hn N2 hnI
      have hnC := nodA.mp hn₁
      ((first | refine peelA hnC (by with_reducible ((repeat (first | exact it_nil | (apply it_na) | (apply it_ca) | (apply it_aa) | (apply it_cons) | (apply it_app))); (try exact it_last))) ?_ | refine peelN hnC (by with_reducible ((repeat (first | exact it_nil | (apply it_na) | (apply it_ca) | (apply it_aa) | (apply it_cons) | (apply it_app))); (try exact it_last))) ?_ | refine peelR hnC (by with_reducible ((repeat (first | exact it_nil | (apply it_na) | (apply it_ca) | (apply it_aa) | (apply it_cons) | (apply it_app))); (try exact it_last))) ?_); (repeat (intro hq9)); refine Past.mk ?_)
      k_steps
      rename News _ _ _ _ => kN8
      rename Fr _ _ _ _ => kF8
      refine led_one kN8 ?_
      intro T8 e8 kN9
      subst e8
      refine' CEnd.intro ((T8, ?o8) :: (A ++ led)) _ kF8 kN9 ?sub ?hn ⟨List.mem_cons_of_mem _ hmm, (T8, ?o8) :: A, rfl, ?da⟩
      case sub => (first | exact fun p hp => hp | ((repeat' (first | refine fa_app ?_ ?_ | refine fa_cons ?_ ?_ | refine List.forall_mem_append.mpr ⟨?_, ?_⟩ | refine List.forall_mem_cons.mpr ⟨?_, ?_⟩)) <;> (first | exact List.forall_mem_nil _ | (intro p9 hp9; kp_flats) | kp_flats)))
      case hn => kat_tups
      case da =>
        rw [List.take_add_one, hq, List.map_append]
        exact (hJ.mono fun p hp => List.mem_cons_of_mem _ hp).append (.cons (.tuple (vs := [_, _]) List.mem_cons_self (.cons (.str _ _) (.cons (.int _ _) .nil))) .nil)
    case fin =>
      rintro ys nx D2 h2 tk2 ⟨A, rfl, hJ⟩ hmm F₁ N₁ hn₁
      dsimp only
      rw [List.take_of_length_le (Nat.le_of_eq (ints_mid hdi).length.symm)] at hJ
      clear kN1 hn N2 hnI nd kN
      have hyl : ys.length ≤ 8 := by
        rw [hJ.length, List.length_map]
        unfold midOf
        rw [List.length_take, List.length_drop]
        omega
      subst eled
      have N3 : News h₀ L h2 ((D2, listOf ys.toArray ys.length) :: (L1, listOf [.ref T1].toArray 0) :: (I, oI) :: (pd, o9) :: (fa, listOf us.toArray c) :: (bd, bDict x ar ta co ro ch kn nl tn) :: (ch, listOf cv.toArray cc) :: (kn, okn) :: (fo, ofo) :: (L + 1 + 1 + 1, oS) :: (L + 1 + 1 + 1 + 1, oP) :: (L + 1 + 1 + 1 + 1 + 1, oW) :: (ro, listOf #[] ron) :: ((A ++ ((MT, tupOf (midOf dv) 0) :: (T1, o3) :: add9)) ++ rest)) := by
        refine kst_newsOf N₁ ?_
        (first | exact fun p hp => hp | ((repeat' (first | refine fa_app ?_ ?_ | refine fa_cons ?_ ?_ | refine List.forall_mem_append.mpr ⟨?_, ?_⟩ | refine List.forall_mem_cons.mpr ⟨?_, ?_⟩)) <;> (first | exact List.forall_mem_nil _ | (intro p9 hp9; kp_flats) | kp_flats)))
      have nod3 : Nod ((D2, listOf ys.toArray ys.length) :: (L1, listOf [.ref T1].toArray 0) :: (I, oI) :: (pd, o9) :: (fa, listOf us.toArray c) :: (bd, bDict x ar ta co ro ch kn nl tn) :: (ch, listOf cv.toArray cc) :: (kn, okn) :: (fo, ofo) :: (L + 1 + 1 + 1, oS) :: (L + 1 + 1 + 1 + 1, oP) :: (L + 1 + 1 + 1 + 1 + 1, oW) :: (ro, listOf #[] ron) :: ((A ++ ((MT, tupOf (midOf dv) 0) :: (T1, o3) :: add9)) ++ rest)) := by (first | assumption | (refine nod_of_count (by assumption) (fun a9 => ?_); (try simp only [List.cons_append, List.nil_append, List.map_append, List.map_cons, List.map_nil, List.count_append, List.count_cons, List.count_nil]); omega))
      clear N₁ hn₁
      have hA8 : ∀ p ∈ A, p ∈ A ++ ((MT, tupOf (midOf dv) 0) :: (T1, o3) :: add9) := fun p hp => List.mem_append_left _ hp
      have hT8 : (T1, o3) ∈ A ++ ((MT, tupOf (midOf dv) 0) :: (T1, o3) :: add9) := List.mem_append_right _ (List.mem_cons_of_mem _ List.mem_cons_self)
      have h98 : ∀ p ∈ add9, p ∈ A ++ ((MT, tupOf (midOf dv) 0) :: (T1, o3) :: add9) := fun p hp => List.mem_append_right _ (List.mem_cons_of_mem _ (List.mem_cons_of_mem _ hp))
      generalize A ++ ((MT, tupOf (midOf dv) 0) :: (T1, o3) :: add9) = add8 at N3 nod3 hA8 hT8 h98
      have hnD := nodA.mp nod3
      ((first | refine peelA hnD (by with_reducible ((repeat (first | exact it_nil | (apply it_na) | (apply it_ca) | (apply it_aa) | (apply it_cons) | (apply it_app))); (try exact it_last))) ?_ | refine peelN hnD (by with_reducible ((repeat (first | exact it_nil | (apply it_na) | (apply it_ca) | (apply it_aa) | (apply it_cons) | (apply it_app))); (try exact it_last))) ?_ | refine peelR hnD (by with_reducible ((repeat (first | exact it_nil | (apply it_na) | (apply it_ca) | (apply it_aa) | (apply it_cons) | (apply it_app))); (try exact it_last))) ?_); (repeat (intro hq9)); refine Past.mk ?_)
      k_steps
      rename News _ _ _ _ => kN4
      rename_i T2 _ _ _ _ _ _ _ _ _ _ _ _ _ _ _ _ _ _ _ _ _ _ _ _ _ _ _ _ _ _ _ _ _ _ _ _ _ _ R _ _ _ _ _ _ _ _ _ _ _ _ _ _ _ _ _ _ _ _ _
      refine led_last (zs := [.ref T1] ++ ys) kN4 ?_
      intro o2 hT2 kN5
      clear kN4
      refine' get_TD ?u kN5 htd ?m ?s ?ma ⟨dv, dn, rfl, hdi.is⟩ (htd.find he) ?_
      case u => tlg_ne
      case m => k_mem
      case s => exact fun p hp => (by replace hp := hl1 _ hp; k_mem)
      case ma => (have hm' := hl1 _ hm); k_mem
      intro t9 tk9
      dsimp only
      k_steps
      refine ⟨?_⟩
      have N6 := pick_news kN5
      have nod6 := pick_nod (T2 := (T2, o2)) (R := (R, listOf (([Value.ref T1] ++ ys) ++ [Value.ref T2]).toArray 0)) nod3 (by (first | ((repeat (first | with_reducible assumption | exact al_nil | (with_reducible refine al_cons (by with_reducible assumption) ?_) | (with_reducible refine al_app (by with_reducible assumption) ?_))); (first | done | fail "open")) | ((try simp only [AllLt, allLt_append, and_true]); (repeat' apply And.intro) <;> assumption))) (by (first | ((repeat (first | with_reducible assumption | exact al_nil | (with_reducible refine al_cons (by with_reducible assumption) ?_) | (with_reducible refine al_app (by with_reducible assumption) ?_))); (first | done | fail "open")) | ((try simp only [AllLt, allLt_append, and_true]); (repeat' apply And.intro) <;> assumption)))
      clear hnD nod3
      k_dflt (refine' kda_set (knd := PySem.intKind _ _) ?F N6 (UpdF.head nod6.cons.1) hd9 (intKind_is _ _ _ _) ?z ?_; (case F => k_asm); (case z => (rw [sizeLine_eq]; (have hkl := hk9.length); (simp only [List.length_append, coB, chB, List.length_map, List.length_range, List.length_take] at hkl); omega)))
      intro h8 o8 F8 N8 D8
      try dsimp only at N8
      have hkeys9 : kvs9.map (·.1) = (coB cs cs.length ++ chB ar (es.take i)).map (·.1) := hk9.keys
      rw [stored_new (by rw [hkeys9]; exact new_key hbs.labels he)] at D8
      k_steps
      skip
      refine' (hq79 (o8, kvs9 ++ [(e.2, .ref R)], (R, _) :: (T2, o2) :: add8) _ _ _ _ F8 (fun p hp => absurd hp List.not_mem_nil) (by intro z z1 z2 z3; first | ((repeat (first | with_reducible rfl | with_reducible assumption | refine kp_st (by with_reducible assumption) ?_ | refine kp_set (by first | with_reducible exact z1 | with_reducible exact z2 _ List.mem_cons_self | with_reducible exact z2 _ (List.mem_cons_of_mem _ List.mem_cons_self) | with_reducible exact z2 _ (List.mem_cons_of_mem _ (List.mem_cons_of_mem _ List.mem_cons_self)) | exact kp_con z3 (by ((repeat (with_reducible_and_instances first | exact List.Mem.head _ | refine List.Mem.tail _ ?_)); (first | done | fail "open")))) ?_ | refine kp_same (by assumption) ?_ | exact rfl)); done) | ((try dsimp only [kstB]); simp only [if_neg z1, z3, List.contains_nil, Bool.false_eq_true, if_false])) (swap_news N8) (swap_nod nod6 rfl) ?hs ⟨rfl, D8, ?dn⟩).1
      case hs => exact fun q hq => (by rw [List.mem_singleton.mp hq]; k_mem)
      case dn =>
        rw [ch_succ he, ← List.append_assoc]
        refine All2.append (hk9.mono ?_) (.one ⟨rfl, ?_⟩)
        · intro p hp
          rcases List.mem_append.mp hp with hp | hp
          · exact List.mem_append_left _ (List.mem_cons_of_mem _ (List.mem_cons_of_mem _ (h98 p hp)))
          · exact List.mem_append_right _ hp
        · rw [rowsOf_mid hl0' hl1']
          refine .list List.mem_cons_self (DatAll.append (DatAll.append (.cons (hT3.mono ?_) .nil) (hJ.mono ?_)) (.cons (hT2.mono ?_) .nil))
          · intro p hp
            rw [List.mem_singleton.mp hp]
            exact List.mem_append_left _ (List.mem_cons_of_mem _ (List.mem_cons_of_mem _ hT8))
          · exact fun p hp => List.mem_append_left _ (List.mem_cons_of_mem _ (List.mem_cons_of_mem _ (hA8 p hp)))
          · intro p hp
            rw [List.mem_singleton.mp hp]
            exact List.mem_append_left _ (List.mem_cons_of_mem _ List.mem_cons_self)
  case done =>
    rintro ⟨o9, kvs9, add9⟩ nx u h tk hJ79 hl hn F2 N2
    refine an_3 (hJ79) ?_
    (try clear hJ79)
    intro r9q
    subst r9q
    intro hd9
    intro hk9
    dsimp only at hd9 hk9 hn F2 N2
    rw [List.take_length] at hk9
    dsimp only [kstB] at F2
    k_steps
    rename Fr h₀ L _ _ => kF
    refine ⟨?_⟩
    refine' law12 w ⟨fa, ka, co, ba, bd, ro, ch, kn, fo, kv, cdv, kc, cdn, cs, oF, oK, x, ar, ta⟩ ⟨us, c, nl, tn, cv, cc, okn, ofo, oS, oP, oW, es⟩ ron ((pd, o9) :: (add9 ++ l0)) ((pd, o9) :: (add9 ++ rest)) pd o9 kvs9 hcod hfew List.mem_cons_self hps hd9 (hk9.mono fun p hp => List.mem_cons_of_mem _ hp)
      ho _ _ _ _ _ _ _ _ _ _ _ _ _ _ _ _ _ rfl B kF X ?hN ?hno ?sb (W0.mono ?sc) (O0.mono ?sc) (by k_asm) hd hu ?hnm ?hr
    case hN => exact kst_newsOf N2 (by (first | exact fun p hp => hp | ((repeat' (first | refine fa_app ?_ ?_ | refine fa_cons ?_ ?_ | refine List.forall_mem_append.mpr ⟨?_, ?_⟩ | refine List.forall_mem_cons.mpr ⟨?_, ?_⟩)) <;> (first | exact List.forall_mem_nil _ | (intro p9 hp9; kp_flats) | kp_flats))))
    case hno => exact hn.perm (by dsimp only [stLed, List.cons_append, List.nil_append]; exact (List.perm_middle (l₁ := [_, _, _, _, _, _, _, _, _])).symm)
    case sb =>
      refine cons_sub fun p hp => ?_
      rcases List.mem_append.mp hp with hp | hp
      · exact List.mem_append_left _ hp
      · exact List.mem_append_right _ (hl1 p hp)
    case sc => exact fun p hp => List.mem_cons_of_mem _ (List.mem_append_right _ hp)
    case hnm => first | ((repeat (first | exact fr_nil | refine fr_cons (by rfl) ?_)); done) | (intro p hp; ((repeat (rcases List.mem_cons.mp hp with rfl | hp; (· rfl))); exact absurd hp List.not_mem_nil))
    case hr => exact fun m' h' tk' F' => hret m' h' tk' F'

end
section
theorem offLaw9 : True := by
  w_top off
  trivial

local macro_rules | `(tactic| walk_at "pyIter ref") => `(tactic| (k_here; (with_reducible show wpAny _ _ (pyIter (Value.ref _)) _ _ _); refine Held.out ?_))
local macro_rules | `(tactic| walk_at "setItem ref int") => `(tactic| (k_here; (with_reducible show wpAny _ _ (setItem (Value.ref _) (Value.int _ _) _) _ _ _); refine Held.out ?_))
local macro_rules | `(tactic| walk_at "execs cons") => `(tactic| (k_here; (with_reducible show wpAny _ _ (execs (Stmt.For (Expr.Name _ _) (Expr.Name _ _) _ _ _ :: _) _) _ _ _); refine Held.out ?_))

theorem led_dict {h₀ h : Heap} {L a : Addr} {o : Obj} {r : Led} {w : World} {P : Prop} (N : News h₀ L h ((a, o) :: r)) (D : o.IsDictOf (PySem.intKind PR w) []) (hs : (a == sysModules) = false)
    (k : ∀ a' o', a' = a → o'.IsDictOf (PySem.intKind PR w) [] → (a' == sysModules) = false → News h₀ L h ((a', o') :: r) → P) : P := k a o rfl D hs N
theorem law9 (w : World) (K : LK) (S : LS) (ron : Nat) (l0 rest : Led) (t1 t4 : Tok) (hcod : ∀ c ∈ K.cs, CodOk c) (hfew : S.es.length < 300) :
    Tail w (fun b => b.drop 9) K S ron l0 rest [(Str.ofString "builder", .ref K.ba), (Str.ofString "found", .ref K.fo), (Str.ofString "wide", .int K.ar t4), (Str.ofString "many", .int K.cs.length t1), (Str.ofString "codes", .ref K.co)] := by
  obtain ⟨fa, ka, co, ba, bd, ro, ch, kn, fo, kv, cdv, kc, cdn, cs, oF, oK, x, ar, ta⟩ := K
  obtain ⟨us, c, nl, tn, cv, cc, okn, ofo, oS, oP, oW, es⟩ := S
  unfold Tail
  intro name qual params body scope dV kV doc pm cdv9 ct oc an od osl ho
  refine fn_use ho (by exact rfl) ?_
  clear ho
  intro ho
  k_fill
  intro dp un gd outer A₀ base h₀ L f cd m s mean mg mb Q E _ B F X N hnod hl0 W O T hd hu hnm hret
  have W0 := W
  have O0 := O
  refine LW.use W ?_
  intro oFm oFd oKm oKd kam hkeys com cods inst m1 m4 knl fol
  refine SOK.use O ?_
  intro hfig hbs htd hgood xS cS xP cP xW cW
  try dsimp only at *
  have hcl : Held (1 ≤ cs.length ∧ cs.length ≤ 4) := ⟨m1, m4⟩
  clear m1 m4
  have hn1 := hnm _ List.mem_cons_self
  have hn2 := hnm _ (List.mem_cons_of_mem _ List.mem_cons_self)
  have hn3 := hnm _ (List.mem_cons_of_mem _ (List.mem_cons_of_mem _ List.mem_cons_self))
  have hn4 := hnm _ (List.mem_cons_of_mem _ (List.mem_cons_of_mem _ (List.mem_cons_of_mem _ List.mem_cons_self)))
  have hn5 := hnm _ (List.mem_cons_of_mem _ (List.mem_cons_of_mem _ (List.mem_cons_of_mem _ (List.mem_cons_of_mem _ List.mem_cons_self))))
  dsimp only at hn1 hn2 hn3 hn4 hn5
  replace F := fr_named F hnm
  try dsimp only [withN] at F
  replace com := hl0 _ com
  conv => enter [3, 1]; whnf
  dsimp only [stLed, List.cons_append, List.nil_append] at N hnod
  have hnA := nodA.mp hnod
  ((first | refine peelA hnA (by with_reducible ((repeat (first | exact it_nil | (apply it_na) | (apply it_ca) | (apply it_aa) | (apply it_cons) | (apply it_app))); (try exact it_last))) ?_ | refine peelN hnA (by with_reducible ((repeat (first | exact it_nil | (apply it_na) | (apply it_ca) | (apply it_aa) | (apply it_cons) | (apply it_app))); (try exact it_last))) ?_ | refine peelR hnA (by with_reducible ((repeat (first | exact it_nil | (apply it_na) | (apply it_ca) | (apply it_aa) | (apply it_cons) | (apply it_app))); (try exact it_last))) ?_); (repeat (intro hq9)); refine Past.mk ?_)
  try k_fold
  refine wpAny_noRaise ?_
  k_steps
  refine ⟨?_⟩
  rename (_ == sysModules) = false => hlo
  rename Obj.IsDictOf (PySem.intKind _ _) _ [] => hdi
  rename IsRange _ _ _ _ _ _ _ _ => kR
  rename News h₀ L _ _ => kN0
  rename Fr h₀ L _ _ => kF
  refine led_dict kN0 hdi hlo ?_
  intro pd po e1 hpo hps kN
  subst e1
  clear kN0
  apply loop_range (n := cs.length) (σ := Obj × List (Int × Value)) (fun _ => []) []
    (fun i c9 nx => nx = (pd, c9.1) :: (fa, listOf us.toArray c) :: (bd, bDict x ar ta co ro ch kn nl tn) :: (ch, listOf cv.toArray cc) :: (kn, okn) :: (fo, ofo) :: (L + 1 + 1 + 1, oS) :: (L + 1 + 1 + 1 + 1, oP) :: (L + 1 + 1 + 1 + 1 + 1, oW) :: (ro, listOf #[] ron) :: rest ∧
      c9.1.IsDictOf (PySem.intKind PR w) c9.2 ∧ DoneAre l0 c9.2 (coB cs i))
    (po, [])
  case hh => rfl
  case hr => exact kR
  case hsmall => rcases (by have := hcl.out; omega : cs.length = 1 ∨ cs.length = 2 ∨ cs.length = 3 ∨ cs.length = 4) with h | h | h | h <;> (rw [h]; rfl)
  case hsz => exact rangeSize_nat _ _
  case F => exact kF
  case N => exact kN
  case hj => exact ⟨rfl, hpo, .nil⟩
  case hn => kat_tups
  case hk => exact fun p hp => absurd hp List.not_mem_nil
  case turn =>
    rintro i t ⟨o9, kvs9⟩ nx u h tk I oI hi hJ79 hn F2 N2
    refine turn_cps ?_
    intro q79 hq79 hb79 hr79
    refine an_3 (hJ79) ?_
    (try clear hJ79)
    intro r9q
    subst r9q
    intro hd9
    intro hk9
    dsimp only at hd9 hk9 hn F2 N2
    obtain ⟨cd, hcd⟩ : ∃ cd, cs[(0 + (i : Int)).toNat]? = some cd := ⟨cs[(0 + (i : Int)).toNat]'(by omega), List.getElem?_eq_getElem (by omega)⟩
    refine with_goal fun X79 hX79 => ?_
    refine ex_1 (cods.get hcd) ?_
    intro _ q9o
    refine an_2 q9o ?_
    clear q9o
    intro hv1 q9o
    refine ex_17 q9o ?_
    clear q9o
    intro xa xd kb ia h1 h2 h3 h4 t1 t2 t3 t4 fv uv iv n e q9o
    refine an_6 q9o ?_
    clear q9o
    intro r9q
    subst r9q
    intro hx1
    intro hx2
    intro hx3
    intro hx4
    intro hx5
    refine hX79 ?_
    have hx1' := hl0 _ hx1
    have hx2' := hl0 _ hx2
    have hio : insOf cs i = cd.ins := insOf_at hcd
    have hcl2 := hcl.out
    have hn0 := hn
    dsimp only [kstB] at F2
    try k_fold
    k_steps
    refine ⟨?_⟩
    rename News _ _ _ _ => kN2
    rename Fr _ _ _ _ => kF2
    k_dflt (refine' kda_set (knd := PySem.intKind _ _) kF2 (swap_news kN2) (UpdF.head (swap_nod hn0 rfl).cons.1) hd9 (intKind_is _ _ _ _) ?z ?_; (case z => (rw [sizeLine_eq]; (have hkl := hk9.length); (simp only [coB, List.length_map, List.length_range] at hkl); omega)))
    intro h8 o8 F8 N8 D8
    try dsimp only at N8
    have hkeys9 : kvs9.map (·.1) = (coB cs i).map (·.1) := hk9.keys
    rw [stored_new (by rw [hkeys9, co_keys]; intro hm; obtain ⟨j, hj, e⟩ := List.mem_map.mp hm; have := List.mem_range.mp hj; omega)] at D8
    k_steps
    skip
    refine' (hq79 (o8, _) _ _ _ _ F8 (fun p hp => absurd hp List.not_mem_nil) (by intro z z1 z2 z3; first | ((repeat (first | with_reducible rfl | with_reducible assumption | refine kp_st (by with_reducible assumption) ?_ | refine kp_set (by first | with_reducible exact z1 | with_reducible exact z2 _ List.mem_cons_self | with_reducible exact z2 _ (List.mem_cons_of_mem _ List.mem_cons_self) | with_reducible exact z2 _ (List.mem_cons_of_mem _ (List.mem_cons_of_mem _ List.mem_cons_self)) | exact kp_con z3 (by ((repeat (with_reducible_and_instances first | exact List.Mem.head _ | refine List.Mem.tail _ ?_)); (first | done | fail "open")))) ?_ | refine kp_same (by assumption) ?_ | exact rfl)); done) | ((try dsimp only [kstB]); simp only [if_neg z1, z3, List.contains_nil, Bool.false_eq_true, if_false])) (swap_news N8) hn0 (fun _ h => nomatch h) ⟨rfl, D8, ?dn⟩).1
    rw [co_succ]
    refine All2.append hk9 (.one ⟨by omega, ?_⟩)
    rw [hio]
    exact .list hx4 hx5
  case done =>
    rintro ⟨o9, kvs9⟩ nx u h tk hJ79 hn F2 N2
    refine an_3 (hJ79) ?_
    (try clear hJ79)
    intro r9q
    subst r9q
    intro hd9
    intro hk9
    dsimp only at hd9 hk9 hn F2 N2
    dsimp only [kstB] at F2
    k_steps
    rename Fr h₀ L _ _ => kF2
    refine ⟨?_⟩
    refine' law11 w ⟨fa, ka, co, ba, bd, ro, ch, kn, fo, kv, cdv, kc, cdn, cs, oF, oK, x, ar, ta⟩ ⟨us, c, nl, tn, cv, cc, okn, ofo, oS, oP, oW, es⟩ ron l0 rest t4 pd o9 kvs9 hcod hfew hl0 hps hd9 hk9
      ho _ _ _ _ _ _ _ _ _ _ _ _ _ _ _ _ _ rfl B kF2 X ?hN ?hno (fun p hp => List.mem_cons_of_mem _ (hl0 p hp)) W0 O0 (by k_asm) hd hu ?hnm ?hr
    case hN => exact kst_newsOf N2 (by (first | exact fun p hp => hp | ((repeat' (first | refine fa_app ?_ ?_ | refine fa_cons ?_ ?_ | refine List.forall_mem_append.mpr ⟨?_, ?_⟩ | refine List.forall_mem_cons.mpr ⟨?_, ?_⟩)) <;> (first | exact List.forall_mem_nil _ | (intro p9 hp9; kp_flats) | kp_flats))))
    case hno => exact hn.perm (by dsimp only [stLed, List.cons_append, List.nil_append]; exact (List.perm_middle (l₁ := [_, _, _, _, _, _, _, _, _])).symm)
    case hnm => first | ((repeat (first | exact fr_nil | refine fr_cons (by rfl) ?_)); done) | (intro p hp; ((repeat (rcases List.mem_cons.mp hp with rfl | hp; (· rfl))); exact absurd hp List.not_mem_nil))
    case hr => exact fun m' h' tk' F' => hret m' h' tk' F'

end
section
theorem offLaw8 : True := by
  w_top off
  trivial

local macro_rules | `(tactic| walk_at "pyIter ref") => `(tactic| (k_here; (with_reducible show wpAny _ _ (pyIter (Value.ref _)) _ _ _); refine Held.out ?_))
local macro_rules | `(tactic| walk_at "call ref") => `(tactic| (k_here; (with_reducible show wpAny _ _ (call (Value.ref 141) [Value.ref _, Value.int _ _]) _ _ _); (try k_fold); k_dflt (refine' draw_use ?hf ?ha ?hb ?P1 ?uB ?uF ?uX ?uN ?un ?uT ?uk ?uL ?ud ?uu ?_; (case uN => k_asm); (case P1 => allgen_close2_more); (case hf => assumption); (case ha => first | decide | omega); (case hb => first | decide | omega); (case uB => k_asm); (case uF => k_asm); (case uX => k_asm); (case un => first | assumption | kat_tups); (case uT => k_asm); (case uk => rfl); (case uL => rfl); (case ud => ktr_room); (case uu => tlg_ne)); intro k' t' us' c' h' tk' h0' h1' hf' F' N' nod'; (try simp only [List.cons_append, List.nil_append] at N' nod'); (have hb9 := Held.mk (And.intro h0' h1')); clear h0' h1'))
local macro_rules | `(tactic| walk_at "execs cons") => `(tactic| (k_here; (with_reducible show wpAny _ _ (execs (Stmt.Assign [Expr.Name _ _] (Expr.Dict [] []  _) _ :: _) _) _ _ _); refine Held.out ?_))
local macro_rules | `(tactic| walk_at "execs cons Assign cons") => `(tactic| (k_here; (with_reducible show wpAny _ _ (execs (Stmt.Assign [Expr.Name _ _] (Expr.Dict _ _ _) _ :: _) _) _ _ _); refine Held.out ?_))

theorem held6 {a : Int} (h : Held (0 ≤ a ∧ a < 6)) : ∃ n : Nat, 6 - a = (n : Int) ∧ n ≤ 6 := ⟨(6 - a).toNat, by have := h.out; omega, by have := h.out; omega⟩

theorem led_fig1 {h₀ h : Heap} {L a : Addr} {us : List Value} {c : Nat} {r : Led} {P : Prop} (N : News h₀ L h ((a, listOf us.toArray c) :: r)) (G : Figs us)
    (k : ∀ us' c', Figs us' → News h₀ L h ((a, listOf us'.toArray c') :: r) → P) : P := k us c G N
theorem perm_in {a : Addr × Obj} {l add rest : Led} {q : Addr × Obj} (n : Nod (l ++ (add ++ (a :: q :: rest)))) : Nod (a :: (l ++ (q :: (add ++ rest)))) := by
  refine nod_of_count n fun x => ?_
  simp only [List.map_append, List.map_cons, List.count_append, List.count_cons]
  omega
theorem news_in {h₀ h : Heap} {L : Addr} {a : Addr × Obj} {l add rest : Led} {q : Addr × Obj} (n : News h₀ L h (l ++ (add ++ (a :: q :: rest)))) : News h₀ L h (a :: (l ++ (q :: (add ++ rest)))) := by
  refine kst_newsOf n fun p hp => ?_
  simp only [List.mem_append, List.mem_cons] at hp ⊢
  rcases hp with h | h | h | h | h <;> simp [h]
theorem perm_out {a : Addr × Obj} {l rest : Led} {q : Addr × Obj} (n : Nod (a :: (l ++ (q :: rest)))) : Nod (l ++ (a :: q :: rest)) := by
  refine nod_of_count n fun x => ?_
  simp only [List.map_append, List.map_cons, List.count_append, List.count_cons]
  omega
theorem news_out {h₀ h : Heap} {L : Addr} {a : Addr × Obj} {l rest : Led} {q : Addr × Obj} (n : News h₀ L h (a :: (l ++ (q :: rest)))) : News h₀ L h (l ++ (a :: q :: rest)) := by
  refine kst_newsOf n fun p hp => ?_
  simp only [List.mem_append, List.mem_cons] at hp ⊢
  rcases hp with h | h | h | h <;> simp [h]
abbrev TURNS : List Str := [Str.ofString "kind", Str.ofString "step", Str.ofString "kept", Str.ofString "words", Str.ofString "place", Str.ofString "pairs", Str.ofString "due", Str.ofString "places"]
theorem law8 (w : World) (K : LK) (S : LS) (ron : Nat) (l0 rest : Led) (t1 t4 : Tok) (hcod : ∀ c ∈ K.cs, CodOk c) (hes : S.es = []) :
    Tail w (fun b => b.drop 8) K S ron l0 rest [(Str.ofString "builder", .ref K.ba), (Str.ofString "found", .ref K.fo), (Str.ofString "wide", .int K.ar t4), (Str.ofString "many", .int K.cs.length t1), (Str.ofString "codes", .ref K.co)] := by
  unfold Tail
  intro name qual params body scope dV kV doc pm cdv9 ct oc an od osl ho
  refine fn_use ho (by exact rfl) ?_
  clear ho
  intro ho
  k_fill
  intro dp un gd outer A₀ base h₀ L f cd m s mean mg mb Q E _ B F X N hnod hl0 W O T hd hu hnm hret
  have hn1 := hnm _ List.mem_cons_self
  have hn2 := hnm _ (List.mem_cons_of_mem _ List.mem_cons_self)
  have hn3 := hnm _ (List.mem_cons_of_mem _ (List.mem_cons_of_mem _ List.mem_cons_self))
  have hn4 := hnm _ (List.mem_cons_of_mem _ (List.mem_cons_of_mem _ (List.mem_cons_of_mem _ List.mem_cons_self)))
  have hn5 := hnm _ (List.mem_cons_of_mem _ (List.mem_cons_of_mem _ (List.mem_cons_of_mem _ (List.mem_cons_of_mem _ List.mem_cons_self))))
  dsimp only at hn1 hn2 hn3 hn4 hn5
  replace F := fr_named F hnm
  try dsimp only [withN] at F
  have oFm := hl0 _ W.oFm
  have oFd := W.oFd
  have hfig := O.figs
  conv => enter [3, 1]; whnf
  have hnA := nodA.mp hnod
  dsimp only [stLed, List.cons_append, List.nil_append] at N hnA
  ((first | refine peelA hnA (by with_reducible ((repeat (first | exact it_nil | (apply it_na) | (apply it_ca) | (apply it_aa) | (apply it_cons) | (apply it_app))); (try exact it_last))) ?_ | refine peelN hnA (by with_reducible ((repeat (first | exact it_nil | (apply it_na) | (apply it_ca) | (apply it_aa) | (apply it_cons) | (apply it_app))); (try exact it_last))) ?_ | refine peelR hnA (by with_reducible ((repeat (first | exact it_nil | (apply it_na) | (apply it_ca) | (apply it_aa) | (apply it_cons) | (apply it_app))); (try exact it_last))) ?_); (repeat (intro hq9)); refine Past.mk ?_)
  try k_fold
  refine wpAny_noRaise ?_
  k_steps
  refine ⟨?_⟩
  rename Held (0 ≤ _ ∧ _ < (6 : Int)) => hb
  rename Figs _ => kG
  rename IsRange _ _ _ _ _ _ _ _ => kR
  rename News h₀ L _ _ => kN0
  rename Fr h₀ L _ _ => kF
  refine ex_1 (held6 hb) ?_
  intro n2 q9o
  refine an_2 q9o ?_
  clear q9o
  intro eb hn6
  rw [eb] at kR
  refine led_fig1 kN0 kG ?_
  intro us2 c2 hf2 kN
  clear kN0
  apply loop_range (n := n2) (σ := LS × Led) (fun _ => []) TURNS
    (fun i c9 nx => nx = stLed K L c9.1 ++ ((K.ro, listOf #[] ron) :: (c9.2 ++ rest)) ∧ SOK w K (c9.2 ++ l0) c9.1 ∧ c9.1.es.length ≤ 8 * i)
    ({ S with us := us2, c := c2 }, [])
  case hh => rfl
  case hr => exact kR
  case hsmall => rcases (by omega : n2 = 0 ∨ n2 = 1 ∨ n2 = 2 ∨ n2 = 3 ∨ n2 = 4 ∨ n2 = 5 ∨ n2 = 6) with rfl | rfl | rfl | rfl | rfl | rfl | rfl <;> rfl
  case hsz => exact rangeSize_nat _ _
  case F => exact kF
  case N => exact kN
  case hj => exact ⟨rfl, { O with figs := hf2 }, by dsimp only; rw [hes]; exact Nat.zero_le _⟩
  case hn => kat_tups
  case hk => exact fun p hp => absurd hp List.not_mem_nil
  case turn =>
    rintro i t ⟨S1, add1⟩ nx u h tk I oI hi hJ79 hn F2 N2
    refine turn_cps ?_
    intro q79 hq79 hb79 hr79
    refine an_3 (hJ79) ?_
    (try clear hJ79)
    intro r9q
    subst r9q
    intro O1
    intro le1
    dsimp only at O1 le1 hn F2 N2
    have hsub : ∀ p ∈ add1 ++ l0, p ∈ add1 ++ rest := fun p hp => by
      rcases List.mem_append.mp hp with hp | hp
      · exact List.mem_append_left _ hp
      · exact List.mem_append_right _ (hl0 p hp)
    refine' turnAll w K S1 (add1 ++ l0) ((I, oI) :: (K.ro, listOf #[] ron) :: (add1 ++ rest)) t1 ?few ho _ _ _ _ _ _ _ _ _ _ _ _ _ _ _ _ _ rfl B F2 X (news_out N2) (perm_out hn) (fun p hp => List.mem_cons_of_mem _ (List.mem_cons_of_mem _ (hsub p hp))) (W.mono fun p hp => List.mem_append_right _ hp) O1 (by k_asm) (by omega) (by omega) ?hnm ?hr
    case few => omega
    case hnm => first | ((repeat (first | exact fr_nil | refine fr_cons (by rfl) ?_)); done) | (intro p hp; ((repeat (rcases List.mem_cons.mp hp with rfl | hp; (· rfl))); exact absurd hp List.not_mem_nil))
    case hr =>
      intro m2 S2 add2 h2 tk2 F2' keep2 N2' nod2 O2 le2 _
      skip
      refine' (hq79 (S2, add2 ++ add1) _ _ _ _ F2' (fun p hp => absurd hp List.not_mem_nil) ?kp (by rw [List.append_assoc add2]; exact news_in N2') (by rw [List.append_assoc add2]; exact perm_in nod2) (fun _ h => nomatch h) ⟨rfl, ?ok, ?le⟩).1
      case kp =>
        intro z z1 z2 z3
        rw [keep2 z z3]
        simp only [if_neg z1, kstB, z3, Bool.false_eq_true, if_false]
      case ok => rw [List.append_assoc add2]; exact O2
      case le => dsimp only; omega
  case done =>
    rintro ⟨S1, add1⟩ nx u h tk hJ79 hn F2 N2
    refine an_3 (hJ79) ?_
    (try clear hJ79)
    intro r9q
    subst r9q
    intro O1
    intro le1
    dsimp only at O1 le1 hn F2 N2
    have hsub : ∀ p ∈ add1 ++ l0, p ∈ add1 ++ rest := fun p hp => by
      rcases List.mem_append.mp hp with hp | hp
      · exact List.mem_append_left _ hp
      · exact List.mem_append_right _ (hl0 p hp)
    k_steps
    refine ⟨?_⟩
    refine' law9 w K S1 ron (add1 ++ l0) (add1 ++ rest) t1 t4 hcod ?few ho _ _ _ _ _ _ _ _ _ _ _ _ _ _ _ _ _ rfl B F2 X N2 hn hsub (W.mono fun p hp => List.mem_append_right _ hp) O1 (by k_asm) hd hu ?hnm ?hr
    case few => omega
    case hnm => first | ((repeat (first | exact fr_nil | refine fr_cons (by rfl) ?_)); done) | (intro p hp; ((repeat (rcases List.mem_cons.mp hp with rfl | hp; (· rfl))); exact absurd hp List.not_mem_nil))
    case hr => exact fun m' h' tk' F' => hret m' h' tk' F'

end
section
theorem offLaw6 : True := by
  w_top off
  trivial

local macro_rules | `(tactic| walk_at "execs cons") => `(tactic| (k_here; (with_reducible show wpAny _ _ (execs (Stmt.For _ _ _ _ _ :: _) _) _ _ _); refine Held.out ?_))

local macro_rules | `(tactic| walk_at "call ref") => `(tactic| (k_here; (with_reducible show wpAny _ _ (call (Value.ref 102) _ _) _ _ _); k_dflt (refine' call_cls ?k1 ?k2 ?k3 ?k4 ?k5 ?k6 ?_; (case k1 => k_asm); (case k2 => k_asm); (case k3 => k_asm); (case k4 => k_is); (case k5 => k_is); (case k6 => k_is); k_whole; intro x' d' h' F' N' l1 l2; (try k_lt l1); (try k_lt2 l2); (try k_sweep)); k_dflt (refine' code_def ?k1 ?k2 ?k3 ?k4 ?k5 ?kA ?kF ?kK ?k6 ?k7 ?k8 ?k9 ?kB ?_ ?c2 ?c3 ?c4 ?c5; (case kA => exact rfl); (case kF => exact rfl); (case kK => exact rfl); (case k1 => k_asm); (case k2 => k_asm); (case k3 => k_asm); (case k4 => k_asm); (case k5 => k_asm); (case k6 => k_is); (case k7 => k_is); (case k8 => ((try simp only [depth_under_make, depth_under_kw, depth_in1, depth_deeper, depth_caller]); (try dsimp only [around]); omega)); (case k9 => exact BindsTo.of_eq rfl); (case c5 => decide); (case kB => exact locs rfl); (case c2 => exact rfl); (case c3 => exact rfl); (case c4 => exact rfl); k_whole; intro g' L' h' FG' F' N' B' X' T'; (try refine wp_toks fun tk9 => ?_); (try dsimp only); (try k_fold))))
theorem allLt_trans {a b : Nat} : ∀ {l : Led}, AllLt a l → a < b → AllLt b l
  | [], _, _ => trivial
  | _ :: _, h, hb => ⟨Nat.lt_trans h.1 hb, allLt_trans h.2 hb⟩
theorem TD.nil {prog : Program} {w : World} {l : Led} {o : Obj} (h : o.IsDictOf (PySem.intKind prog w) []) : TD prog w l o [] := by
  refine ex_2 (h) ?_
  (try clear h)
  intro es ep q9o
  refine an_5 q9o ?_
  clear q9o
  intro hc hdat _ hp _
  have he : es.toList = [] := List.length_eq_zero_iff.mp hp.length
  refine an_3 (hc) ?_
  (try clear hc)
  intro c1 c2 c3
  obtain ⟨oc, od, dt, os⟩ := o
  dsimp only at c1 c2 c3 hdat
  subst c1
  subst c2
  subst c3
  subst hdat
  exact ⟨es, ep, [], rfl, he, List.nodup_nil, (fun _ h => nomatch h), .nil⟩
theorem led_built {w : World} {h₀ h : Heap} {L fo kn ch ro ba bd co : Addr} {ofo okn : Obj} {n1 n2 : Nat} {h1 h2 h3 h4 h5 h6 ar nl : Int} {t1 t2 t3 t4 t5 t6 ta tn : Tok} {r : Led} {P : Prop}
    (N : News h₀ L h ((fo, ofo) :: (kn, okn) :: (ch, listOf #[] n1) :: (ro, listOf #[] n2) :: (ba, instObj 102 bd) :: (bd, dictOf [⟨h1, .str (Str.ofString "arity") t1, .int ar ta⟩, ⟨h2, .str (Str.ofString "codes") t2, .ref co⟩, ⟨h3, .str (Str.ofString "rows") t3, .ref ro⟩, ⟨h4, .str (Str.ofString "chains") t4, .ref ch⟩, ⟨h5, .str (Str.ofString "known") t5, .ref kn⟩, ⟨h6, .str (Str.ofString "next_label") t6, .int nl tn⟩] 6) :: r))
    (Df : ofo.IsDictOf (PySem.intKind PR w) []) (Dk : okn.IsDictOf (PySem.intKind PR w) []) (sf : (fo == sysModules) = false) (sk : (kn == sysModules) = false)
    (k : ∀ ofo' okn' x' n1' n2' tn', TD PR w [] ofo' [] → TD PR w [] okn' [] → (fo == sysModules) = false → (kn == sysModules) = false →
      News h₀ L h ((fo, ofo') :: (kn, okn') :: (ch, listOf [].toArray n1') :: (ro, listOf #[] n2') :: (ba, instObj 102 bd) :: (bd, bDict x' ar ta co ro ch kn nl tn') :: r) → P) : P :=
  k ofo okn ⟨h1, h2, h3, h4, h5, h6, t1, t2, t3, t4, t5, t6⟩ n1 n2 tn (TD.nil Df) (TD.nil Dk) sf sk N
/-- the law's end, from a place on and from any ledger -/
def Tail0 (w : World) (sel : List Stmt → List Stmt) (led : Addr → Led) (Pre : Addr → Prop) (nm : List (Str × Value)) : Prop :=
  ∀ {name qual : Str} {params : Arguments} {body : List Stmt} {scope : Scope} {dV kV doc pm cdv ct oc : Value} {an od : Option Addr} {osl : Array (Option Value)}
    (_ : (Mine.hd.heap_1 w.params).lookup 172 = some ⟨oc, od, .func (fnOf name qual params body scope dV kV doc pm an cdv ct), osl⟩)
    (dp un : Nat) (gd : Option (List Code)) (outer : List Env) (A₀ : Around) (base h₀ : Heap) (L f : Addr) (cd : Value) (m : Str → Option Value) (s : Shared)
    (mean : ExcName → Option Value) (mg mb : Str → Option Value) (Q : Flow → Shared → Prop) (E : Value → Shared → Prop),
    PySem.Challenge.rw_rh0065_01 = PySem.Challenge.rw_rh0065_01 →
    Below A₀ base outer h₀ → Fr h₀ L s.heap m → (Mine.hd.heap_1 w.params).In h₀ → News h₀ L s.heap (led L) → Nod (led L) → Pre L →
    Top Mine.V (looseW Mine.V []) mean mg mb h₀ → dp + 90 < recursionLimit → un + 2700 < cLine → (∀ p ∈ nm, m p.1 = some p.2) →
    (∀ m' h' tk', Fr h₀ L h' m' → Q (.ret (.bool true)) { s with heap := h', toks := tk' }) →
    wpAny (model PySem.Challenge.rw_rh0065_01.row.prog w) (around dp un gd (envOfC qual scope L f cd) outer) (execs (sel body) (envOfC qual scope L f cd)) Q E s

theorem law6 (w : World) (fa ka co : Addr) (kv cdv us : List Value) (kc cdn c : Nat) (cs : List Cod) (oF oK oS oP oW : Obj) (rest : Led) (ar : Int) (t1 t4 : Tok) (hcod : ∀ c ∈ cs, CodOk c) (m1 : 1 ≤ cs.length) (m4 : cs.length ≤ 4)
    (oFd : oF.data = .cell (some (.ref fa))) (oKd : oK.data = .cell (some (.ref ka))) (kam : (ka, listOf kv.toArray kc) ∈ rest) (hkeys : All2 (KeyIn rest) kv (cs.map (·.key))) (com : (co, listOf cdv.toArray cdn) ∈ rest) (hcods : CodsAre rest cdv cs)
    (hfig : Figs us) (cS : ∃ x, oS.data = .cell x) (cP : ∃ x, oP.data = .cell x) (cW : ∃ x, oW.data = .cell x) :
    Tail0 w (fun b => b.drop 6) (fun L => (fa, listOf us.toArray c) :: (L + 1 + 1 + 1, oS) :: (L + 1 + 1 + 1 + 1, oP) :: (L + 1 + 1 + 1 + 1 + 1, oW) :: rest) (fun L => (L + 1, oF) ∈ rest ∧ (L + 1 + 1, oK) ∈ rest)
      [(Str.ofString "wide", .int ar t4), (Str.ofString "many", .int cs.length t1), (Str.ofString "codes", .ref co)] := by
  unfold Tail0
  intro name qual params body scope dV kV doc pm cdv' ct oc an od osl ho
  refine fn_use ho (by exact rfl) ?_
  clear ho
  intro ho
  k_fill
  intro dp un gd outer A₀ base h₀ L f cd m s mean mg mb Q E _ B F X N hnod hpre T hd hu hnm hret
  refine an_2 (hpre) ?_
  (try clear hpre)
  intro oFm oKm
  have hn1 := hnm _ List.mem_cons_self
  have hn2 := hnm _ (List.mem_cons_of_mem _ List.mem_cons_self)
  have hn3 := hnm _ (List.mem_cons_of_mem _ (List.mem_cons_of_mem _ List.mem_cons_self))
  dsimp only at hn1 hn2 hn3
  replace F := fr_named F hnm
  try dsimp only [withN] at F
  try dsimp only at F N hnod
  conv => enter [3, 1]; whnf
  have hnA := nodA.mp hnod
  ((first | refine peelA hnA (by with_reducible ((repeat (first | exact it_nil | (apply it_na) | (apply it_ca) | (apply it_aa) | (apply it_cons) | (apply it_app))); (try exact it_last))) ?_ | refine peelN hnA (by with_reducible ((repeat (first | exact it_nil | (apply it_na) | (apply it_ca) | (apply it_aa) | (apply it_cons) | (apply it_app))); (try exact it_last))) ?_ | refine peelR hnA (by with_reducible ((repeat (first | exact it_nil | (apply it_na) | (apply it_ca) | (apply it_aa) | (apply it_cons) | (apply it_app))); (try exact it_last))) ?_); (repeat (intro hq9)); refine Past.mk ?_)
  have hcl : cdv.length = cs.length := hcods.length
  have hcl8 : cdv.length ≤ 8 := by omega
  try k_fold
  k_steps
  rename News h₀ L _ _ => kN0
  rename Fr h₀ L _ _ => kF
  refine ⟨?_⟩
  rename_i ba bd _ _ _ _ _ _ _ _ _ _ _ _ _ _ _ _ _ _ _ _ ro _ _ _ _ _ _ _ _ _ _ _ ch _ _ _ _ _ _ _ _ _ _ _ _ kn _ _ _ _ _ _ _ _ _ _ _ _ _ _ _ _ _ _ _ _ _ _ _ _ _ _ fo _ _ _ _ _ _ _ _ _ _ _ _ _ _ _ _ _ _ _
  refine led_built (w := w) kN0 (by assumption) (by assumption) (by assumption) (by assumption) ?_
  intro ofo okn x n1 n2 tn Df Dk sf sk kN
  clear kN0
  have hbr : AllLt ba rest := allLt_trans (a := bd) (by assumption) (by omega)
  have nd : Nod ((fo, ofo) :: (kn, okn) :: (ch, listOf [].toArray n1) :: (ro, listOf #[] n2) :: (ba, instObj 102 bd) :: (bd, bDict x ar t4 co ro ch kn cs.length tn) :: (fa, listOf us.toArray c) :: (L + 1 + 1 + 1, oS) :: (L + 1 + 1 + 1 + 1, oP) :: (L + 1 + 1 + 1 + 1 + 1, oW) :: rest) := by kat_tups
  refine' law8 w ⟨fa, ka, co, ba, bd, ro, ch, kn, fo, kv, cdv, kc, cdn, cs, oF, oK, x, ar, t4⟩ ⟨us, c, cs.length, tn, [], n1, okn, ofo, oS, oP, oW, []⟩ n2 ((ba, instObj 102 bd) :: rest) ((ba, instObj 102 bd) :: rest) t1 t4 hcod rfl
    ho _ _ _ _ _ _ _ _ _ _ _ _ _ _ _ _ _ rfl B kF X ?hN ?hno (fun p hp => hp) ?W ?O (by k_asm) (by omega) (by omega) ?hnm ?hr
  case hN => exact kst_newsOf kN (by (first | exact fun p hp => hp | ((repeat' (first | refine fa_app ?_ ?_ | refine fa_cons ?_ ?_ | refine List.forall_mem_append.mpr ⟨?_, ?_⟩ | refine List.forall_mem_cons.mpr ⟨?_, ?_⟩)) <;> (first | exact List.forall_mem_nil _ | (intro p9 hp9; kp_flats) | kp_flats))))
  case hno => dsimp only [stLed, List.cons_append, List.nil_append]; (first | assumption | (refine nod_of_count (by assumption) (fun a9 => ?_); (try simp only [List.cons_append, List.nil_append, List.map_append, List.map_cons, List.map_nil, List.count_append, List.count_cons, List.count_nil]); omega))
  case hnm => first | ((repeat (first | exact fr_nil | refine fr_cons (by rfl) ?_)); done) | (intro p hp; ((repeat (rcases List.mem_cons.mp hp with rfl | hp; (· rfl))); exact absurd hp List.not_mem_nil))
  case W => exact ⟨List.mem_cons_of_mem _ oFm, oFd, List.mem_cons_of_mem _ oKm, oKd, List.mem_cons_of_mem _ kam, All2.mono (fun _ _ q => KeyIn.mono (fun p hp => List.mem_cons_of_mem _ hp) q) hkeys, List.mem_cons_of_mem _ com, hcods.mono (fun p hp => List.mem_cons_of_mem _ hp), List.mem_cons_self, m1, m4, sk, sf⟩
  case O => exact ⟨hfig, ⟨rfl, rfl, Dk.mono (fun _ h => nomatch h), .nil, Nat.zero_le _, m4⟩, Df.mono (fun _ h => nomatch h), (fun _ h => nomatch h), cS, cP, cW⟩
  case hr => exact fun m' h' tk' F' => hret m' h' tk' F'

end
section
theorem offLaw4 : True := by
  w_top off
  trivial

local macro_rules | `(tactic| walk_at "pyIter ref") => `(tactic| (k_here; (with_reducible show wpAny _ _ (pyIter (Value.ref _)) _ _ _); refine Held.out ?_))
local macro_rules | `(tactic| walk_at "call ref") => `(tactic| (k_here; (with_reducible show wpAny _ _ (call (Value.ref 141) [Value.ref _, Value.int _ _]) _ _ _); (try k_fold); k_dflt (refine' draw_use ?hf ?ha ?hb ?P1 ?uB ?uF ?uX ?uN ?un ?uT ?uk ?uL ?ud ?uu ?_; (case uN => k_asm); (case P1 => allgen_close2_more); (case hf => assumption); (case ha => first | decide | omega); (case hb => first | decide | omega); (case uB => k_asm); (case uF => k_asm); (case uX => k_asm); (case un => first | assumption | kat_tups); (case uT => k_asm); (case uk => rfl); (case uL => rfl); (case ud => ktr_room); (case uu => tlg_ne)); intro k' t' us' c' h' tk' h0' h1' hf' F' N' nod'; (try simp only [List.cons_append, List.nil_append] at N' nod'); (have hb9 := Held.mk (And.intro h0' h1')); clear h0' h1'))
local macro_rules | `(tactic| walk_at "call ref") => `(tactic| (k_here; (with_reducible show wpAny _ _ (call (Value.ref 123) _ _) _ _ _); k_dflt (refine' call_cls ?k1 ?k2 ?k3 ?k4 ?k5 ?k6 ?_; (case k1 => k_asm); (case k2 => k_asm); (case k3 => k_asm); (case k4 => k_is); (case k5 => k_is); (case k6 => k_is); k_whole; intro x' d' h' F' N' l1 l2; (try k_lt l1); (try k_lt2 l2); (try k_sweep)); k_dflt (refine' code_def ?k1 ?k2 ?k3 ?k4 ?k5 ?kA ?kF ?kK ?k6 ?k7 ?k8 ?k9 ?kB ?_ ?c2 ?c3 ?c4 ?c5; (case kA => exact rfl); (case kF => exact rfl); (case kK => exact rfl); (case k1 => k_asm); (case k2 => k_asm); (case k3 => k_asm); (case k4 => k_asm); (case k5 => k_asm); (case k6 => k_is); (case k7 => k_is); (case k8 => ((try simp only [depth_under_make, depth_under_kw, depth_in1, depth_deeper, depth_caller]); (try dsimp only [around]); omega)); (case k9 => exact BindsTo.of_eq rfl); (case c5 => decide); (case kB => exact locs rfl); (case c2 => exact rfl); (case c3 => exact rfl); (case c4 => exact rfl); k_whole; intro g' L' h' FG' F' N' B' X' T'; (try refine wp_toks fun tk9 => ?_); (try dsimp only); (try k_fold))))
theorem mul_led {prog : Program} {w : World} {A : Around} {E : Value → Shared → Prop} {s : Shared} {h₀ : Heap} {L a : Addr} {m : Str → Option Value} {news : Led} {v : Value} {n : Nat} {k : Int} {u : Tok} {Q : Value → Shared → Prop}
    (F : Fr h₀ L s.heap m) (N : News h₀ L s.heap news) (ma : (a, listOf [v].toArray n) ∈ news) (hk : Held (0 ≤ k ∧ k < 3))
    (h : ∀ (j : Nat) D h', j ≤ 2 → Fr h₀ L h' m → News h₀ L h' ((D, listOf (List.replicate j v).toArray 0) :: news) → (∀ p ∈ news, p.1 < D) → Q (.ref D) { s with heap := h' }) : wpAny (model prog w) A (binaryOp .Mult (.ref a) (.int k u)) Q E s := by
  have hk' := hk.out
  refine KMa.mul F N (N.isList ma) (by omega) (by omega) (by simp only [List.length_cons, List.length_nil]; omega) List.flatten_replicate_singleton ?_
  exact fun D h' F' N' l => h k.toNat D h' (by omega) F' N' l
theorem rep_all {l : Led} {v : Value} {d : Dat} (h : DatIn l v d) : ∀ j, DatAll l (List.replicate j v) (List.replicate j d)
  | 0 => .nil
  | j + 1 => .cons h (rep_all h j)
theorem pick_code {h₀ h : Heap} {L : Addr} {a b c X d M f L0 t : Addr × Obj} {r : Led} (N : News h₀ L h (a :: b :: c :: X :: d :: M :: f :: L0 :: t :: r)) : News h₀ L h (a :: b :: c :: d :: t :: f :: r) :=
  kst_newsOf N fun p hp => by
    simp only [List.mem_cons] at hp ⊢
    rcases hp with h | h | h | h | h | h | h <;> simp [h]
theorem led_code {h₀ h : Heap} {L xa xd ia T0 T2 kb fa : Addr} {h1 h2 h3 h4 q : Int} {t1 t2 t3 t4 t5 t6 t7 : Tok} {fv uv : Value} {e n n2 n3 c j p : Nat} {X M L0 : Addr × Obj} {us : List Value} {r rest : Led} {key : Key} {P : Prop}
    (N : News h₀ L h ((xa, instObj 123 xd) :: (xd, dictOf [⟨h1, .str (Str.ofString "functor") t1, fv⟩, ⟨h2, .str (Str.ofString "key") t2, .ref kb⟩, ⟨h3, .str (Str.ofString "instrs") t3, .ref ia⟩, ⟨h4, .str (Str.ofString "used") t4, uv⟩] e) ::
      (ia, listOf (List.replicate j (Value.ref T0) ++ [Value.ref T2]).toArray n) :: X :: (T2, tupOf [.str (Str.ofString "execute") t5, .int q t6] n2) :: M :: (fa, listOf us.toArray c) :: L0 :: (T0, tupOf [.str (Str.ofString "neck_cut") t7] n3) :: r))
    (hk : KeyIn rest (.ref kb) key) (hf : Figs us) (hq : q = (p : Int))
    (k : ∀ o1 o2 o3 o4 o5 us' c', Figs us' →
      (∀ l, (xa, o1) ∈ l → (xd, o2) ∈ l → (ia, o3) ∈ l → (T2, o4) ∈ l → (T0, o5) ∈ l → (∀ p ∈ rest, p ∈ l) → CodIn l (.ref xa) ⟨key, insL j p⟩) →
      News h₀ L h ((xa, o1) :: (xd, o2) :: (ia, o3) :: (T2, o4) :: (T0, o5) :: (fa, listOf us'.toArray c') :: r) → P) : P := by
  refine k _ _ _ _ _ us c hf (fun l m1 m2 m3 m4 m5 ms => ?_) (pick_code N)
  refine ⟨xa, xd, kb, ia, h1, h2, h3, h4, t1, t2, t3, t4, fv, uv, _, n, e, rfl, m1, m2, hk.mono ms, m3, ?_⟩
  refine DatAll.append (rep_all (.tuple m5 (.cons (.str _ _) .nil)) j) (.cons (.tuple m4 (.cons (.str _ _) (.cons ?_ .nil))) .nil)
  rw [← hq]
  exact .int _ _
local macro_rules | `(tactic| walk_at "binaryOp Mult ref int") => `(tactic| (k_here; (with_reducible show wpAny _ _ (binaryOp _ (Value.ref _) (Value.int _ _)) _ _ _); k_dflt (refine' mul_led ?F ?N ?m ?h ?_; (case F => k_asm); (case N => k_asm); (case m => k_mem); (case h => assumption); k_whole); intro j' D' h' hj' F' N' l1; (try dsimp only); (try k_lt l1); (try k_sweep)))
local macro_rules | `(tactic| walk_at "binaryOp Add ref ref") => `(tactic| (k_here; (with_reducible show wpAny _ _ (binaryOp _ (Value.ref _) (Value.ref _)) _ _ _); k_dflt (refine' add_led ?F ?N ?a ?b ?z ?_; (case F => k_asm); (case N => k_asm); (case a => k_mem); (case b => k_mem); (case z => ((try simp only [List.length_append, List.length_cons, List.length_nil, List.length_replicate]); omega)); k_whole); intro D' h' F' N' l1; (try dsimp only); (try k_lt l1); (try k_sweep)))

local macro_rules | `(tactic| walk_at "execs cons Assign cons") => `(tactic| (k_here; (with_reducible show wpAny _ _ (execs (Stmt.Assign [Expr.Name _ _] (Expr.Call (Expr.Name _ _) [Expr.Name _ _, Expr.Name _ _] _ _) _ :: _) _) _ _ _); refine Held.out ?_))
local macro_rules | `(tactic| walk_at "execs cons") => `(tactic| (k_here; (with_reducible show wpAny _ _ (execs (Stmt.Assign [Expr.Name _ _] (Expr.Call (Expr.Name _ _) [Expr.Name _ _, Expr.Name _ _] _ _) _ :: _) _) _ _ _); refine Held.out ?_))
theorem Nod.lt {a : Addr} {o : Obj} {l : Led} (h : AllLt a l) (n : Nod l) : Nod ((a, o) :: l) := Nod.of_cons (p := (a, o)) (allLt_ne h) n
structure CL where
  cdv : List Value
  cdn : Nat
  us : List Value
  c : Nat
  cs : List Cod
  add : Led
theorem law4 (w : World) (fa ka : Addr) (kv us : List Value) (kc c : Nat) (keys : List Key) (oF oK oS oP oW : Obj) (rest : Led) (ar : Int) (t1 t4 : Tok) (m1 : 1 ≤ keys.length) (m4 : keys.length ≤ 4)
    (oFd : oF.data = .cell (some (.ref fa))) (oKd : oK.data = .cell (some (.ref ka))) (kam : (ka, listOf kv.toArray kc) ∈ rest) (hkeys : All2 (KeyIn rest) kv keys)
    (hfig : Figs us) (cS : ∃ x, oS.data = .cell x) (cP : ∃ x, oP.data = .cell x) (cW : ∃ x, oW.data = .cell x) :
    Tail0 w (fun b => b.drop 4) (fun L => (fa, listOf us.toArray c) :: (L + 1 + 1 + 1, oS) :: (L + 1 + 1 + 1 + 1, oP) :: (L + 1 + 1 + 1 + 1 + 1, oW) :: rest) (fun L => (L + 1, oF) ∈ rest ∧ (L + 1 + 1, oK) ∈ rest)
      [(Str.ofString "wide", .int ar t4), (Str.ofString "many", .int keys.length t1)] := by
  unfold Tail0
  intro name qual params body scope dV kV doc pm cdv' ct oc an od osl ho
  refine fn_use ho (by exact rfl) ?_
  clear ho
  intro ho
  k_fill
  intro dp un gd outer A₀ base h₀ L f cd m s mean mg mb Q E _ B F X N hnod hpre T hd hu hnm hret
  refine an_2 (hpre) ?_
  (try clear hpre)
  intro oFm oKm
  have hcl : Held (1 ≤ keys.length ∧ keys.length ≤ 4) := ⟨m1, m4⟩
  clear m1 m4
  have hn1 := hnm _ List.mem_cons_self
  have hn2 := hnm _ (List.mem_cons_of_mem _ List.mem_cons_self)
  dsimp only at hn1 hn2
  replace F := fr_named F hnm
  try dsimp only [withN] at F
  try dsimp only at F N hnod
  conv => enter [3, 1]; whnf
  have hnA := nodA.mp hnod
  ((first | refine peelA hnA (by with_reducible ((repeat (first | exact it_nil | (apply it_na) | (apply it_ca) | (apply it_aa) | (apply it_cons) | (apply it_app))); (try exact it_last))) ?_ | refine peelN hnA (by with_reducible ((repeat (first | exact it_nil | (apply it_na) | (apply it_ca) | (apply it_aa) | (apply it_cons) | (apply it_app))); (try exact it_last))) ?_ | refine peelR hnA (by with_reducible ((repeat (first | exact it_nil | (apply it_na) | (apply it_ca) | (apply it_aa) | (apply it_cons) | (apply it_app))); (try exact it_last))) ?_); (repeat (intro hq9)); refine Past.mk ?_)
  try k_fold
  refine wpAny_noRaise ?_
  k_steps
  refine ⟨?_⟩
  rename IsRange _ _ _ _ _ _ _ _ => kR
  rename News h₀ L _ _ => kN0
  rename Fr h₀ L _ _ => kF
  rename_i co _ _ _ _ _ _ _ _ _ _ _ _ _ _ _ _ _
  rename News h₀ L _ _ => kN
  apply loop_range (n := keys.length) (σ := CL) (fun _ => []) []
    (fun i c9 nx => nx = (co, listOf c9.cdv.toArray c9.cdn) :: (fa, listOf c9.us.toArray c9.c) :: (L + 1 + 1 + 1, oS) :: (L + 1 + 1 + 1 + 1, oP) :: (L + 1 + 1 + 1 + 1 + 1, oW) :: (c9.add ++ rest) ∧
      Figs c9.us ∧ CodsAre (c9.add ++ rest) c9.cdv c9.cs ∧ c9.cs.map (·.key) = keys.take i ∧ ∀ c ∈ c9.cs, CodOk c)
    (CL.mk [] 0 us c [] [])
  case hh => rfl
  case hr => exact kR
  case hsmall => rcases (by have := hcl.out; omega : keys.length = 1 ∨ keys.length = 2 ∨ keys.length = 3 ∨ keys.length = 4) with h | h | h | h <;> (rw [h]; rfl)
  case hsz => exact rangeSize_nat _ _
  case F => exact kF
  case N => exact kN
  case hj => exact ⟨rfl, hfig, .nil, rfl, fun _ h => nomatch h⟩
  case hn => kat_tups
  case hk => exact fun p hp => absurd hp List.not_mem_nil
  case turn =>
    rintro i t ⟨cdv9, cdn9, us9, c9, cs9, add9⟩ nx u h tk I oI hi hJ79 hn F2 N2
    refine turn_cps ?_
    intro q79 hq79 hb79 hr79
    refine an_5 (hJ79) ?_
    (try clear hJ79)
    intro r9q
    subst r9q
    intro hf9
    intro hc9
    intro hk9
    intro ho9
    dsimp only at hf9 hc9 hk9 ho9 hn F2 N2
    have hkg : keys[(0 + (i : Int)).toNat]? = some (keys[i]'hi) := by
      rw [show (0 + (i : Int)).toNat = i by omega]
      exact List.getElem?_eq_getElem hi
    refine ex_1 (hkeys.get hkg) ?_
    intro vk q9o
    refine an_2 q9o ?_
    clear q9o
    intro hvk hki
    refine ex_1 (key_ref hki) ?_
    intro kb
    intro r9q
    subst r9q
    clear hfig
    have hnI := nodA.mp hn
    ((first | refine peelA hnI (by with_reducible ((repeat (first | exact it_nil | (apply it_na) | (apply it_ca) | (apply it_aa) | (apply it_cons) | (apply it_app))); (try exact it_last))) ?_ | refine peelN hnI (by with_reducible ((repeat (first | exact it_nil | (apply it_na) | (apply it_ca) | (apply it_aa) | (apply it_cons) | (apply it_app))); (try exact it_last))) ?_ | refine peelR hnI (by with_reducible ((repeat (first | exact it_nil | (apply it_na) | (apply it_ca) | (apply it_aa) | (apply it_cons) | (apply it_app))); (try exact it_last))) ?_); (repeat (intro hq9)); refine Past.mk ?_)
    have hcl2 := hcl.out
    have hcn : cdv9.length = i := by rw [hc9.length, ← List.length_map (f := fun c : Cod => c.key), hk9, List.length_take]; omega
    dsimp only [kstB] at F2
    try k_fold
    k_steps
    rename News _ _ _ _ => kN0
    rename Fr _ _ _ _ => kF9
    rename Figs _ => kG
    rename _ ≤ 2 => hj8
    rename_i T0 _ _ _ _ _ _ _ _ _ _ _ _ _ _ _ _ _ _ _ _ _ _ _ _ _ _ _ _ _ _ _ _ _ _ _ _ _ _ _ _ _ _ _ _ _ _ T2 _ _ _ _ _ _ _ _ _ _ _ _ _ _ _ _ _ _ _ _ _ _ _ _ _ _ _ _ ia _ _ _ _ _ _ _ _ _ _ _ _ _ _ _ xa xd _ _ _ _ _ _ _ _ _ _ _ _ _ _ _ _ _ _ _ _ _ _ _ _ _ _ _ _ _ _ _ _ _ _ _ _ _ _ _
    refine led_code (rest := rest) (p := i) kN0 hki kG (by omega) ?_
    intro o1 o2 o3 o4 o5 us8 c8 hf8 hcod8 kN9
    clear kN0
    have ndB : Nod ((fa, listOf us9.toArray c9) :: (I, oI) :: (co, listOf cdv9.toArray cdn9) :: (L + 1 + 1 + 1, oS) :: (L + 1 + 1 + 1 + 1, oP) :: (L + 1 + 1 + 1 + 1 + 1, oW) :: (add9 ++ rest)) := by (first | assumption | (refine nod_of_count (by assumption) (fun a9 => ?_); (try simp only [List.cons_append, List.nil_append, List.map_append, List.map_cons, List.map_nil, List.count_append, List.count_cons, List.count_nil]); omega))
    have hT0 : AllLt T0 ((fa, listOf us9.toArray c9) :: (I, oI) :: (co, listOf cdv9.toArray cdn9) :: (L + 1 + 1 + 1, oS) :: (L + 1 + 1 + 1 + 1, oP) :: (L + 1 + 1 + 1 + 1 + 1, oW) :: (add9 ++ rest)) := by (first | ((repeat (first | with_reducible assumption | exact al_nil | (with_reducible refine al_cons (by with_reducible assumption) ?_) | (with_reducible refine al_app (by with_reducible assumption) ?_))); (first | done | fail "open")) | ((try simp only [AllLt, allLt_append, and_true]); (repeat' apply And.intro) <;> assumption))
    have hT2 : AllLt T2 ((T0, o5) :: (fa, listOf us9.toArray c9) :: (I, oI) :: (co, listOf cdv9.toArray cdn9) :: (L + 1 + 1 + 1, oS) :: (L + 1 + 1 + 1 + 1, oP) :: (L + 1 + 1 + 1 + 1 + 1, oW) :: (add9 ++ rest)) := by (first | ((repeat (first | with_reducible assumption | exact al_nil | (with_reducible refine al_cons (by with_reducible assumption) ?_) | (with_reducible refine al_app (by with_reducible assumption) ?_))); (first | done | fail "open")) | ((try simp only [AllLt, allLt_append, and_true]); (repeat' apply And.intro) <;> assumption))
    have hia : AllLt ia ((T2, o4) :: (T0, o5) :: (fa, listOf us9.toArray c9) :: (I, oI) :: (co, listOf cdv9.toArray cdn9) :: (L + 1 + 1 + 1, oS) :: (L + 1 + 1 + 1 + 1, oP) :: (L + 1 + 1 + 1 + 1 + 1, oW) :: (add9 ++ rest)) := by (first | ((repeat (first | with_reducible assumption | exact al_nil | (with_reducible refine al_cons (by with_reducible assumption) ?_) | (with_reducible refine al_app (by with_reducible assumption) ?_))); (first | done | fail "open")) | ((try simp only [AllLt, allLt_append, and_true]); (repeat' apply And.intro) <;> assumption))
    have hxd : AllLt xd ((ia, o3) :: (T2, o4) :: (T0, o5) :: (fa, listOf us9.toArray c9) :: (I, oI) :: (co, listOf cdv9.toArray cdn9) :: (L + 1 + 1 + 1, oS) :: (L + 1 + 1 + 1 + 1, oP) :: (L + 1 + 1 + 1 + 1 + 1, oW) :: (add9 ++ rest)) := by (first | ((repeat (first | with_reducible assumption | exact al_nil | (with_reducible refine al_cons (by with_reducible assumption) ?_) | (with_reducible refine al_app (by with_reducible assumption) ?_))); (first | done | fail "open")) | ((try simp only [AllLt, allLt_append, and_true]); (repeat' apply And.intro) <;> assumption))
    have hlt : xd < xa := by omega
    have nd9 := Nod.lt (a := xa) (o := o1) (show AllLt xa ((xd, o2) :: _) from ⟨hlt, allLt_trans hxd hlt⟩) (Nod.lt hxd (Nod.lt hia (Nod.lt hT2 (Nod.lt hT0 ndB))))
    skip
    refine' (hq79 (CL.mk (cdv9 ++ [.ref xa]) _ us8 c8 (cs9 ++ [⟨_, insL _ i⟩]) ((xa, o1) :: (xd, o2) :: (ia, o3) :: (T2, o4) :: (T0, o5) :: add9)) _ _ _ _ kF9 (fun p hp => absurd hp List.not_mem_nil) (by intro z z1 z2 z3; first | ((repeat (first | with_reducible rfl | with_reducible assumption | refine kp_st (by with_reducible assumption) ?_ | refine kp_set (by first | with_reducible exact z1 | with_reducible exact z2 _ List.mem_cons_self | with_reducible exact z2 _ (List.mem_cons_of_mem _ List.mem_cons_self) | with_reducible exact z2 _ (List.mem_cons_of_mem _ (List.mem_cons_of_mem _ List.mem_cons_self)) | exact kp_con z3 (by ((repeat (with_reducible_and_instances first | exact List.Mem.head _ | refine List.Mem.tail _ ?_)); (first | done | fail "open")))) ?_ | refine kp_same (by assumption) ?_ | exact rfl)); done) | ((try dsimp only [kstB]); simp only [if_neg z1, z3, List.contains_nil, Bool.false_eq_true, if_false])) (kst_newsOf kN9 ?hN) ?hno (fun _ h => nomatch h) ⟨rfl, hf8, All2.append (hc9.mono ?hs) (.one (hcod8 _ ?q1 ?q2 ?q3 ?q4 ?q5 ?q6)), ?hk, ?ho⟩).1
    case hN => (first | exact fun p hp => hp | ((repeat' (first | refine fa_app ?_ ?_ | refine fa_cons ?_ ?_ | refine List.forall_mem_append.mpr ⟨?_, ?_⟩ | refine List.forall_mem_cons.mpr ⟨?_, ?_⟩)) <;> (first | exact List.forall_mem_nil _ | (intro p9 hp9; kp_flats) | kp_flats)))
    case hno =>
      refine nod_of_count nd9 fun a9 => ?_
      simp only [List.cons_append, List.map_append, List.map_cons, List.count_append, List.count_cons]
      omega
    case hs => (first | exact fun p hp => hp | ((repeat' (first | refine fa_app ?_ ?_ | refine fa_cons ?_ ?_ | refine List.forall_mem_append.mpr ⟨?_, ?_⟩ | refine List.forall_mem_cons.mpr ⟨?_, ?_⟩)) <;> (first | exact List.forall_mem_nil _ | (intro p9 hp9; kp_flats) | kp_flats)))
    case q1 => exact List.mem_cons_self
    case q2 => exact List.mem_cons_of_mem _ List.mem_cons_self
    case q3 => exact List.mem_cons_of_mem _ (List.mem_cons_of_mem _ List.mem_cons_self)
    case q4 => exact List.mem_cons_of_mem _ (List.mem_cons_of_mem _ (List.mem_cons_of_mem _ List.mem_cons_self))
    case q5 => exact List.mem_cons_of_mem _ (List.mem_cons_of_mem _ (List.mem_cons_of_mem _ (List.mem_cons_of_mem _ List.mem_cons_self)))
    case q6 => exact fun p hp => List.mem_append_right _ hp
    case hk =>
      rw [List.map_append, hk9, List.take_add_one, List.getElem?_eq_getElem hi]
      rfl
    case ho =>
      intro cd hcd
      rcases List.mem_append.mp hcd with hcd | hcd
      · exact ho9 cd hcd
      · rw [List.mem_singleton.mp hcd]
        refine ⟨?_, insL_ok _ _⟩
        simp only [insL, List.length_append, List.length_replicate, List.length_singleton]
        omega
  case done =>
    rintro ⟨cdv9, cdn9, us9, c9, cs9, add9⟩ nx u h tk hJ79 hn F2 N2
    refine an_5 (hJ79) ?_
    (try clear hJ79)
    intro r9q
    subst r9q
    intro hf9
    intro hc9
    intro hk9
    intro ho9
    dsimp only at hf9 hc9 hk9 ho9 hn F2 N2
    rw [List.take_length] at hk9
    have hlen : keys.length = cs9.length := by rw [← hk9, List.length_map]
    have hcl2 := hcl.out
    rw [hlen] at hcl2
    dsimp only [kstB] at F2
    rw [hlen] at F2
    k_steps
    rename Fr h₀ L _ _ => kF9
    refine ⟨?_⟩
    refine' law6 w fa ka co kv cdv9 us9 kc cdn9 c9 cs9 oF oK oS oP oW ((co, listOf cdv9.toArray cdn9) :: (add9 ++ rest)) ar t1 t4 ho9 hcl2.1 hcl2.2 oFd oKd (List.mem_cons_of_mem _ (List.mem_append_right _ kam)) ?hky List.mem_cons_self (hc9.mono fun p hp => List.mem_cons_of_mem _ hp) hf9 cS cP cW
      ho _ _ _ _ _ _ _ _ _ _ _ _ _ _ _ _ _ rfl B kF9 X ?hN ?hno ⟨List.mem_cons_of_mem _ (List.mem_append_right _ oFm), List.mem_cons_of_mem _ (List.mem_append_right _ oKm)⟩ (by k_asm) hd hu ?hnm ?hr
    case hky => rw [hk9]; exact All2.mono (fun _ _ q => KeyIn.mono (fun p hp => List.mem_cons_of_mem _ (List.mem_append_right _ hp)) q) hkeys
    case hN => exact kst_newsOf N2 (by (first | exact fun p hp => hp | ((repeat' (first | refine fa_app ?_ ?_ | refine fa_cons ?_ ?_ | refine List.forall_mem_append.mpr ⟨?_, ?_⟩ | refine List.forall_mem_cons.mpr ⟨?_, ?_⟩)) <;> (first | exact List.forall_mem_nil _ | (intro p9 hp9; kp_flats) | kp_flats))))
    case hno => (first | assumption | (refine nod_of_count (by assumption) (fun a9 => ?_); (try simp only [List.cons_append, List.nil_append, List.map_append, List.map_cons, List.map_nil, List.count_append, List.count_cons, List.count_nil]); omega))
    case hnm => first | ((repeat (first | exact fr_nil | refine fr_cons (by rfl) ?_)); done) | (intro p hp; ((repeat (rcases List.mem_cons.mp hp with rfl | hp; (· rfl))); exact absurd hp List.not_mem_nil))
    case hr => exact fun m' h' tk' F' => hret m' h' tk' F'

end
section
theorem offLaw0 : True := by
  w_top off
  trivial
local macro_rules | `(tactic| walk_at "zz") => `(tactic| skip)

local macro_rules | `(tactic| walk_at "pyIter ref") => `(tactic| (k_here; (with_reducible show wpAny _ _ (pyIter (Value.ref _)) _ _ _); refine Held.out ?_))
local macro_rules | `(tactic| walk_at "eval ListComp") => `(tactic| (k_here; k_dflt (refine LCg.ListComp_U (F₀ := by k_asm) (by with_unfolding_all rfl) (by decide) (by rfl) (by decide) (by rfl) ?_)))
local macro_rules | `(tactic| walk_at "call ref") => `(tactic| (k_here; (with_reducible show wpAny _ _ (call (Value.ref 141) [Value.ref _, Value.int _ _]) _ _ _); (try k_fold); k_dflt (refine' draw_use ?hf ?ha ?hb ?P1 ?uB ?uF ?uX ?uN ?un ?uT ?uk ?uL ?ud ?uu ?_; (case uN => k_asm); (case P1 => allgen_close2_more); (case hf => assumption); (case ha => first | decide | omega); (case hb => first | decide | omega); (case uB => k_asm); (case uF => k_asm); (case uX => k_asm); (case un => first | assumption | kat_tups); (case uT => k_asm); (case uk => rfl); (case uL => rfl); (case ud => ktr_room); (case uu => tlg_ne)); intro k' t' us' c' h' tk' h0' h1' hf' F' N' nod'; (try simp only [List.cons_append, List.nil_append] at N' nod'); (have hb9 := Held.mk (And.intro h0' h1')); clear h0' h1'))
local macro_rules | `(tactic| walk_at "call ref") => `(tactic| (k_here; (with_reducible show wpAny _ _ (call (Value.ref 134) [Value.ref _]) _ _ _); refine Held.out ?_))

local macro_rules | `(tactic| walk_at "CompSrc") => `(tactic| (k_here; refine Held.out ?_))
local macro_rules | `(tactic| walk_at "execs cons Assign cons") => `(tactic| (k_here; (with_reducible show wpAny _ _ (execs (Stmt.Assign [Expr.Name _ _] _ _ :: Stmt.For _ _ _ _ _ :: _) _) _ _ _); refine Held.out ?_))
local macro_rules | `(tactic| walk_at "execs cons") => `(tactic| (k_here; (with_reducible show wpAny _ _ (execs (Stmt.Assign [Expr.Name _ _] _ _ :: Stmt.For _ _ _ _ _ :: _) _) _ _ _); refine Held.out ?_))
theorem held4 {a : Int} (h : Held (0 ≤ a ∧ a < 4)) : ∃ n : Nat, 4 - a = (n : Int) ∧ 1 ≤ n ∧ n ≤ 4 := ⟨(4 - a).toNat, by have := h.out; omega, by have := h.out; omega, by have := h.out; omega⟩

theorem law_body (w : World) {name qual : Str} {params : Arguments} {body : List Stmt} {scope : Scope} {dV kV doc pm cdv ct oc : Value} {an od : Option Addr} {osl : Array (Option Value)}
    (ho : (Mine.hd.heap_1 w.params).lookup 172 = some ⟨oc, od, .func (fnOf name qual params body scope dV kV doc pm an cdv ct), osl⟩)
    (sa : Addr) (sv : List Value) (xs : List Int) (hix : Held (IntsAre sv xs)) (hlx : xs.length ≤ 63) :
    ∀ (dp un : Nat) (gd : Option (List Code)) (outer : List Env) (A₀ : Around) (base h₀ : Heap) (L f : Addr) (cd : Value) (cells : Led) (s : Shared)
    (mean : ExcName → Option Value) (mg mb : Str → Option Value) (Q : Flow → Shared → Prop) (E : Value → Shared → Prop),
    PySem.Challenge.rw_rh0065_01 = PySem.Challenge.rw_rh0065_01 →
    Below A₀ base outer h₀ → Fr h₀ L s.heap (bindL (envOfC qual scope L f cd).kindOf [(Str.ofString "script", .ref sa)] fun _ => none) → (Mine.hd.heap_1 w.params).In h₀ → h₀.IsList sa sv.toArray → News h₀ L s.heap cells →
    CellsAre (bindC (envOfC qual scope L f cd).kindOf [(Str.ofString "script", .ref sa)] fun _ => none) (cellsFrom (L + 1) scope.names []) cells →
    Top Mine.V (looseW Mine.V []) mean mg mb h₀ → dp + 100 < recursionLimit → un + 3000 < cLine →
    (∀ m h' tk', Fr h₀ L h' m → Q (.ret (.bool true)) { s with heap := h', toks := tk' }) →
    wpAny (model PySem.Challenge.rw_rh0065_01.row.prog w) (around dp un gd (envOfC qual scope L f cd) outer) (execs body (envOfC qual scope L f cd)) Q E s := by
  refine fn_use ho (by exact rfl) ?_
  clear ho
  intro ho
  k_fill
  intro dp un gd outer A₀ base h₀ L f cd cells s mean mg mb Q E _ B F X hsl N Y T hd hu hret
  have hY := PyProof.Rows.kc_five Y
  refine ex_5 (hY) ?_
  (try clear hY)
  intro oW oP oS oK oF q9o
  refine an_6 q9o ?_
  clear q9o
  intro hE' dW dP dS dK dF
  subst hE'
  clear Y
  replace dW : oW.data = .cell none := dW
  replace dP : oP.data = .cell none := dP
  replace dS : oS.data = .cell none := dS
  replace dK : oK.data = .cell none := dK
  replace dF : oF.data = .cell none := dF
  k_steps
  refine ⟨?_⟩
  k_dflt (refine' figures_does w sa sv xs _ hix.out hlx _ _ _ _ _ _ _ _ _ _ _ _ _ _ _ _ rfl ?uB ?uF ?uX ?uS ?uN ?un ?uT ?uk ?uL ?ud ?uu ?_; (case uN => k_asm); (case uB => k_asm); (case uF => k_asm); (case uX => k_asm); (case uS => assumption); (case un => kat_tups); (case uT => k_asm); (case uk => rfl); (case uL => rfl); (case ud => omega); (case uu => omega))
  intro fa us c h' tk' F' N' nod' hfig
  have hnA := nodA.mp nod'
  ((first | refine peelA hnA (by with_reducible ((repeat (first | exact it_nil | (apply it_na) | (apply it_ca) | (apply it_aa) | (apply it_cons) | (apply it_app))); (try exact it_last))) ?_ | refine peelN hnA (by with_reducible ((repeat (first | exact it_nil | (apply it_na) | (apply it_ca) | (apply it_aa) | (apply it_cons) | (apply it_app))); (try exact it_last))) ?_ | refine peelR hnA (by with_reducible ((repeat (first | exact it_nil | (apply it_na) | (apply it_ca) | (apply it_aa) | (apply it_cons) | (apply it_app))); (try exact it_last))) ?_); (repeat (intro hq9)); refine Past.mk ?_)
  k_steps
  refine ⟨?_⟩
  rename IsRange _ _ _ _ _ _ _ _ => kR
  rename News _ _ _ _ => kN
  rename Fr _ _ _ _ => kF
  rename Figs _ => hfg
  rename _ = Data.cell (some (Value.ref fa)) => hFd
  rename Obj => oF2
  rename Held (0 ≤ _ ∧ _ < (4 : Int)) => hb4
  refine ex_1 (held4 hb4) ?_
  intro n2 q9o
  refine an_3 q9o ?_
  clear q9o
  intro eb hn1 hn4
  rw [eb] at kR kF ⊢
  refine led_fig1 kN hfg ?_
  intro us2 c2 hf2 kN2
  refine compU_range (n := n2) (fun i ys nx => ∃ us' c' A ks, nx = (fa, listOf us'.toArray c') :: (A ++ [(L + 1 + 1 + 1 + 1 + 1, oW), (L + 1 + 1 + 1 + 1, oP), (L + 1 + 1 + 1, oS), (L + 1 + 1, oK), (L + 1, oF2)]) ∧ Figs us' ∧ All2 (KeyIn A) ys ks ∧ ks.length = i)
    rfl kF kN2 ?un kR ?rs ?rz ?rf ?rj ?turn ?fin
  case un => kat_tups
  case rs => rcases (by omega : n2 = 1 ∨ n2 = 2 ∨ n2 = 3 ∨ n2 = 4) with h | h | h | h <;> (subst h; rfl)
  case rz => exact rangeSize_nat _ _
  case rf => omega
  case rj => exact ⟨us2, c2, [], [], rfl, hf2, .nil, rfl⟩
  case turn =>
    rintro i t ys nx I oI C oC D m₂ h tk E' hi ⟨us9, c9, A, ks, rfl, hf9, hks, hkl⟩ hC hx F₁ N₁ hn₁
    clear hfg hf2 kN2 kN hfig nod'
    k_steps
    try dsimp only [List.nil_append, List.cons_append, List.append_nil]
    try k_fold
    k_dflt (refine' Does.use1 (key_drawn_does w fa us9 c9 _ hf9) ?P1 ?uB ?uF ?uX ?uN ?un ?uT ?uk ?uL ?ud ?uu ?_; (case uN => k_asm); (case P1 => allgen_close2_more); (case uB => k_asm); (case uF => k_asm); (case uX => k_asm); (case un => first | assumption | kat_tups); (case uT => k_asm); (case uk => rfl); (case uL => rfl); (case ud => ktr_room); (case uu => tlg_ne)); intro r' chg' add' h' tk' F' N' nod' young' post'
    refine with_goal fun X79 hX79 => ?_
    refine ex_4 (post') ?_
    (try clear post')
    intro a k us8 c8 q9o
    refine an_4 q9o ?_
    clear q9o
    intro r9q
    subst r9q
    intro r9q
    subst r9q
    intro hf8
    intro hki
    refine hX79 ?_
    simp only [List.cons_append, List.nil_append] at N' nod'
    k_steps
    refine' CEnd.intro ((fa, listOf us8.toArray c8) :: ((add' ++ A) ++ [(L + 1 + 1 + 1 + 1 + 1, oW), (L + 1 + 1 + 1 + 1, oP), (L + 1 + 1 + 1, oS), (L + 1 + 1, oK), (L + 1, oF2)])) _ F' N' ?sub ?hn ⟨us8, c8, add' ++ A, ks ++ [k], rfl, hf8, All2.append (All2.mono (fun _ _ q => KeyIn.mono (fun p hp => List.mem_append_right _ hp) q) hks) (.one (KeyIn.mono (fun p hp => List.mem_append_left _ hp) hki)), ?ln⟩
    case sub => (first | exact fun p hp => hp | ((repeat' (first | refine fa_app ?_ ?_ | refine fa_cons ?_ ?_ | refine List.forall_mem_append.mpr ⟨?_, ?_⟩ | refine List.forall_mem_cons.mpr ⟨?_, ?_⟩)) <;> (first | exact List.forall_mem_nil _ | (intro p9 hp9; kp_flats) | kp_flats)))
    case hn => (first | assumption | (refine nod_of_count (by assumption) (fun a9 => ?_); (try simp only [List.cons_append, List.nil_append, List.map_append, List.map_cons, List.map_nil, List.count_append, List.count_cons, List.count_nil]); omega))
    case ln => rw [List.length_append, hkl]; rfl
  case fin =>
    rintro ys nx D h tk ⟨us9, c9, A, ks, rfl, hf9, hks, hkl⟩ F₁ N₁ hn₁
    dsimp only
    clear hfg hf2 kN2 kN hfig nod'
    have N3 : News h₀ L h ((D, LCg.lst ys) :: (fa, listOf us9.toArray c9) :: (L + 1 + 1 + 1 + 1 + 1, oW) :: (L + 1 + 1 + 1 + 1, oP) :: (L + 1 + 1 + 1, oS) :: (L + 1 + 1, oK) :: (L + 1, oF2) :: A) := by
      refine kst_newsOf N₁ ?_
      (first | exact fun p hp => hp | ((repeat' (first | refine fa_app ?_ ?_ | refine fa_cons ?_ ?_ | refine List.forall_mem_append.mpr ⟨?_, ?_⟩ | refine List.forall_mem_cons.mpr ⟨?_, ?_⟩)) <;> (first | exact List.forall_mem_nil _ | (intro p9 hp9; kp_flats) | kp_flats)))
    have nod3 : Nod ((D, LCg.lst ys) :: (fa, listOf us9.toArray c9) :: (L + 1 + 1 + 1 + 1 + 1, oW) :: (L + 1 + 1 + 1 + 1, oP) :: (L + 1 + 1 + 1, oS) :: (L + 1 + 1, oK) :: (L + 1, oF2) :: A) := by (first | assumption | (refine nod_of_count (by assumption) (fun a9 => ?_); (try simp only [List.cons_append, List.nil_append, List.map_append, List.map_cons, List.map_nil, List.count_append, List.count_cons, List.count_nil]); omega))
    clear N₁ hn₁
    have hnB := nodA.mp nod3
    ((first | refine peelA hnB (by with_reducible ((repeat (first | exact it_nil | (apply it_na) | (apply it_ca) | (apply it_aa) | (apply it_cons) | (apply it_app))); (try exact it_last))) ?_ | refine peelN hnB (by with_reducible ((repeat (first | exact it_nil | (apply it_na) | (apply it_ca) | (apply it_aa) | (apply it_cons) | (apply it_app))); (try exact it_last))) ?_ | refine peelR hnB (by with_reducible ((repeat (first | exact it_nil | (apply it_na) | (apply it_ca) | (apply it_aa) | (apply it_cons) | (apply it_app))); (try exact it_last))) ?_); (repeat (intro hq9)); refine Past.mk ?_)
    k_steps
    refine ⟨?_⟩
    rename _ = Data.cell (some (Value.ref D)) => hKd
    rename Obj => oK2
    rename News h₀ L _ _ => kN4
    rename Fr h₀ L _ _ => kF4
    subst hkl
    refine' law4 w fa D ys us9 ys.length c9 ks oF2 oK2 oS oP oW ((D, LCg.lst ys) :: (L + 1 + 1, oK2) :: (L + 1, oF2) :: A) (1 + _) _ _ hn1 hn4 hFd hKd List.mem_cons_self (All2.mono (fun _ _ q => KeyIn.mono (fun p hp => List.mem_cons_of_mem _ (List.mem_cons_of_mem _ (List.mem_cons_of_mem _ hp))) q) hks) hf9 ⟨_, dS⟩ ⟨_, dP⟩ ⟨_, dW⟩
      ho _ _ _ _ _ _ _ _ _ _ _ _ _ _ _ _ _ rfl B kF4 X ?hN ?hno ⟨List.mem_cons_of_mem _ (List.mem_cons_of_mem _ List.mem_cons_self), List.mem_cons_of_mem _ List.mem_cons_self⟩ (by k_asm) (by omega) (by omega) ?hnm ?hr
    case hnm => first | ((repeat (first | exact fr_nil | refine fr_cons (by rfl) ?_)); done) | (intro p hp; ((repeat (rcases List.mem_cons.mp hp with rfl | hp; (· rfl))); exact absurd hp List.not_mem_nil))
    case hN => exact kst_newsOf kN4 (by (first | exact fun p hp => hp | ((repeat' (first | refine fa_app ?_ ?_ | refine fa_cons ?_ ?_ | refine List.forall_mem_append.mpr ⟨?_, ?_⟩ | refine List.forall_mem_cons.mpr ⟨?_, ?_⟩)) <;> (first | exact List.forall_mem_nil _ | (intro p9 hp9; kp_flats) | kp_flats))))
    case hno => (first | assumption | (refine nod_of_count (by assumption) (fun a9 => ?_); (try simp only [List.cons_append, List.nil_append, List.map_append, List.map_cons, List.map_nil, List.count_append, List.count_cons, List.count_nil]); omega))
    case hr => exact fun m' h' tk' F' => hret m' h' tk' F'

end
end
section
local macro_rules | `(tactic| omega) => `(tactic| first | with_reducible assumption | exact Nat.le_of_lt (by with_reducible assumption) | exact Nat.le_trans (by with_reducible assumption) (by decide) | exact Nat.lt_of_lt_of_le (by with_reducible assumption) (by decide) | exact Nat.lt_of_le_of_lt (by with_reducible assumption) (by decide) | exact Nat.le_trans (Nat.le_of_lt (by with_reducible assumption)) (by decide) | exact Nat.ne_of_lt (by with_reducible assumption) | exact Nat.ne_of_gt (by with_reducible assumption) | exact om_ne1 _ 0 | exact om_ne1 _ 1 | exact om_ne1 _ 2 | exact om_ne1 _ 3 | exact om_ne1 _ 4 | exact om_ne2 _ 0 | exact om_ne2 _ 1 | exact om_ne2 _ 2 | exact om_ne2 _ 3 | exact om_ne2 _ 4)
section
theorem offFinal : True := by
  w_top off
  trivial

theorem fin_test : PySem.Challenge.rw_rh0065_01.Holds := by
  refine Mine.hd ?_
  w_strict (
    k_go0
    (all_goals try k_fold)
    rename IntsAre _ _ => hI9
    rename Heap.IsList _ _ _ => hL9
    rename CellsAre _ _ _ => hY9
    rename Fr _ _ _ _ => hF9
    rename News _ _ _ _ => hN9
    rename Below _ _ _ _ => hB9
    k_dflt (refine' law_body _ ?ho _ _ _ ⟨hI9⟩ ?hl _ _ _ _ _ _ _ _ _ _ _ _ _ _ _ _ _ rfl hB9 hF9 ?hX hL9 hN9 hY9 ?hT ?hd ?hu ?hr)
    (case ho => exact rfl)
    (case hl => omega)
    (case hX => assumption)
    (case hT => assumption)
    (case hd => decide)
    (case hu => decide)
    (case hr => intro m8 h8 tk8 F8; k_steps))

end
end
end Mine
set_option maxRecDepth 100000 in
theorem PySem.Challenge.cw_rh0065_01_holds : PySem.Challenge.rw_rh0065_01.Holds :=
  Mine.fin_test
