import PyProof.Rows.All
import Wide.All
import OpenK.AllK
import Wide.FinOn
import HandS.ForMost
import HandS.Exc
import HandS.WordsExc
import HandS.Deep
import HandS.RaiseMore
import HandS.Defaults
import HandS.Ends
import HandS.More
import HandS.Head0
import HandS.Head1
import HandS.Head2
import HandS.HeadEnd
import HandS.HeadHook1
import HandS.HeadHook2
import PySem.Challenge.RW_lostways_k01_names_of_letters
import KE.KxText
set_option Elab.async false
set_option linter.all false
set_option maxRecDepth 100000
set_option maxHeartbeats 4000000
/-! L3, part A: data D, trees T, how they stand in an abstract heap, steps. -/
namespace L3
open PySem PySem.Spec L2
inductive D where
  | non | bl (b : Bool) | int (i : Int) | str (x : Str)
  | tup (ds : List D) | lst (ds : List D) | scr (ds : List D) | dic (kvs : List (D × D)) | ins (c : Str) (fs : List (Str × D))
inductive T where
  | no | vw (t : T) | dat (d : D) | tup (ts : List T) | lst (ts : List T) | dic (kvs : List (D × T)) | ins (c : Str) (fs : List (Str × T))
abbrev Frg := PySem.W.Frag
abbrev MG := Str → Option Value
mutual
inductive DV (K : Frg) (mg : MG) (G : Hp) : V → D → Prop
  | non : DV K mg G .non .non
  | bl (b : Bool) : DV K mg G (.bl b) (.bl b)
  | int (i : Int) : DV K mg G (.int i) (.int i)
  | str (x : Str) : DV K mg G (.str x) (.str x)
  | tup {a : Addr} {vs : List V} {ds : List D} : SqT K G a vs → DVs K mg G vs ds → DV K mg G (.ref a) (.tup ds)
  | lst {a : Addr} {vs : List V} {ds : List D} : G a = some (.lst vs) → DVs K mg G vs ds → DV K mg G (.ref a) (.lst ds)
  | scr {a : Addr} {vs : List V} {ds : List D} : SqL K G a vs → DVs K mg G vs ds → DV K mg G (.ref a) (.scr ds)
  | dic {a : Addr} {vs : List (Key × V)} {ds : List (D × D)} : G a = some (.dK vs) → DVk K mg G vs ds → DV K mg G (.ref a) (.dic ds)
  | ins {a C dx : Addr} {c : Str} {vs : List (Str × V)} {ds : List (Str × D)} : mg c = some (.ref C) → G a = some (.ins C dx vs) → G dx = some (.own a) → DVf K mg G vs ds → DV K mg G (.ref a) (.ins c ds)
inductive DVs (K : Frg) (mg : MG) (G : Hp) : List V → List D → Prop
  | nil : DVs K mg G [] []
  | cons {v : V} {d : D} {vs : List V} {ds : List D} : DV K mg G v d → DVs K mg G vs ds → DVs K mg G (v :: vs) (d :: ds)
inductive DVk (K : Frg) (mg : MG) (G : Hp) : List (Key × V) → List (D × D) → Prop
  | nil : DVk K mg G [] []
  | cons {k : Key} {v : V} {e d : D} {vs : List (Key × V)} {ds : List (D × D)} : DV K mg G (kV k) e → DV K mg G v d → DVk K mg G vs ds → DVk K mg G ((k, v) :: vs) ((e, d) :: ds)
inductive DVf (K : Frg) (mg : MG) (G : Hp) : List (Str × V) → List (Str × D) → Prop
  | nil : DVf K mg G [] []
  | cons {f : Str} {v : V} {d : D} {vs : List (Str × V)} {ds : List (Str × D)} : DV K mg G v d → DVf K mg G vs ds → DVf K mg G ((f, v) :: vs) ((f, d) :: ds)
end
abbrev AS := Addr → Prop
mutual
inductive TV (K : Frg) (mg : MG) (G H : Hp) : V → T → AS → Prop
  | no {v : V} {S : AS} : TV K mg G H v .no S
  | dat {v : V} {d : D} {S : AS} : DV K mg G v d → TV K mg G H v (.dat d) S
  | tup {a : Addr} {vs : List V} {ts : List T} {S S1 : AS} : H a = some (.tup vs) → S a → TVs K mg G H vs ts S1 → (∀ b, S1 b → S b ∧ b ≠ a) → TV K mg G H (.ref a) (.tup ts) S
  | lst {a : Addr} {vs : List V} {ts : List T} {S S1 : AS} : H a = some (.lst vs) → S a → TVs K mg G H vs ts S1 → (∀ b, S1 b → S b ∧ b ≠ a) → TV K mg G H (.ref a) (.lst ts) S
  | dic {a : Addr} {vs : List (Key × V)} {ts : List (D × T)} {S S1 : AS} : H a = some (.dK vs) → S a → TVk K mg G H vs ts S1 → (∀ b, S1 b → S b ∧ b ≠ a) → TV K mg G H (.ref a) (.dic ts) S
  | ins {a C dx : Addr} {c : Str} {vs : List (Str × V)} {ts : List (Str × T)} {S S1 : AS} : mg c = some (.ref C) → H a = some (.ins C dx vs) → H dx = some (.own a) → S a → S dx → TVf K mg G H vs ts S1 →
      (∀ b, S1 b → S b ∧ b ≠ a ∧ b ≠ dx) → TV K mg G H (.ref a) (.ins c ts) S
inductive TVs (K : Frg) (mg : MG) (G H : Hp) : List V → List T → AS → Prop
  | nil {S : AS} : TVs K mg G H [] [] S
  | cons {v : V} {t : T} {vs : List V} {ts : List T} {S S1 S2 : AS} : TV K mg G H v t S1 → TVs K mg G H vs ts S2 → (∀ b, S1 b → S b ∧ ¬ S2 b) → (∀ b, S2 b → S b) → TVs K mg G H (v :: vs) (t :: ts) S
inductive TVk (K : Frg) (mg : MG) (G H : Hp) : List (Key × V) → List (D × T) → AS → Prop
  | nil {S : AS} : TVk K mg G H [] [] S
  | cons {k : Key} {v : V} {e : D} {t : T} {vs : List (Key × V)} {ts : List (D × T)} {S S1 S2 : AS} : DV K mg G (kV k) e → TV K mg G H v t S1 → TVk K mg G H vs ts S2 → (∀ b, S1 b → S b ∧ ¬ S2 b) → (∀ b, S2 b → S b) →
      TVk K mg G H ((k, v) :: vs) ((e, t) :: ts) S
inductive TVf (K : Frg) (mg : MG) (G H : Hp) : List (Str × V) → List (Str × T) → AS → Prop
  | nil {S : AS} : TVf K mg G H [] [] S
  | cons {f : Str} {v : V} {t : T} {vs : List (Str × V)} {ts : List (Str × T)} {S S1 S2 : AS} : TV K mg G H v t S1 → TVf K mg G H vs ts S2 → (∀ b, S1 b → S b ∧ ¬ S2 b) → (∀ b, S2 b → S b) →
      TVf K mg G H ((f, v) :: vs) ((f, t) :: ts) S
end
/-! ### freezing a tree -/
mutual
def T.fz : T → Option D
  | .no => none
  | .vw _ => none
  | .dat d => some d
  | .tup ts => (fzs ts).map .tup
  | .lst ts => (fzs ts).map .lst
  | .dic kvs => (fzk kvs).map .dic
  | .ins c fs => (fzf fs).map (.ins c)
def fzs : List T → Option (List D)
  | [] => some []
  | t :: ts => match t.fz, fzs ts with
    | some d, some ds => some (d :: ds)
    | _, _ => none
def fzk : List (D × T) → Option (List (D × D))
  | [] => some []
  | (k, t) :: ts => match t.fz, fzk ts with
    | some d, some ds => some ((k, d) :: ds)
    | _, _ => none
def fzf : List (Str × T) → Option (List (Str × D))
  | [] => some []
  | (f, t) :: ts => match t.fz, fzf ts with
    | some d, some ds => some ((f, d) :: ds)
    | _, _ => none
end
/-! ### what a tree holds, read in its own heap (a view too) -/
mutual
def T.dz : T → Option D
  | .no => none
  | .vw t => t.dz
  | .dat d => some d
  | .tup ts => (dzs ts).map .tup
  | .lst ts => (dzs ts).map .lst
  | .dic kvs => (dzk kvs).map .dic
  | .ins c fs => (dzf fs).map (.ins c)
def dzs : List T → Option (List D)
  | [] => some []
  | t :: ts => match t.dz, dzs ts with
    | some d, some ds => some (d :: ds)
    | _, _ => none
def dzk : List (D × T) → Option (List (D × D))
  | [] => some []
  | (k, t) :: ts => match t.dz, dzk ts with
    | some d, some ds => some ((k, d) :: ds)
    | _, _ => none
def dzf : List (Str × T) → Option (List (Str × D))
  | [] => some []
  | (f, t) :: ts => match t.dz, dzf ts with
    | some d, some ds => some ((f, d) :: ds)
    | _, _ => none
end
def T.view : T → T
  | .dat d => .dat d
  | .vw t => .vw t
  | t => .vw t
section
variable {K : Frg} {mg : MG} {G G' H H' : Hp}
theorem sqt_same {a : Addr} {xs : List V} (e : Same G G') (h : SqT K G a xs) : SqT K G' a xs := by
  rcases h with (h | ⟨o, h⟩) | h
  · exact .inl (.inl (e _ _ h))
  · exact .inl (.inr ⟨o, e _ _ h⟩)
  · exact .inr h
mutual
theorem DV.mono (e : Same G G') : ∀ {v : V} {d : D}, DV K mg G v d → DV K mg G' v d
  | _, _, .non => .non
  | _, _, .bl b => .bl b
  | _, _, .int i => .int i
  | _, _, .str x => .str x
  | _, _, .tup h r => .tup (sqt_same e h) (DVs.mono e r)
  | _, _, .lst h r => .lst (e _ _ h) (DVs.mono e r)
  | _, _, .scr h r => .scr (e.seq h) (DVs.mono e r)
  | _, _, .dic h r => .dic (e _ _ h) (DVk.mono e r)
  | _, _, .ins m h o r => .ins m (e _ _ h) (e _ _ o) (DVf.mono e r)
theorem DVs.mono (e : Same G G') : ∀ {v : List V} {d : List D}, DVs K mg G v d → DVs K mg G' v d
  | _, _, .nil => .nil
  | _, _, .cons h r => .cons (DV.mono e h) (DVs.mono e r)
theorem DVk.mono (e : Same G G') : ∀ {v : List (Key × V)} {d : List (D × D)}, DVk K mg G v d → DVk K mg G' v d
  | _, _, .nil => .nil
  | _, _, .cons k h r => .cons (DV.mono e k) (DV.mono e h) (DVk.mono e r)
theorem DVf.mono (e : Same G G') : ∀ {v : List (Str × V)} {d : List (Str × D)}, DVf K mg G v d → DVf K mg G' v d
  | _, _, .nil => .nil
  | _, _, .cons h r => .cons (DV.mono e h) (DVf.mono e r)
end
theorem DVs.length : ∀ {v : List V} {d : List D}, DVs K mg G v d → v.length = d.length
  | _, _, .nil => rfl
  | _, _, .cons _ r => congrArg (· + 1) (DVs.length r)
theorem DVs.get : ∀ {v : List V} {d : List D} {i : Nat} {e : D}, DVs K mg G v d → d[i]? = some e → ∃ x, v[i]? = some x ∧ DV K mg G x e
  | _, _, _, _, .nil, h => by simp at h
  | _, _, 0, _, .cons h _, q => by simp at q; subst q; exact ⟨_, rfl, h⟩
  | _, _, i + 1, _, .cons _ r, q => by
    obtain ⟨x, a, b⟩ := DVs.get (i := i) r (by simpa using q)
    exact ⟨x, by simpa using a, b⟩
theorem DVs.get' : ∀ {v : List V} {d : List D} {i : Nat} {x : V}, DVs K mg G v d → v[i]? = some x → ∃ e, d[i]? = some e ∧ DV K mg G x e
  | _, _, _, _, .nil, h => by simp at h
  | _, _, 0, _, .cons h _, q => by simp at q; subst q; exact ⟨_, rfl, h⟩
  | _, _, i + 1, _, .cons _ r, q => by
    obtain ⟨x, a, b⟩ := DVs.get' (i := i) r (by simpa using q)
    exact ⟨x, by simpa using a, b⟩
theorem DVs.append : ∀ {v w : List V} {d e : List D}, DVs K mg G v d → DVs K mg G w e → DVs K mg G (v ++ w) (d ++ e)
  | _, _, _, _, .nil, s => s
  | _, _, _, _, .cons h r, s => .cons h (DVs.append r s)
theorem DVs.take : ∀ (n : Nat) {v : List V} {d : List D}, DVs K mg G v d → DVs K mg G (v.take n) (d.take n)
  | 0, _, _, _ => .nil
  | _ + 1, _, _, .nil => .nil
  | n + 1, _, _, .cons h r => .cons h (DVs.take n r)
theorem DVs.drop : ∀ (n : Nat) {v : List V} {d : List D}, DVs K mg G v d → DVs K mg G (v.drop n) (d.drop n)
  | 0, _, _, h => h
  | _ + 1, _, _, .nil => .nil
  | n + 1, _, _, .cons h r => DVs.drop n r
mutual
/-- a tree stands in another heap that agrees on its own addresses -/
theorem TV.move {S : AS} (e : Same G G') (k : ∀ a o, S a → H a = some o → H' a = some o) : ∀ {v : V} {t : T} {S' : AS}, (∀ a, S' a → S a) → TV K mg G H v t S' → TV K mg G' H' v t S'
  | _, _, _, _, .no => .no
  | _, _, _, _, .dat h => .dat (h.mono e)
  | _, _, _, q, .tup h s r d => .tup (k _ _ (q _ s) h) s (TVs.move e k (fun a z => q a (d a z).1) r) d
  | _, _, _, q, .lst h s r d => .lst (k _ _ (q _ s) h) s (TVs.move e k (fun a z => q a (d a z).1) r) d
  | _, _, _, q, .dic h s r d => .dic (k _ _ (q _ s) h) s (TVk.move e k (fun a z => q a (d a z).1) r) d
  | _, _, _, q, .ins m h o s s2 r d => .ins m (k _ _ (q _ s) h) (k _ _ (q _ s2) o) s s2 (TVf.move e k (fun a z => q a (d a z).1) r) d
theorem TVs.move {S : AS} (e : Same G G') (k : ∀ a o, S a → H a = some o → H' a = some o) : ∀ {v : List V} {t : List T} {S' : AS}, (∀ a, S' a → S a) → TVs K mg G H v t S' → TVs K mg G' H' v t S'
  | _, _, _, _, .nil => .nil
  | _, _, _, q, .cons h r d1 d2 => .cons (TV.move e k (fun a z => q a (d1 a z).1) h) (TVs.move e k (fun a z => q a (d2 a z)) r) d1 d2
theorem TVk.move {S : AS} (e : Same G G') (k : ∀ a o, S a → H a = some o → H' a = some o) : ∀ {v : List (Key × V)} {t : List (D × T)} {S' : AS}, (∀ a, S' a → S a) → TVk K mg G H v t S' → TVk K mg G' H' v t S'
  | _, _, _, _, .nil => .nil
  | _, _, _, q, .cons kk h r d1 d2 => .cons (kk.mono e) (TV.move e k (fun a z => q a (d1 a z).1) h) (TVk.move e k (fun a z => q a (d2 a z)) r) d1 d2
theorem TVf.move {S : AS} (e : Same G G') (k : ∀ a o, S a → H a = some o → H' a = some o) : ∀ {v : List (Str × V)} {t : List (Str × T)} {S' : AS}, (∀ a, S' a → S a) → TVf K mg G H v t S' → TVf K mg G' H' v t S'
  | _, _, _, _, .nil => .nil
  | _, _, _, q, .cons h r d1 d2 => .cons (TV.move e k (fun a z => q a (d1 a z).1) h) (TVf.move e k (fun a z => q a (d2 a z)) r) d1 d2
end
mutual
theorem TV.weak : ∀ {v : V} {t : T} {S S' : AS}, (∀ a, S a → S' a) → TV K mg G H v t S → TV K mg G H v t S'
  | _, _, _, _, _, .no => .no
  | _, _, _, _, _, .dat h => .dat h
  | _, _, _, _, q, .tup h s r d => .tup h (q _ s) r fun b z => ⟨q b (d b z).1, (d b z).2⟩
  | _, _, _, _, q, .lst h s r d => .lst h (q _ s) r fun b z => ⟨q b (d b z).1, (d b z).2⟩
  | _, _, _, _, q, .dic h s r d => .dic h (q _ s) r fun b z => ⟨q b (d b z).1, (d b z).2⟩
  | _, _, _, _, q, .ins m h o s s2 r d => .ins m h o (q _ s) (q _ s2) r fun b z => ⟨q b (d b z).1, (d b z).2⟩
theorem TVs.weak : ∀ {v : List V} {t : List T} {S S' : AS}, (∀ a, S a → S' a) → TVs K mg G H v t S → TVs K mg G H v t S'
  | _, _, _, _, _, .nil => .nil
  | _, _, _, _, q, .cons h r d1 d2 => .cons h r (fun b z => ⟨q b (d1 b z).1, (d1 b z).2⟩) fun b z => q b (d2 b z)
end
theorem TVf.weak {v : List (Str × V)} {t : List (Str × T)} {S S' : AS} (q : ∀ a, S a → S' a) (h : TVf K mg G H v t S) : TVf K mg G H v t S' := by
  cases h with
  | nil => exact .nil
  | cons h r d1 d2 => exact .cons h r (fun b z => ⟨q b (d1 b z).1, (d1 b z).2⟩) fun b z => q b (d2 b z)
theorem TVk.weak {v : List (Key × V)} {t : List (D × T)} {S S' : AS} (q : ∀ a, S a → S' a) (h : TVk K mg G H v t S) : TVk K mg G H v t S' := by
  cases h with
  | nil => exact .nil
  | cons k h r d1 d2 => exact .cons k h r (fun b z => ⟨q b (d1 b z).1, (d1 b z).2⟩) fun b z => q b (d2 b z)
theorem TVs.length : ∀ {v : List V} {t : List T} {S : AS}, TVs K mg G H v t S → v.length = t.length
  | _, _, _, .nil => rfl
  | _, _, _, .cons _ r _ _ => congrArg (· + 1) (TVs.length r)
mutual
/-- a frozen tree is data of any ghost that has its addresses -/
theorem TV.data (e : Same G G') {S : AS} (k : ∀ a o, S a → H a = some o → G' a = some o) : ∀ {v : V} {t : T} {S' : AS} {d : D}, (∀ a, S' a → S a) → TV K mg G H v t S' → t.fz = some d → DV K mg G' v d
  | _, _, _, _, _, .no, z => by simp [T.fz] at z
  | _, _, _, _, _, .dat h, z => by simp [T.fz] at z; subst z; exact h.mono e
  | _, .tup ts, _, d, q, .tup h s r dd, z => by
    simp only [T.fz] at z
    cases y : fzs ts with
    | none => rw [y] at z; cases z
    | some ds => rw [y] at z; cases z; exact .tup (.inl (.inl (k _ _ (q _ s) h))) (TVs.data e k (fun a w => q a (dd a w).1) r y)
  | _, .lst ts, _, d, q, .lst h s r dd, z => by
    simp only [T.fz] at z
    cases y : fzs ts with
    | none => rw [y] at z; cases z
    | some ds => rw [y] at z; cases z; exact .lst (k _ _ (q _ s) h) (TVs.data e k (fun a w => q a (dd a w).1) r y)
  | _, .dic ts, _, d, q, .dic h s r dd, z => by
    simp only [T.fz] at z
    cases y : fzk ts with
    | none => rw [y] at z; cases z
    | some ds => rw [y] at z; cases z; exact .dic (k _ _ (q _ s) h) (TVk.data e k (fun a w => q a (dd a w).1) r y)
  | _, .ins c ts, _, d, q, .ins m h o s s2 r dd, z => by
    simp only [T.fz] at z
    cases y : fzf ts with
    | none => rw [y] at z; cases z
    | some ds => rw [y] at z; cases z; exact .ins m (k _ _ (q _ s) h) (k _ _ (q _ s2) o) (TVf.data e k (fun a w => q a (dd a w).1) r y)
theorem TVs.data (e : Same G G') {S : AS} (k : ∀ a o, S a → H a = some o → G' a = some o) : ∀ {v : List V} {t : List T} {S' : AS} {d : List D}, (∀ a, S' a → S a) → TVs K mg G H v t S' → fzs t = some d → DVs K mg G' v d
  | _, _, _, _, _, .nil, z => by simp [fzs] at z; subst z; exact .nil
  | _, t :: ts, _, _, q, .cons h r d1 d2, z => by
    simp only [fzs] at z
    cases y : t.fz with
    | none => rw [y] at z; cases z
    | some a =>
      cases x : fzs ts with
      | none => rw [y, x] at z; cases z
      | some b =>
        rw [y, x] at z; cases z
        exact .cons (TV.data e k (fun a w => q a (d1 a w).1) h y) (TVs.data e k (fun a w => q a (d2 a w)) r x)
theorem TVk.data (e : Same G G') {S : AS} (k : ∀ a o, S a → H a = some o → G' a = some o) : ∀ {v : List (Key × V)} {t : List (D × T)} {S' : AS} {d : List (D × D)}, (∀ a, S' a → S a) → TVk K mg G H v t S' → fzk t = some d → DVk K mg G' v d
  | _, _, _, _, _, .nil, z => by simp [fzk] at z; subst z; exact .nil
  | _, (_, t) :: ts, _, _, q, .cons kk h r d1 d2, z => by
    simp only [fzk] at z
    cases y : t.fz with
    | none => rw [y] at z; cases z
    | some a =>
      cases x : fzk ts with
      | none => rw [y, x] at z; cases z
      | some b =>
        rw [y, x] at z; cases z
        exact .cons (kk.mono e) (TV.data e k (fun a w => q a (d1 a w).1) h y) (TVk.data e k (fun a w => q a (d2 a w)) r x)
theorem TVf.data (e : Same G G') {S : AS} (k : ∀ a o, S a → H a = some o → G' a = some o) : ∀ {v : List (Str × V)} {t : List (Str × T)} {S' : AS} {d : List (Str × D)}, (∀ a, S' a → S a) → TVf K mg G H v t S' → fzf t = some d → DVf K mg G' v d
  | _, _, _, _, _, .nil, z => by simp [fzf] at z; subst z; exact .nil
  | _, (_, t) :: ts, _, _, q, .cons h r d1 d2, z => by
    simp only [fzf] at z
    cases y : t.fz with
    | none => rw [y] at z; cases z
    | some a =>
      cases x : fzf ts with
      | none => rw [y, x] at z; cases z
      | some b =>
        rw [y, x] at z; cases z
        exact .cons (TV.data e k (fun a w => q a (d1 a w).1) h y) (TVf.data e k (fun a w => q a (d2 a w)) r x)
end
end
section
variable {K : Frg} {mg : MG} {P : AS} {G H : Hp}
mutual
theorem TV.dataH (e : Same G H) : ∀ {v : V} {t : T} {S' : AS} {d : D}, TV K mg G H v t S' → t.dz = some d → DV K mg H v d
  | _, _, _, _, .no, z => by simp [T.dz] at z
  | _, _, _, _, .dat h, z => by simp [T.dz] at z; subst z; exact h.mono e
  | _, .tup ts, _, d, .tup h s r dd, z => by
    simp only [T.dz] at z
    cases y : dzs ts with
    | none => rw [y] at z; cases z
    | some ds => rw [y] at z; cases z; exact .tup (.inl (.inl h)) (TVs.dataH e r y)
  | _, .lst ts, _, d, .lst h s r dd, z => by
    simp only [T.dz] at z
    cases y : dzs ts with
    | none => rw [y] at z; cases z
    | some ds => rw [y] at z; cases z; exact .lst h (TVs.dataH e r y)
  | _, .dic ts, _, d, .dic h s r dd, z => by
    simp only [T.dz] at z
    cases y : dzk ts with
    | none => rw [y] at z; cases z
    | some ds => rw [y] at z; cases z; exact .dic h (TVk.dataH e r y)
  | _, .ins c ts, _, d, .ins m h o s s2 r dd, z => by
    simp only [T.dz] at z
    cases y : dzf ts with
    | none => rw [y] at z; cases z
    | some ds => rw [y] at z; cases z; exact .ins m h o (TVf.dataH e r y)
theorem TVs.dataH (e : Same G H) : ∀ {v : List V} {t : List T} {S' : AS} {d : List D}, TVs K mg G H v t S' → dzs t = some d → DVs K mg H v d
  | _, _, _, _, .nil, z => by simp [dzs] at z; subst z; exact .nil
  | _, t :: ts, _, _, .cons h r d1 d2, z => by
    simp only [dzs] at z
    cases y : t.dz with
    | none => rw [y] at z; cases z
    | some a =>
      cases x : dzs ts with
      | none => rw [y, x] at z; cases z
      | some b =>
        rw [y, x] at z; cases z
        exact .cons (TV.dataH e h y) (TVs.dataH e r x)
theorem TVk.dataH (e : Same G H) : ∀ {v : List (Key × V)} {t : List (D × T)} {S' : AS} {d : List (D × D)}, TVk K mg G H v t S' → dzk t = some d → DVk K mg H v d
  | _, _, _, _, .nil, z => by simp [dzk] at z; subst z; exact .nil
  | _, (_, t) :: ts, _, _, .cons kk h r d1 d2, z => by
    simp only [dzk] at z
    cases y : t.dz with
    | none => rw [y] at z; cases z
    | some a =>
      cases x : dzk ts with
      | none => rw [y, x] at z; cases z
      | some b =>
        rw [y, x] at z; cases z
        exact .cons (kk.mono e) (TV.dataH e h y) (TVk.dataH e r x)
theorem TVf.dataH (e : Same G H) : ∀ {v : List (Str × V)} {t : List (Str × T)} {S' : AS} {d : List (Str × D)}, TVf K mg G H v t S' → dzf t = some d → DVf K mg H v d
  | _, _, _, _, .nil, z => by simp [dzf] at z; subst z; exact .nil
  | _, (_, t) :: ts, _, _, .cons h r d1 d2, z => by
    simp only [dzf] at z
    cases y : t.dz with
    | none => rw [y] at z; cases z
    | some a =>
      cases x : dzf ts with
      | none => rw [y, x] at z; cases z
      | some b =>
        rw [y, x] at z; cases z
        exact .cons (TV.dataH e h y) (TVf.dataH e r x)
end
/-- what a slot or a place shows: a tree, or a view -/
inductive VV (K : Frg) (mg : MG) (P : AS) (G H : Hp) : V → T → AS → Prop
  | own {v : V} {t : T} {S : AS} : TV K mg G H v t S → VV K mg P G H v t S
  | vw {v : V} {t : T} {S S1 : AS} : TV K mg G H v t S1 → (∀ b, S1 b → P b) → VV K mg P G H v (.vw t) S
theorem VV.dataH (e : Same G H) {v : V} {t : T} {S' : AS} {d : D} (h : VV K mg P G H v t S') (z : t.dz = some d) : DV K mg H v d := by
  cases h with
  | own h => exact h.dataH e z
  | vw h _ => exact h.dataH e (by simpa [T.dz] using z)
theorem TV.view {v : V} {t : T} {S1 S : AS} (h : TV K mg G H v t S1) (d : ∀ b, S1 b → P b) : VV K mg P G H v t.view S := by
  cases h with
  | no => exact .vw .no d
  | dat h => exact .own (.dat h)
  | tup a b c e => exact .vw (.tup a b c e) d
  | lst a b c e => exact .vw (.lst a b c e) d
  | dic a b c e => exact .vw (.dic a b c e) d
  | ins a b c e f g i => exact .vw (.ins a b c e f g i) d
theorem VV.weak {v : V} {t : T} {S S' : AS} (q : ∀ a, S a → S' a) (h : VV K mg P G H v t S) : VV K mg P G H v t S' := by
  cases h with
  | own h => exact .own (h.weak q)
  | vw h d => exact .vw h d
theorem VV.move {G' H' : Hp} {S : AS} (e : Same G G') (k : ∀ a o, S a → H a = some o → H' a = some o) (kp : ∀ a o, P a → H a = some o → H' a = some o) {v : V} {t : T} {S' : AS} (q : ∀ a, S' a → S a) (h : VV K mg P G H v t S') : VV K mg P G' H' v t S' := by
  cases h with
  | own h => exact .own (h.move e k q)
  | vw h d => exact .vw (h.move e (S := P) kp d) d
theorem VV.dat_inv {v : V} {d : D} {S : AS} (h : VV K mg P G H v (.dat d) S) : DV K mg G v d := by
  cases h with
  | own h => cases h; assumption
end
/-! ### slots, states, steps -/
abbrev Env := List T
inductive SL (K : Frg) (mg : MG) (P : AS) (G H : Hp) : St → Env → AS → Prop
  | nil {S : AS} : SL K mg P G H [] [] S
  | cons {s : Option V} {t : T} {σ : St} {env : Env} {S S1 S2 : AS} : (t = .no ∨ ∃ v, s = some v ∧ VV K mg P G H v t S1) → SL K mg P G H σ env S2 → (∀ b, S1 b → S b ∧ ¬ S2 b) → (∀ b, S2 b → S b) → SL K mg P G H (s :: σ) (t :: env) S
/-- owned addresses: tracked, not in the ghost -/
def Own (G H : Hp) (S : AS) : Prop := ∀ a, S a → G a = none ∧ ∃ o, H a = some o
structure ES (K : Frg) (mg : MG) (P : AS) (σ : St) (G H : Hp) (env : Env) (S : AS) : Prop where
  sl : SL K mg P G H σ env S
  ge : Same G H
  ow : Own G H S
  pv : ∀ a, P a → ¬ S a ∧ ∃ o, H a = some o
structure Stp (G H : Hp) (S : AS) (G' H' : Hp) (S' : AS) : Prop where
  gg : Same G G'
  keep : ∀ a o, H a = some o → ¬ S a → H' a = some o
  own : ∀ a, S' a → S a ∨ H a = none
  new : ∀ a o, G' a = some o → G a = some o ∨ S a ∨ H a = none
def U (S S' : AS) : AS := fun a => S a ∨ S' a
def N0 : AS := fun _ => False
def Dj (S S' : AS) : Prop := ∀ a, S a → S' a → False
section
variable {K : Frg} {mg : MG} {P : AS} {σ : St} {G H G1 H1 G2 H2 : Hp} {S S1 S2 S3 F : AS} {env : Env} {v : V} {t : T}
theorem Stp.refl (G H : Hp) (S : AS) : Stp G H S G H S := ⟨Same.refl _, fun _ _ h _ => h, fun _ h => .inl h, fun _ _ h => .inl h⟩
theorem Stp.trans (a : Stp G H S G1 H1 S1) (b : Stp G1 H1 S1 G2 H2 S2) : Stp G H S G2 H2 S2 := by
  have back : ∀ x, H1 x = none → S x ∨ H x = none := fun x e => by
    by_cases hs : S x
    · exact .inl hs
    · refine .inr ?_
      cases q : H x with
      | none => rfl
      | some o => rw [a.keep x o q hs] at e; cases e
  have own1 : ∀ x, S1 x ∨ H1 x = none → S x ∨ H x = none := fun x e => e.elim (a.own x) (back x)
  refine ⟨a.gg.trans b.gg, fun x o e n => b.keep x o (a.keep x o e n) fun z => ?_, fun x z => own1 x (b.own x z), fun x o e => ?_⟩
  · rcases a.own x z with q | q
    · exact n q
    · rw [e] at q; cases q
  · rcases b.new x o e with q | q
    · exact a.new x o q
    · exact .inr (own1 x q)
/-- what is hidden from a step stays -/
theorem Stp.frame (a : Stp G H S G1 H1 S1) (hF : Own G H F) (d : Dj F S) : Stp G H (U F S) G1 H1 (U F S1) :=
  ⟨a.gg, fun x o e n => a.keep x o e fun z => n (.inr z), fun x z => z.elim (fun z => .inl (.inl z)) fun z => (a.own x z).elim (fun q => .inl (.inr q)) .inr, fun x o e => (a.new x o e).elim .inl fun q => q.elim (fun q => .inr (.inl (.inr q))) fun q => .inr (.inr q)⟩
theorem Stp.less (a : Stp G H S G1 H1 S1) (h : ∀ x, S2 x → S1 x) : Stp G H S G1 H1 S2 := ⟨a.gg, a.keep, fun x z => a.own x (h x z), a.new⟩
theorem Own.stp (a : Stp G H S G1 H1 S1) (hF : Own G H F) (d : Dj F S) : Own G1 H1 F := fun x z => by
  obtain ⟨g, o, e⟩ := hF x z
  refine ⟨?_, o, a.keep x o e fun q => d x z q⟩
  cases q : G1 x with
  | none => rfl
  | some u =>
    rcases a.new x u q with w | w | w
    · rw [g] at w; cases w
    · exact (d x z w).elim
    · rw [e] at w; cases w
theorem Dj.stp (a : Stp G H S G1 H1 S1) (hF : Own G H F) (d : Dj F S) : Dj F S1 := fun x z w => by
  obtain ⟨g, o, e⟩ := hF x z
  rcases a.own x w with q | q
  · exact d x z q
  · rw [e] at q; cases q
theorem TV.stp (a : Stp G H S G1 H1 S1) (d : Dj F S) (h : TV K mg G H v t F) : TV K mg G1 H1 v t F := TV.move (S := F) a.gg (fun x o z e => a.keep x o e fun q => d x z q) (fun _ z => z) h
theorem TVs.stp {vs : List V} {ts : List T} (a : Stp G H S G1 H1 S1) (d : Dj F S) (h : TVs K mg G H vs ts F) : TVs K mg G1 H1 vs ts F := TVs.move (S := F) a.gg (fun x o z e => a.keep x o e fun q => d x z q) (fun _ z => z) h
theorem ES.dp (h : ES K mg P σ G H env S) : Dj P S := fun a z => (h.pv a z).1
theorem SL.move {S : AS} (e : Same G G1) (k : ∀ a o, S a → H a = some o → H1 a = some o) (kp : ∀ a o, P a → H a = some o → H1 a = some o) : ∀ {σ : St} {env : Env} {S' : AS}, (∀ a, S' a → S a) → SL K mg P G H σ env S' → SL K mg P G1 H1 σ env S'
  | _, _, _, _, .nil => .nil
  | _, _, _, q, .cons h r d1 d2 => .cons (h.imp id fun ⟨v, e1, h⟩ => ⟨v, e1, h.move e k kp fun a z => q a (d1 a z).1⟩) (SL.move e k kp (fun a z => q a (d2 a z)) r) d1 d2
theorem SL.weak : ∀ {σ : St} {env : Env} {S S' : AS}, (∀ a, S a → S' a) → SL K mg P G H σ env S → SL K mg P G H σ env S'
  | _, _, _, _, _, .nil => .nil
  | _, _, _, _, q, .cons h r d1 d2 => .cons h r (fun b z => ⟨q b (d1 b z).1, (d1 b z).2⟩) fun b z => q b (d2 b z)
theorem SL.length : ∀ {σ : St} {env : Env} {S : AS}, SL K mg P G H σ env S → σ.length = env.length
  | _, _, _, .nil => rfl
  | _, _, _, .cons _ r _ _ => congrArg (· + 1) (SL.length r)
theorem SL.get : ∀ {σ : St} {env : Env} {S : AS} {i : Nat} {t : T}, SL K mg P G H σ env S → env[i]? = some t → t ≠ .no → ∃ v, σ[i]? = some (some v) ∧ VV K mg P G H v t S
  | _, _, _, _, _, .nil, h, _ => by simp at h
  | _, _, _, 0, _, .cons h _ d _, q, n => by
    simp at q; subst q
    rcases h with h | ⟨v, e, h⟩
    · exact absurd h n
    · exact ⟨v, by rw [e]; rfl, h.weak fun b z => (d b z).1⟩
  | _, _, _, i + 1, _, .cons _ r _ d, q, n => by
    obtain ⟨v, a, b⟩ := SL.get (i := i) r (by simpa using q) n
    exact ⟨v, by simpa using a, b.weak d⟩
/-- a slot's tree apart from the others -/
theorem SL.take : ∀ {σ : St} {env : Env} {S : AS} {i : Nat} {t : T}, SL K mg P G H σ env S → env[i]? = some t → t ≠ .no → ∃ v S1 S2, σ[i]? = some (some v) ∧ VV K mg P G H v t S1 ∧ SL K mg P G H σ (env.set i .no) S2 ∧ Dj S1 S2 ∧ (∀ b, S1 b → S b) ∧ ∀ b, S2 b → S b
  | _, _, _, _, _, .nil, h, _ => by simp at h
  | _, _, _, 0, _, .cons (S1 := S1) (S2 := S2) h r d1 d2, q, n => by
    simp at q; subst q
    rcases h with h | ⟨v, e, h⟩
    · exact absurd h n
    · exact ⟨v, S1, S2, by rw [e]; rfl, h, .cons (S1 := N0) (.inl rfl) r (fun b z => z.elim) fun b z => z, fun b z w => (d1 b z).2 w, fun b z => (d1 b z).1, d2⟩
  | _, _, _, i + 1, _, .cons (S1 := S0) (S2 := S') h r d1 d2, q, n => by
    obtain ⟨v, S1, S2, a, b, c, d, e1, e2⟩ := SL.take (i := i) r (by simpa using q) n
    refine ⟨v, S1, U S0 S2, by simpa using a, b, .cons (S1 := S0) (S2 := S2) h c (fun x z => ⟨.inl z, fun w => (d1 x z).2 (e2 x w)⟩) (fun x z => .inr z), fun x z w => ?_, fun x z => d2 x (e1 x z), fun x z => z.elim (fun z => (d1 x z).1) fun z => d2 x (e2 x z)⟩
    rcases w with w | w
    · exact (d1 x w).2 (e1 x z)
    · exact d x z w
/-- a tree put into a slot (the value stands there) -/
theorem SL.put : ∀ {σ : St} {env : Env} {S S' : AS} {i : Nat} {s : Option V} {t : T}, SL K mg P G H σ env S → (t = .no ∨ ∃ v, s = some v ∧ VV K mg P G H v t S') → Dj S' S → SL K mg P G H (σ.set i s) (env.set i t) (U S' S)
  | _, _, _, _, _, _, _, .nil, _, _ => .nil
  | _, _, _, S', 0, _, _, .cons (S2 := S2) h r d1 d2, q, d => .cons (S1 := S') (S2 := S2) q r (fun b z => ⟨.inl z, fun w => d b z (d2 b w)⟩) fun b z => .inr (d2 b z)
  | _, _, _, S', i + 1, _, _, .cons (S1 := S1) (S2 := S2) h r d1 d2, q, d => .cons (S1 := S1) (S2 := U S' S2) h (SL.put (i := i) r q fun b z w => d b z (d2 b w)) (fun b z => ⟨.inr (d1 b z).1, fun w => w.elim (fun w => d b w (d1 b z).1) fun w => (d1 b z).2 w⟩)
      fun b z => z.elim .inl fun z => .inr (d2 b z)
end
theorem set_same {α : Type} : ∀ {l : List α} {i : Nat} {x : α}, l[i]? = some x → l.set i x = l
  | [], _, _, h => by simp at h
  | a :: l, 0, x, h => by simp at h; subst h; rfl
  | a :: l, i + 1, x, h => by
    show a :: l.set i x = a :: l
    rw [set_same (by simpa using h)]
end L3
/-! L3, part B: semantic functions and their judgements. -/
namespace L3
open PySem PySem.Spec L2
structure Exc where
  c : Str
  fs : List (Str × D)
inductive R (α : Type) where
  | stuck | ok (a : α) (env : Env) | exc (x : Exc) (env : Env)
def R.bind {α β : Type} (r : R α) (k : α → Env → R β) : R β := match r with
  | .ok a env => k a env
  | .exc x env => .exc x env
  | .stuck => .stuck
abbrev FP := Env → Option T
abbrev FT := Env → R T
abbrev FB := Env → R Bool
/-- data of a tree -/
def fzR (t : T) (env : Env) : R D := match t.fz with
  | some d => .ok d env
  | none => .stuck
def opt {α : Type} (o : Option α) (env : Env) : R α := match o with
  | some a => .ok a env
  | none => .stuck
def dfz (f : FT) : Env → R D := fun env => (f env).bind fzR
/-- an exception: class and fields -/
def EV (K : Frg) (mg : MG) (G : Hp) (cls : Value) (dx : Option Addr) (x : Exc) : Prop :=
  ∃ C d vs, cls = .ref C ∧ mg x.c = some (.ref C) ∧ dx = some d ∧ G d = some (.xd vs) ∧ DVf K mg G vs x.fs
section
variable (K : Frg) (mg : MG)
structure Got (P : AS) (σ : L2.St) (G H : Hp) (S : AS) (v : V) (t : T) (env' : Env) (G' H' : Hp) (S1 S2 : AS) : Prop where
  tv : TV K mg G' H' v t S1
  es : ES K mg P σ G' H' env' S2
  ow : Own G' H' S1
  dj : Dj S1 S2
  st : Stp G H S G' H' (U S1 S2)
structure GotD (P : AS) (σ : L2.St) (G H : Hp) (S : AS) (v : V) (d : D) (env' : Env) (G' H' : Hp) (S' : AS) : Prop where
  dv : DV K mg G' v d
  es : ES K mg P σ G' H' env' S'
  st : Stp G H S G' H' S'
/-- an exception is in the air: what is wanted -/
def CX3 (W : WX) (P : AS) (σ : L2.St) (G H : Hp) (S : AS) (x : Exc) (env' : Env) : Prop :=
  ∀ cls dx G' H' S', EV K mg G' cls dx x → ES K mg P σ G' H' env' S' → Stp G H S G' H' S' → W cls dx σ H'
def CT (W : WX) (P : AS) (σ : L2.St) (G H : Hp) (S : AS) (r : R T) (Q : VK) : Prop := match r with
  | .ok t env' => ∀ v G' H' S1 S2, Got K mg P σ G H S v t env' G' H' S1 S2 → Q v H'
  | .exc x env' => CX3 K mg W P σ G H S x env'
  | .stuck => False
def CB (W : WX) (P : AS) (σ : L2.St) (G H : Hp) (S : AS) (r : R Bool) (Q : Bool → Hp → Prop) : Prop := match r with
  | .ok b env' => ∀ G' H' S', ES K mg P σ G' H' env' S' → Stp G H S G' H' S' → Q b H'
  | .exc x env' => CX3 K mg W P σ G H S x env'
  | .stuck => False
end
section
variable (X : Cx)
def tP (p : FP) : TE := fun σ H Q => ∃ env P G S, ES X.K X.mg P σ G H env S ∧ ∃ t, p env = some t ∧ ∀ v, VV X.K X.mg P G H v t S → Q v H
def tT (W : WX) (f : FT) : TE := fun σ H Q => ∃ env P G S, ES X.K X.mg P σ G H env S ∧ CT X.K X.mg W P σ G H S (f env) Q
def tB (W : WX) (f : FB) : TT := fun σ H Q => ∃ env P G S, ES X.K X.mg P σ G H env S ∧ CB X.K X.mg W P σ G H S (f env) Q
end
structure POk (X : Cx) (e : Expr) (p : FP) : Prop where
  pe : PE X e (tP X p)
structure TOk (X : Cx) (W : WX) (e : Expr) (f : FT) : Prop where
  pe : PE X e (tT X W f)
structure BOk (X : Cx) (W : WX) (e : Expr) (f : FB) : Prop where
  pt : PT X e (tB X W f)
theorem peW {X : Cx} {e : Expr} {t t' : TE} (h : PE X e t) (w : ∀ σ H Q, t' σ H Q → t σ H Q) : PE X e t' := ⟨fun pins s σ H Q I q => h.run pins s σ H Q I (w σ H Q q)⟩
theorem ptW {X : Cx} {e : Expr} {t t' : TT} (h : PT X e t) (w : ∀ σ H Q, t' σ H Q → t σ H Q) : PT X e t' := ⟨fun pins s σ H Q I q => h.run pins s σ H Q I (w σ H Q q)⟩
theorem paW {X : Cx} {e : List Expr} {t t' : TA} (h : PA X e t) (w : ∀ σ H Q, t' σ H Q → t σ H Q) : PA X e t' := ⟨fun pos pins s σ H Q I q => h.run pos pins s σ H Q I (w σ H Q q)⟩
theorem psW {X : Cx} {e : Stmt} {t t' : TS} (h : PS X e t) (w : ∀ D σ H, t' D σ H → t D σ H) : PS X e t' := ⟨fun pins s σ H D I q => h.run pins s σ H D I (w D σ H q)⟩
theorem pssW {X : Cx} {e : List Stmt} {t t' : TS} (h : PSs X e t) (w : ∀ D σ H, t' D σ H → t D σ H) : PSs X e t' := ⟨fun pins s σ H D I q => h.run pins s σ H D I (w D σ H q)⟩
section
variable {X : Cx} {W : WX} {σ : L2.St} {P : AS} {G H G1 H1 G2 H2 : Hp} {S S1 S2 S3 F : AS} {env env1 : Env} {Q : VK} {v : V} {t : T} {d : D}
theorem CX3.base {x : Exc} (a : Stp G H S G1 H1 S1) (h : CX3 X.K X.mg W P σ G H S x env) : CX3 X.K X.mg W P σ G1 H1 S1 x env := fun cls dx G' H' S' e1 e2 e3 => h cls dx G' H' S' e1 e2 (a.trans e3)
theorem CT.base {r : R T} (a : Stp G H S G1 H1 S1) (h : CT X.K X.mg W P σ G H S r Q) : CT X.K X.mg W P σ G1 H1 S1 r Q := by
  cases r with
  | stuck => exact h
  | exc x e => exact CX3.base a h
  | ok t e => exact fun v G' H' S1' S2' g => h v G' H' S1' S2' ⟨g.tv, g.es, g.ow, g.dj, a.trans g.st⟩
theorem CB.base {r : R Bool} {Q : Bool → Hp → Prop} (a : Stp G H S G1 H1 S1) (h : CB X.K X.mg W P σ G H S r Q) : CB X.K X.mg W P σ G1 H1 S1 r Q := by
  cases r with
  | stuck => exact h
  | exc x e => exact CX3.base a h
  | ok t e => exact fun G' H' S' g1 g2 => h G' H' S' g1 (a.trans g2)
theorem Got.base (a : Stp G H S G1 H1 S1) {S4 S5 : AS} (g : Got X.K X.mg P σ G1 H1 S1 v t env G2 H2 S4 S5) : Got X.K X.mg P σ G H S v t env G2 H2 S4 S5 := ⟨g.tv, g.es, g.ow, g.dj, a.trans g.st⟩
/-- THE FREEZE: a tree becomes data -/
theorem freeze (g : Got X.K X.mg P σ G H S v t env1 G1 H1 S1 S2) (e : t.fz = some d) : ∃ G', GotD X.K X.mg P σ G H S v d env1 G' H1 S2 := by
  classical
  let G' : Hp := fun a => if S1 a then H1 a else G1 a
  have gy : ∀ a, S1 a → G' a = H1 a := fun a z => if_pos z
  have gn : ∀ a, ¬ S1 a → G' a = G1 a := fun a z => if_neg z
  have gg : Same G1 G' := fun a o q => by
    have n : ¬ S1 a := fun z => by rw [(g.ow a z).1] at q; cases q
    rw [gn a n]; exact q
  refine ⟨G', TV.data gg (S := S1) (fun a o z q => by rw [gy a z]; exact q) (fun _ z => z) g.tv e, ⟨g.es.sl.move gg (S := S2) (fun a o _ q => q) (fun a o _ q => q) fun _ z => z, fun a o q => ?_, fun a z => ⟨?_, (g.es.ow a z).2⟩, g.es.pv⟩, ⟨g.st.gg.trans gg, g.st.keep, fun a z => g.st.own a (.inr z), fun a o q => ?_⟩⟩
  · by_cases z : S1 a
    · rw [gy a z] at q; exact q
    · rw [gn a z] at q; exact g.es.ge a o q
  · rw [gn a fun w => g.dj a w z]; exact (g.es.ow a z).1
  · by_cases z : S1 a
    · exact .inr (g.st.own a (.inl z))
    · rw [gn a z] at q; exact g.st.new a o q
/-- a part is evaluated, then the rest -/
theorem tT_bind {fa : FT} {k : T → Env → R T} {R : V → Hp → Prop} (st : ES X.K X.mg P σ G H env S) (h : CT X.K X.mg W P σ G H S ((fa env).bind k) Q)
    (hk : ∀ t env1 v G1 H1 S1 S2, Got X.K X.mg P σ G H S v t env1 G1 H1 S1 S2 → CT X.K X.mg W P σ G H S (k t env1) Q → R v H1) : tT X W fa σ H R := by
  refine ⟨env, P, G, S, st, ?_⟩
  cases e : fa env with
  | stuck => rw [e] at h; exact h
  | exc x e1 => rw [e] at h; exact h
  | ok t e1 => rw [e] at h; exact fun v G' H' S1 S2 g => hk t e1 v G' H' S1 S2 g h
theorem tT_bindB {fa : FT} {k : T → Env → R Bool} {Q : Bool → Hp → Prop} {R : V → Hp → Prop} (st : ES X.K X.mg P σ G H env S) (h : CB X.K X.mg W P σ G H S ((fa env).bind k) Q)
    (hk : ∀ t env1 v G1 H1 S1 S2, Got X.K X.mg P σ G H S v t env1 G1 H1 S1 S2 → CB X.K X.mg W P σ G H S (k t env1) Q → R v H1) : tT X W fa σ H R := by
  refine ⟨env, P, G, S, st, ?_⟩
  cases e : fa env with
  | stuck => rw [e] at h; exact h
  | exc x e1 => rw [e] at h; exact h
  | ok t e1 => rw [e] at h; exact fun v G' H' S1 S2 g => hk t e1 v G' H' S1 S2 g h
theorem tB_bind {fa : FB} {k : Bool → Env → R T} {R : Bool → Hp → Prop} (st : ES X.K X.mg P σ G H env S) (h : CT X.K X.mg W P σ G H S ((fa env).bind k) Q)
    (hk : ∀ t env1 G1 H1 S1, ES X.K X.mg P σ G1 H1 env1 S1 → Stp G H S G1 H1 S1 → CT X.K X.mg W P σ G1 H1 S1 (k t env1) Q → R t H1) : tB X W fa σ H R := by
  refine ⟨env, P, G, S, st, ?_⟩
  cases e : fa env with
  | stuck => rw [e] at h; exact h
  | exc x e1 => rw [e] at h; exact h
  | ok t e1 => rw [e] at h; exact fun G' H' S1 g1 g2 => hk t e1 G' H' S1 g1 g2 (CT.base g2 h)
theorem tB_bindB {fa : FB} {k : Bool → Env → R Bool} {Q R : Bool → Hp → Prop} (st : ES X.K X.mg P σ G H env S) (h : CB X.K X.mg W P σ G H S ((fa env).bind k) Q)
    (hk : ∀ t env1 G1 H1 S1, ES X.K X.mg P σ G1 H1 env1 S1 → Stp G H S G1 H1 S1 → CB X.K X.mg W P σ G1 H1 S1 (k t env1) Q → R t H1) : tB X W fa σ H R := by
  refine ⟨env, P, G, S, st, ?_⟩
  cases e : fa env with
  | stuck => rw [e] at h; exact h
  | exc x e1 => rw [e] at h; exact h
  | ok t e1 => rw [e] at h; exact fun G' H' S1 g1 g2 => hk t e1 G' H' S1 g1 g2 (CB.base g2 h)
/-- .. and frozen -/
theorem tT_bindD {fa : FT} {k : D → Env → R T} {R : V → Hp → Prop} (st : ES X.K X.mg P σ G H env S) (h : CT X.K X.mg W P σ G H S ((dfz fa env).bind k) Q)
    (hk : ∀ d env1 v G1 H1 S1, GotD X.K X.mg P σ G H S v d env1 G1 H1 S1 → CT X.K X.mg W P σ G1 H1 S1 (k d env1) Q → R v H1) : tT X W fa σ H R := by
  have h' : CT X.K X.mg W P σ G H S ((fa env).bind fun t e => (fzR t e).bind k) Q := by
    unfold dfz at h
    cases e : fa env with
    | stuck => rw [e] at h; exact h
    | exc x e1 => rw [e] at h; exact h
    | ok t e1 => rw [e] at h; exact h
  refine tT_bind st h' fun t env1 v G1 H1 S1 S2 g c => ?_
  unfold fzR at c
  cases e : t.fz with
  | none => rw [e] at c; exact c.elim
  | some d =>
    rw [e] at c
    obtain ⟨G', gd⟩ := freeze g e
    exact hk d env1 v G' H1 S2 gd (CT.base gd.st c)
end
/-! ### operations by values -/
structure Grow (G H G' H' : Hp) : Prop where
  gg : Same G G'
  hh : Same H H'
  ge : Same G' H'
  new : ∀ a o, G' a = some o → G a = some o ∨ H a = none
theorem Grow.refl {G H : Hp} (h : Same G H) : Grow G H G H := ⟨Same.refl _, Same.refl _, h, fun _ _ q => .inl q⟩
structure Res (X : Cx) (P : AS) (G H : Hp) (w : V) (t : T) (G' H' : Hp) (S1 : AS) : Prop where
  gr : Grow G H G' H'
  tv : TV X.K X.mg G' H' w t S1
  fr : ∀ a, S1 a → H a = none ∧ G' a = none ∧ ∃ o, H' a = some o
theorem Res.sc {X : Cx} {P : AS} {G H : Hp} {w : V} {d : D} (h : Same G H) (q : DV X.K X.mg G w d) : Res X P G H w (.dat d) G H N0 := ⟨.refl h, .dat q, fun _ z => z.elim⟩
section
variable {X : Cx} {W : WX} {σ : L2.St} {P : AS} {G H G1 H1 : Hp} {S S1 : AS} {env : Env} {w : V} {t : T}
theorem Grow.es (g : Grow G H G1 H1) (st : ES X.K X.mg P σ G H env S) : ES X.K X.mg P σ G1 H1 env S :=
  ⟨st.sl.move g.gg (S := S) (fun a o _ q => g.hh a o q) (fun a o _ q => g.hh a o q) fun _ z => z, g.ge, fun a z => (by
    obtain ⟨e, o, q⟩ := st.ow a z
    refine ⟨?_, o, g.hh a o q⟩
    cases r : G1 a with
    | none => rfl
    | some u =>
      rcases g.new a u r with w | w
      · rw [e] at w; cases w
      · rw [q] at w; cases w), fun a z => ⟨(st.pv a z).1, (st.pv a z).2.imp fun o q => g.hh a o q⟩⟩
theorem Grow.stp (g : Grow G H G1 H1) : Stp G H S G1 H1 S := ⟨g.gg, fun a o q _ => g.hh a o q, fun _ z => .inl z, fun a o q => (g.new a o q).imp id .inr⟩
theorem Res.got (r : Res X P G H w t G1 H1 S1) (st : ES X.K X.mg P σ G H env S) : Got X.K X.mg P σ G H S w t env G1 H1 S1 S :=
  ⟨r.tv, r.gr.es st, fun a z => (r.fr a z).2, fun a z q => (by
    obtain ⟨_, o, e⟩ := st.ow a q
    rw [(r.fr a z).1] at e; cases e), ⟨r.gr.gg, fun a o q _ => r.gr.hh a o q, fun a z => z.elim (fun z => .inr (r.fr a z).1) .inl, fun a o q => (r.gr.new a o q).imp id .inr⟩⟩
end
def Lk1 (X : Cx) (r : V → Hp → VK → Prop) (g : D → Option T) : Prop := ∀ (P : AS) (G H : Hp) (v : V) (d : D) (t : T) (Q : VK), Same G H → DV X.K X.mg G v d → g d = some t → (∀ w G' H' S1, Res X P G H w t G' H' S1 → Q w H') → r v H Q
def Lk2 (X : Cx) (r : R2) (g : D → D → Option T) : Prop := ∀ (P : AS) (G H : Hp) (v u : V) (d e : D) (t : T) (Q : VK), Same G H → DV X.K X.mg G v d → DV X.K X.mg G u e → g d e = some t → (∀ w G' H' S1, Res X P G H w t G' H' S1 → Q w H') → r v u H Q
def LkC (X : Cx) (r : List V → Hp → VK → Prop) (g : List D → Option T) : Prop := ∀ (P : AS) (G H : Hp) (vs : List V) (ds : List D) (t : T) (Q : VK), Same G H → DVs X.K X.mg G vs ds → g ds = some t → (∀ w G' H' S1, Res X P G H w t G' H' S1 → Q w H') → r vs H Q
def f1 (g : D → Option T) (fa : FT) : FT := fun env => (dfz fa env).bind fun d env => opt (g d) env
def f2 (g : D → D → Option T) (fa fb : FT) : FT := fun env => (dfz fa env).bind fun d env => (dfz fb env).bind fun e env => opt (g d e) env
section
variable {X : Cx} {W : WX} {σ : L2.St} {P : AS} {G H : Hp} {S : AS} {env : Env} {Q : VK} {a b : Expr} {fa fb : FT}
theorem CT.opt {o : Option T} (st : ES X.K X.mg P σ G H env S) (h : CT X.K X.mg W P σ G H S (opt o env) Q) : ∃ t, o = some t ∧ ∀ w G' H' S1, Res X P G H w t G' H' S1 → Q w H' := by
  cases o with
  | none => exact h.elim
  | some t => exact ⟨t, rfl, fun w G' H' S1 r => h w G' H' S1 S (r.got st)⟩
theorem run1 {r : V → Hp → VK → Prop} {g : D → Option T} (lk : Lk1 X r g) (q : tT X W (f1 g fa) σ H Q) : tT X W fa σ H fun x H1 => r x H1 Q := by
  obtain ⟨env, P, G, S, st, h⟩ := q
  refine tT_bindD (k := fun d env => opt (g d) env) st h fun d env1 v G1 H1 S1 g1 c => ?_
  obtain ⟨t, e, k⟩ := c.opt g1.es
  exact lk P G1 H1 v d t Q g1.es.ge g1.dv e k
theorem run2 {r : R2} {g : D → D → Option T} (lk : Lk2 X r g) (q : tT X W (f2 g fa fb) σ H Q) : tT X W fa σ H fun x H1 => tT X W fb σ H1 fun y H2 => r x y H2 Q := by
  obtain ⟨env, P, G, S, st, h⟩ := q
  refine tT_bindD (k := fun d env => (dfz fb env).bind fun e env => opt (g d e) env) st h fun d env1 v G1 H1 S1 g1 c => ?_
  refine tT_bindD (k := fun e env => opt (g d e) env) g1.es c fun e env2 u G2 H2 S2 g2 c2 => ?_
  obtain ⟨t, e', k⟩ := c2.opt g2.es
  exact lk P G2 H2 v u d e t Q g2.es.ge (g1.dv.mono g2.st.gg) g2.dv e' k
theorem t_op {op : Operator} {r : R2} {g : D → D → Option T} {pos : Pos} (ho : OpR X (binaryOp op) r) (lk : Lk2 X r g) (ha : TOk X W a fa) (hb : TOk X W b fb) : TOk X W (.BinOp a op b pos) (f2 g fa fb) :=
  ⟨peW (pe_op ho ha.pe hb.pe) fun σ H Q q => run2 lk q⟩
theorem t_un {op : UnaryOp} {r : V → Hp → VK → Prop} {g : D → Option T} {pos : Pos} (ho : UnR X (unaryOp op) r) (lk : Lk1 X r g) (ha : TOk X W a fa) : TOk X W (.UnaryOp op a pos) (f1 g fa) :=
  ⟨peW (pe_un ho ha.pe) fun σ H Q q => run1 lk q⟩
theorem t_cmp {op : CmpOp} {r : R2} {g : D → D → Option T} {pos : Pos} (ho : OpR X (compareOp op) r) (lk : Lk2 X r g) (ha : TOk X W a fa) (hb : TOk X W b fb) (hm : behindInMarks op b = false) : TOk X W (.Compare a [op] [b] pos) (f2 g fa fb) :=
  ⟨peW (pe_cmpR ho ha.pe hb.pe hm) fun σ H Q q => run2 lk q⟩
end
end L3
/-! L3, part C: operations by values; pure parts. -/
namespace L3
open PySem PySem.Spec L2
/-- scalars: the same in every heap -/
inductive Sc : V → D → Prop
  | non : Sc .non .non
  | bl (b : Bool) : Sc (.bl b) (.bl b)
  | int (i : Int) : Sc (.int i) (.int i)
  | str (x : Str) : Sc (.str x) (.str x)
theorem Sc.dv {K : Frg} {mg : MG} {G : Hp} {w : V} {d : D} (h : Sc w d) : DV K mg G w d := by
  cases h with
  | non => exact .non
  | bl b => exact .bl b
  | int i => exact .int i
  | str x => exact .str x
def LS1 (X : Cx) (r : V → Hp → VK → Prop) (g : D → Option D) : Prop := ∀ (H : Hp) (v : V) (d d' : D) (Q : VK), DV X.K X.mg H v d → g d = some d' → (∀ w, Sc w d' → Q w H) → r v H Q
def LS2 (X : Cx) (r : R2) (g : D → D → Option D) : Prop := ∀ (H : Hp) (v u : V) (d e d' : D) (Q : VK), DV X.K X.mg H v d → DV X.K X.mg H u e → g d e = some d' → (∀ w, Sc w d' → Q w H) → r v u H Q
def LSC (X : Cx) (r : List V → Hp → VK → Prop) (g : List D → Option D) : Prop := ∀ (H : Hp) (vs : List V) (ds : List D) (d' : D) (Q : VK), DVs X.K X.mg H vs ds → g ds = some d' → (∀ w, Sc w d' → Q w H) → r vs H Q
def dt1 (g : D → Option D) : D → Option T := fun d => (g d).map T.dat
def dt2 (g : D → D → Option D) : D → D → Option T := fun d e => (g d e).map T.dat
def dtC (g : List D → Option D) : List D → Option T := fun ds => (g ds).map T.dat
theorem map_dat {o : Option D} {t : T} (h : o.map T.dat = some t) : ∃ d, o = some d ∧ t = .dat d := by
  cases o with
  | none => cases h
  | some d => cases h; exact ⟨d, rfl, rfl⟩
theorem LS1.lk {X : Cx} {r : V → Hp → VK → Prop} {g : D → Option D} (h : LS1 X r g) : Lk1 X r (dt1 g)
  := fun P G H v d t Q hg hv hd k => by
  obtain ⟨d', e, rfl⟩ := map_dat hd
  exact h H v d d' Q (hv.mono hg) e fun w s => k w G H N0 (.sc hg s.dv)
theorem LS2.lk {X : Cx} {r : R2} {g : D → D → Option D} (h : LS2 X r g) : Lk2 X r (dt2 g) := fun P G H v u d e t Q hg hv hu hd k => by
  obtain ⟨d', e', rfl⟩ := map_dat hd
  exact h H v u d e d' Q (hv.mono hg) (hu.mono hg) e' fun w s => k w G H N0 (.sc hg s.dv)
theorem LSC.lk {X : Cx} {r : List V → Hp → VK → Prop} {g : List D → Option D} (h : LSC X r g) : LkC X r (dtC g) := fun P G H vs ds t Q hg hv hd k => by
  obtain ⟨d', e, rfl⟩ := map_dat hd
  exact h H vs ds d' Q (hv.mono hg) e fun w s => k w G H N0 (.sc hg s.dv)
/-! ### either of two rules -/
def rO1 (r r' : V → Hp → VK → Prop) : V → Hp → VK → Prop := fun x H Q => r x H Q ∨ r' x H Q
def rO2 (r r' : R2) : R2 := fun x y H Q => r x y H Q ∨ r' x y H Q
def rOC (r r' : List V → Hp → VK → Prop) : List V → Hp → VK → Prop := fun x H Q => r x H Q ∨ r' x H Q
theorem opOr {X : Cx} {f : Value → Value → Sem Value} {r r' : R2} (h : OpR X f r) (h' : OpR X f r') : OpR X f (rO2 r r') := fun pins s σ H x y v u Q I a b q =>
  q.elim (h pins s σ H x y v u Q I a b) (h' pins s σ H x y v u Q I a b)
theorem callOr {X : Cx} {f : Value} {r r' : List V → Hp → VK → Prop} (h : CallR X f r) (h' : CallR X f r') : CallR X f (rOC r r') := fun pins s σ H xs us Q I a q =>
  q.elim (h pins s σ H xs us Q I a) (h' pins s σ H xs us Q I a)
def o2 {α : Type} (g g' : D → D → Option α) : D → D → Option α := fun d e => match g d e with
  | some t => some t
  | none => g' d e
def oC {α : Type} (g g' : List D → Option α) : List D → Option α := fun ds => match g ds with
  | some t => some t
  | none => g' ds
theorem o2_split {α : Type} {g g' : D → D → Option α} {d e : D} {t : α} (h : o2 g g' d e = some t) : g d e = some t ∨ g' d e = some t := by
  unfold o2 at h
  cases q : g d e with
  | none => rw [q] at h; exact .inr h
  | some x => rw [q] at h; exact .inl h
theorem oC_split {α : Type} {g g' : List D → Option α} {ds : List D} {t : α} (h : oC g g' ds = some t) : g ds = some t ∨ g' ds = some t := by
  unfold oC at h
  cases q : g ds with
  | none => rw [q] at h; exact .inr h
  | some x => rw [q] at h; exact .inl h
section
variable {X : Cx}
theorem Lk2.or {r r' : R2} {g g' : D → D → Option T} (h : Lk2 X r g) (h' : Lk2 X r' g') : Lk2 X (rO2 r r') (o2 g g') := fun P G H v u d e t Q hg hv hu hd k =>
  (o2_split hd).imp (fun z => h P G H v u d e t Q hg hv hu z k) fun z => h' P G H v u d e t Q hg hv hu z k
theorem LS2.or {r r' : R2} {g g' : D → D → Option D} (h : LS2 X r g) (h' : LS2 X r' g') : LS2 X (rO2 r r') (o2 g g') := fun H v u d e t Q hv hu hd k =>
  (o2_split hd).imp (fun z => h H v u d e t Q hv hu z k) fun z => h' H v u d e t Q hv hu z k
theorem LkC.or {r r' : List V → Hp → VK → Prop} {g g' : List D → Option T} (h : LkC X r g) (h' : LkC X r' g') : LkC X (rOC r r') (oC g g') := fun P G H vs ds t Q hg hv hd k =>
  (oC_split hd).imp (fun z => h P G H vs ds t Q hg hv z k) fun z => h' P G H vs ds t Q hg hv z k
theorem LSC.or {r r' : List V → Hp → VK → Prop} {g g' : List D → Option D} (h : LSC X r g) (h' : LSC X r' g') : LSC X (rOC r r') (oC g g') := fun H vs ds t Q hv hd k =>
  (oC_split hd).imp (fun z => h H vs ds t Q hv z k) fun z => h' H vs ds t Q hv z k
end
/-! ### ints, texts -/
def gI (C : Int → Int → Prop) [∀ i j, Decidable (C i j)] (f : Int → Int → D) : D → D → Option D
  | .int i, .int j => if C i j then some (f i j) else none
  | _, _ => none
def cT : Int → Int → Prop := fun _ _ => True
instance (i j : Int) : Decidable (cT i j) := .isTrue trivial
instance (i j : Int) : Decidable (CMul i j) := by unfold CMul; infer_instance
instance (i j : Int) : Decidable (CDiv i j) := by unfold CDiv; infer_instance
instance (i j : Int) : Decidable (CPow i j) := by unfold CPow; infer_instance
section
variable {X : Cx} {C : Int → Int → Prop} [∀ i j, Decidable (C i j)]
theorem gI_inv {f : Int → Int → D} {d e d' : D} (h : gI C f d e = some d') : ∃ i j, d = .int i ∧ e = .int j ∧ C i j ∧ d' = f i j := by
  unfold gI at h
  split at h
  · split at h
    · rename_i i j c
      exact ⟨i, j, rfl, rfl, c, (Option.some.inj h).symm⟩
    · cases h
  · cases h
theorem DV.int_inv {K : Frg} {mg : MG} {H : Hp} {v : V} {i : Int} (h : DV K mg H v (.int i)) : v = .int i := by cases h; rfl
theorem DV.str_inv {K : Frg} {mg : MG} {H : Hp} {v : V} {i : Str} (h : DV K mg H v (.str i)) : v = .str i := by cases h; rfl
theorem DV.bl_inv {K : Frg} {mg : MG} {H : Hp} {v : V} {i : Bool} (h : DV K mg H v (.bl i)) : v = .bl i := by cases h; rfl
theorem DV.non_inv {K : Frg} {mg : MG} {H : Hp} {v : V} (h : DV K mg H v .non) : v = .non := by cases h; rfl
theorem lsI {f : Int → Int → V} {f' : Int → Int → D} (hf : ∀ i j, Sc (f i j) (f' i j)) : LS2 X (rI C f) (gI C f') := fun H v u d e d' Q hv hu h k => by
  obtain ⟨i, j, rfl, rfl, c, rfl⟩ := gI_inv h
  exact ⟨i, j, hv.int_inv, hu.int_inv, c, k _ (hf i j)⟩
theorem lsI0 {f : Int → Int → V} {f' : Int → Int → D} (hf : ∀ i j, Sc (f i j) (f' i j)) : LS2 X (rI0 f) (gI cT f') := fun H v u d e d' Q hv hu h k => by
  obtain ⟨i, j, rfl, rfl, c, rfl⟩ := gI_inv h
  exact ⟨i, j, hv.int_inv, hu.int_inv, k _ (hf i j)⟩
end
def gAddI := gI cT fun i j => .int (i + j)
def gSubI := gI cT fun i j => .int (i - j)
def gMulI := gI CMul fun i j => .int (i * j)
def gModI := gI (fun _ j => 0 < j) fun i j => .int (i % j)
def gDivI := gI CDiv fun i j => .int (i / j)
def gPowI := gI CPow fun i j => .int (i ^ j.toNat)
def gLt := gI cT fun i j => .bl (decide (i < j))
def gLe := gI cT fun i j => .bl (decide (i ≤ j))
def gGt := gI cT fun i j => .bl (decide (j < i))
def gGe := gI cT fun i j => .bl (decide (j ≤ i))
def gAddS : D → D → Option D
  | .str x, .str y => if x.length + y.length ≤ sizeLine then some (.str (x ++ y)) else none
  | _, _ => none
abbrev rAddS : R2 := fun x y H Q => ∃ i j, x = .str i ∧ y = .str j ∧ i.length + j.length ≤ sizeLine ∧ Q (.str (i ++ j)) H
section
variable {X : Cx}
theorem ls_addI : LS2 X (rI0 fun i j => .int (i + j)) gAddI := lsI0 fun _ _ => .int _
theorem ls_subI : LS2 X (rI0 fun i j => .int (i - j)) gSubI := lsI0 fun _ _ => .int _
theorem ls_mulI : LS2 X (rI CMul fun i j => .int (i * j)) gMulI := lsI fun _ _ => .int _
theorem ls_modI : LS2 X (rI (fun _ j => 0 < j) fun i j => .int (i % j)) gModI := lsI fun _ _ => .int _
theorem ls_divI : LS2 X (rI CDiv fun i j => .int (i / j)) gDivI := lsI fun _ _ => .int _
theorem ls_powI : LS2 X (rI CPow fun i j => .int (i ^ j.toNat)) gPowI := lsI fun _ _ => .int _
theorem ls_lt : LS2 X (rI0 fun i j => .bl (decide (i < j))) gLt := lsI0 fun _ _ => .bl _
theorem ls_le : LS2 X (rI0 fun i j => .bl (decide (i ≤ j))) gLe := lsI0 fun _ _ => .bl _
theorem ls_gt : LS2 X (rI0 fun i j => .bl (decide (j < i))) gGt := lsI0 fun _ _ => .bl _
theorem ls_ge : LS2 X (rI0 fun i j => .bl (decide (j ≤ i))) gGe := lsI0 fun _ _ => .bl _
theorem ls_addS : LS2 X rAddS gAddS := fun H v u d e d' Q hv hu h k => by
  unfold gAddS at h
  split at h
  · split at h
    · cases h
      exact ⟨_, _, hv.str_inv, hu.str_inv, by assumption, k _ (.str _)⟩
    · cases h
  · cases h
/-- -a -/
def gNeg : D → Option D
  | .int i => some (.int (-i))
  | _ => none
theorem ls_neg : LS1 X (rU fun i => .int (-i)) gNeg := fun H v d d' Q hv h k => by
  unfold gNeg at h
  split at h
  · cases h; exact ⟨_, hv.int_inv, k _ (.int _)⟩
  · cases h
/-- is None -/
def D.isN : D → Bool
  | .non => true
  | _ => false
theorem DV.isN {K : Frg} {mg : MG} {H : Hp} {v : V} {d : D} (h : DV K mg H v d) : decide (v = .non) = d.isN := by
  cases h <;> rfl
def gIs : D → D → Option D
  | d, .non => some (.bl d.isN)
  | _, _ => none
def gIsnt : D → D → Option D
  | d, .non => some (.bl (!d.isN))
  | _, _ => none
theorem ls_is : LS2 X (fun x y H Q => y = .non ∧ Q (.bl (decide (x = .non))) H) gIs := fun H v u d e d' Q hv hu h k => by
  unfold gIs at h
  split at h
  · cases h
    exact ⟨hu.non_inv, by rw [hv.isN]; exact k _ (.bl _)⟩
  · cases h
theorem ls_isnt : LS2 X (fun x y H Q => y = .non ∧ Q (.bl (!decide (x = .non))) H) gIsnt := fun H v u d e d' Q hv hu h k => by
  unfold gIsnt at h
  split at h
  · cases h
    exact ⟨hu.non_inv, by rw [hv.isN]; exact k _ (.bl _)⟩
  · cases h
end
/-! ### data of the library: ==, in, repr -/
mutual
def D.py : D → Option PyData
  | .non => some .none
  | .bl b => some (.bool b)
  | .int i => some (.int i)
  | .str x => some (.str x)
  | .tup ds => (pys ds).map .tuple
  | .lst ds => (pys ds).map .list
  | .scr ds => (pys ds).map .list
  | _ => none
def pys : List D → Option (List PyData)
  | [] => some []
  | d :: ds => match d.py, pys ds with
    | some p, some ps => some (p :: ps)
    | _, _ => none
end
section
variable {K : Frg} {mg : MG} {H : Hp}
mutual
theorem DV.dp : ∀ {v : V} {d : D} {p : PyData}, DV K mg H v d → d.py = some p → Dp K H v p
  | _, _, _, .non, e => by simp [D.py] at e; subst e; exact .non
  | _, _, _, .bl b, e => by simp [D.py] at e; subst e; exact .bl b
  | _, _, _, .int b, e => by simp [D.py] at e; subst e; exact .int b
  | _, _, _, .str b, e => by simp [D.py] at e; subst e; exact .str b
  | _, .tup ds, p, .tup h r, e => by
    simp only [D.py] at e
    cases y : pys ds with
    | none => rw [y] at e; cases e
    | some ps => rw [y] at e; cases e; exact .tup h (DVs.dp r y)
  | _, .lst ds, p, .lst h r, e => by
    simp only [D.py] at e
    cases y : pys ds with
    | none => rw [y] at e; cases e
    | some ps => rw [y] at e; cases e; exact .lst (.of h) (DVs.dp r y)
  | _, .scr ds, p, .scr h r, e => by
    simp only [D.py] at e
    cases y : pys ds with
    | none => rw [y] at e; cases e
    | some ps => rw [y] at e; cases e; exact .lst h (DVs.dp r y)
  | _, _, _, .dic h r, e => by simp [D.py] at e
  | _, _, _, .ins m h o r, e => by simp [D.py] at e
theorem DVs.dp : ∀ {v : List V} {d : List D} {p : List PyData}, DVs K mg H v d → pys d = some p → DpAll K H v p
  | _, _, _, .nil, e => by simp [pys] at e; subst e; exact .nil
  | _, d :: ds, _, .cons h r, e => by
    simp only [pys] at e
    cases y : d.py with
    | none => rw [y] at e; cases e
    | some a =>
      cases x : pys ds with
      | none => rw [y, x] at e; cases e
      | some b => rw [y, x] at e; cases e; exact .cons (DV.dp h y) (DVs.dp r x)
end
end
def gData (f : PyData → PyData → D) : D → D → Option D := fun d e => match d.py, e.py with
  | some p, some q => if SeqAt.shaped p = true ∧ SeqAt.shaped q = true then some (f p q) else none
  | _, _ => none
def gEq := gData fun p q => .bl (PyData.eqv p q)
def gNe := gData fun p q => .bl (!PyData.eqv p q)
theorem gData_inv {f : PyData → PyData → D} {d e d' : D} (h : gData f d e = some d') : ∃ p q, d.py = some p ∧ e.py = some q ∧ SeqAt.shaped p = true ∧ SeqAt.shaped q = true ∧ d' = f p q := by
  unfold gData at h
  split at h
  · split at h
    · rename_i p q e1 e2 c
      exact ⟨p, q, e1, e2, c.1, c.2, (Option.some.inj h).symm⟩
    · cases h
  · cases h
section
variable {X : Cx}
theorem ls_eq : LS2 X (rEqD X.K) gEq := fun H v u d e d' Q hv hu h k => by
  obtain ⟨p, q, e1, e2, s1, s2, rfl⟩ := gData_inv h
  exact ⟨p, q, hv.dp e1, hu.dp e2, s1, s2, k _ (.bl _)⟩
theorem ls_ne : LS2 X (rNeD X.K) gNe := fun H v u d e d' Q hv hu h k => by
  obtain ⟨p, q, e1, e2, s1, s2, rfl⟩ := gData_inv h
  exact ⟨p, q, hv.dp e1, hu.dp e2, s1, s2, k _ (.bl _)⟩
end
end L3
/-! L3, part D: expressions. -/
namespace L3
open PySem PySem.Spec L2
def fC (d : D) : FT := fun env => .ok (.dat d) env
def pC (d : D) : FP := fun _ => some (.dat d)
/-- a name's tree, as it stands -/
def pV (i : Nat) : FP := fun env => match env[i]? with
  | some .no => none
  | some t => some t
  | none => none
/-- a name as a value: its tree is frozen -/
def fV (i : Nat) : FT := fun env => match env[i]? with
  | some (.dat d) => .ok (.dat d) env
  | some t => match t.fz with
    | some d => .ok (.dat d) (env.set i (.dat d))
    | none => .stuck
  | none => .stuck
/-- a name given away -/
def fTk (i : Nat) : FT := fun env => match env[i]? with
  | some (.dat d) => .ok (.dat d) env
  | some .no => .stuck
  | some (.vw _) => .stuck
  | some t => .ok t (env.set i .no)
  | none => .stuck
/-- data of a pure part -/
def fP (p : FP) : FT := fun env => match p env with
  | some (.dat d) => .ok (.dat d) env
  | _ => .stuck
def fB (f : FT) : FB := fun env => (f env).bind fun t env => match t with
  | .dat (.bl b) => .ok b env
  | _ => .stuck
def p1 (g : D → Option D) (pa : FP) : FP := fun env => (pa env).bind fun t => t.dz.bind fun d => (g d).map .dat
def p2 (g : D → D → Option D) (pa pb : FP) : FP := fun env => (pa env).bind fun t => (pb env).bind fun u => t.dz.bind fun d => u.dz.bind fun e => (g d e).map .dat
def bOf : T → Option Bool
  | .dat (.bl b) => some b
  | _ => none
def pIf (c a b : FP) : FP := fun env => (c env).bind fun t => (bOf t).bind fun k => if k = true then a env else b env
def pAnd (a b : FP) : FP := fun env => (a env).bind fun t => (bOf t).bind fun k => if k = true then b env else some (.dat (.bl false))
def pOr (a b : FP) : FP := fun env => (a env).bind fun t => (bOf t).bind fun k => if k = true then some (.dat (.bl true)) else b env
def pChain (g g' : D → D → Option D) (a b c : FP) : FP := fun env => (p2 g a b env).bind fun t => (bOf t).bind fun k => if k = true then p2 g' b c env else some (.dat (.bl false))
section
variable {X : Cx} {W : WX} {σ : L2.St} {P : AS} {G H : Hp} {S : AS} {env : Env} {Q : VK} {a b c e : Expr} {pa pb pc p : FP} {fa fb f : FT} {pos : Pos} {i : Nat} {x : Str} {d : D} {v : V} {t : T}
theorem okD (st : ES X.K X.mg P σ G H env S) (h : CT X.K X.mg W P σ G H S (.ok (.dat d) env) Q) (q : DV X.K X.mg G v d) : Q v H := h v G H N0 S ⟨.dat q, st, fun _ z => z.elim, fun _ z => z.elim, (Stp.refl G H S).less fun x z => z.elim (fun z => z.elim) id⟩
theorem t_c {j : Nat} {v : V} {d : D} (hp : PE X e (tC v)) (s : Sc v d) : TOk X W e (fC d) := ⟨peW hp fun σ H Q q => by
  obtain ⟨env, P, G, S, st, h⟩ := q
  exact okD st h s.dv⟩
theorem p_c {v : V} {d : D} (hp : PE X e (tC v)) (s : Sc v d) : POk X e (pC d) := ⟨peW hp fun σ H Q q => by
  obtain ⟨env, P, G, S, st, t, et, h⟩ := q
  cases et
  exact h v (.own (.dat s.dv))⟩
theorem p_int {i : Int} {j pos} : POk X (.Constant (.int i) j pos) (pC (.int i)) := p_c pe_int (.int i)
theorem p_bl {i : Bool} {j pos} : POk X (.Constant (.bool i) j pos) (pC (.bl i)) := p_c pe_bl (.bl i)
theorem p_non {j pos} : POk X (.Constant .none j pos) (pC .non) := p_c pe_non .non
theorem p_str {x : Str} {j pos} : POk X (.Constant (.str x) j pos) (pC (.str x)) := p_c pe_str (.str x)
theorem p_var (hN : X.N[i]? = some x) (hv : Vis X.env.scope x) (hd : (x == ("__debug__" : Str)) = false := by decide) (hcd : (x == ("__classdict__" : Str)) = false := by decide) : POk X (.Name x pos) (pV i) := ⟨peW (pe_var hN hv hd hcd) fun σ H Q q => by
  obtain ⟨env, P, G, S, st, t, et, h⟩ := q
  unfold pV at et
  split at et
  · cases et
  · rename_i t' hn e1
    cases et
    obtain ⟨v, e2, tv⟩ := st.sl.get e1 hn
    exact ⟨v, e2, h v tv⟩
  · cases et⟩
/-- a pure part as a value -/
theorem t_p (h : POk X e p) : TOk X W e (fP p) := ⟨peW h.pe fun σ H Q q => by
  obtain ⟨env, P, G, S, st, h⟩ := q
  unfold fP at h
  split at h
  · rename_i d e1
    exact ⟨env, P, G, S, st, _, e1, fun v tv => okD st h tv.dat_inv⟩
  · exact h.elim⟩
theorem SL.freeze {K : Frg} {mg : MG} (st : ES K mg P σ G H env S) (e1 : env[i]? = some t) (hn : t ≠ .no) (ez : t.fz = some d) : ∃ v G' S', σ[i]? = some (some v) ∧ DV K mg G' v d ∧ ES K mg P σ G' H (env.set i (.dat d)) S' ∧ Stp G H S G' H S' := by
  classical
  obtain ⟨v, S1, S2, e2, tv, sl, dj, l1, l2⟩ := st.sl.take e1 hn
  let G' : Hp := fun a => if S1 a then H a else G a
  have gy : ∀ a, S1 a → G' a = H a := fun a z => if_pos z
  have gn : ∀ a, ¬ S1 a → G' a = G a := fun a z => if_neg z
  have gg : Same G G' := fun a o q => by
    have n : ¬ S1 a := fun z => by rw [(st.ow a (l1 a z)).1] at q; cases q
    rw [gn a n]; exact q
  have dv : DV K mg G' v d := by
    cases tv with
    | own tv => exact TV.data gg (S := S1) (fun a o z q => by rw [gy a z]; exact q) (fun _ z => z) tv ez
    | vw _ _ => simp [T.fz] at ez
  have sl2 := (SL.move gg (S := S2) (H1 := H) (fun a o _ q => q) (fun a o _ q => q) (fun _ z => z) sl).put (i := i) (s := some v) (t := .dat d) (S' := N0) (.inr ⟨v, rfl, .own (.dat dv)⟩) fun _ z => z.elim
  refine ⟨v, G', S2, e2, dv, ⟨?_, fun a o q => ?_, fun a z => ⟨?_, (st.ow a (l2 a z)).2⟩, fun a z => ⟨fun w => (st.pv a z).1 (l2 a w), (st.pv a z).2⟩⟩, ⟨gg, fun a o q _ => q, fun a z => .inl (l2 a z), fun a o q => ?_⟩⟩
  · rw [set_same e2, List.set_set] at sl2
    exact sl2.weak fun a z => z.elim (fun z => z.elim) id
  · by_cases z : S1 a
    · rw [gy a z] at q; exact q
    · rw [gn a z] at q; exact st.ge a o q
  · rw [gn a fun w => dj a w z]; exact (st.ow a (l2 a z)).1
  · by_cases z : S1 a
    · exact .inr (.inl (l1 a z))
    · rw [gn a z] at q; exact .inl q
theorem t_var (hN : X.N[i]? = some x) (hv : Vis X.env.scope x) (hd : (x == ("__debug__" : Str)) = false := by decide) (hcd : (x == ("__classdict__" : Str)) = false := by decide) : TOk X W (.Name x pos) (fV i) := ⟨peW (pe_var hN hv hd hcd) fun σ H Q q => by
  obtain ⟨env, P, G, S, st, h⟩ := q
  unfold fV at h
  split at h
  · rename_i d e1
    obtain ⟨v, e2, tv⟩ := st.sl.get e1 (by intro z; cases z)
    exact ⟨v, e2, okD st h tv.dat_inv⟩
  · rename_i t hn e1
    split at h
    · rename_i d ez
      obtain ⟨v, G', S', e2, dv, st', sp⟩ := SL.freeze st e1 (by intro z; rw [z] at ez; simp [T.fz] at ez) ez
      exact ⟨v, e2, h v G' H N0 S' ⟨.dat dv, st', fun _ z => z.elim, fun _ z => z.elim, sp.less fun a z => z.elim (fun z => z.elim) id⟩⟩
    · exact h.elim
  · exact h.elim⟩
theorem t_tk (hN : X.N[i]? = some x) (hv : Vis X.env.scope x) (hd : (x == ("__debug__" : Str)) = false := by decide) (hcd : (x == ("__classdict__" : Str)) = false := by decide) : TOk X W (.Name x pos) (fTk i) := ⟨peW (pe_var hN hv hd hcd) fun σ H Q q => by
  obtain ⟨env, P, G, S, st, h⟩ := q
  unfold fTk at h
  split at h
  · rename_i d e1
    obtain ⟨v, e2, tv⟩ := st.sl.get e1 (by intro z; cases z)
    exact ⟨v, e2, okD st h tv.dat_inv⟩
  · exact h.elim
  · exact h.elim
  · rename_i t h1 h2 h3 e1
    obtain ⟨v, S1, S2, e2, tv, sl, dj, l1, l2⟩ := st.sl.take e1 h2
    cases tv with
    | vw q dp => exact (h3 _ rfl).elim
    | own tv =>
    refine ⟨v, e2, h v G H S1 S2 ⟨tv, ⟨sl, st.ge, fun a z => st.ow a (l2 a z), fun a z => ⟨fun w => (st.pv a z).1 (l2 a w), (st.pv a z).2⟩⟩, fun a z => st.ow a (l1 a z), dj, (Stp.refl G H S).less fun a z => z.elim (l1 a) (l2 a)⟩⟩
  · exact h.elim⟩
/-! ### pure operations -/
theorem viewD {K : Frg} {mg : MG} (ge : Same G H) (tv : VV K mg P G H v t S) (e : t.dz = some d) : DV K mg H v d := VV.dataH ge tv e
theorem bind_some {α β : Type} {o : Option α} {k : α → Option β} {b : β} (h : o.bind k = some b) : ∃ a, o = some a ∧ k a = some b := by
  cases o with
  | none => cases h
  | some a => exact ⟨a, rfl, h⟩
theorem runP1 {r : V → Hp → VK → Prop} {g : D → Option D} (ls : LS1 X r g) (q : tP X (p1 g pa) σ H Q) : tP X pa σ H fun x H1 => r x H1 Q := by
  obtain ⟨env, P, G, S, st, t, et, h⟩ := q
  obtain ⟨ta, e1, et⟩ := bind_some et
  obtain ⟨d, e2, et⟩ := bind_some et
  obtain ⟨d', e3, rfl⟩ := map_dat et
  exact ⟨env, P, G, S, st, ta, e1, fun v tv => ls H v d d' Q (viewD st.ge tv e2) e3 fun w s => h w (.own (.dat s.dv))⟩
theorem runP2 {r : R2} {g : D → D → Option D} (ls : LS2 X r g) (q : tP X (p2 g pa pb) σ H Q) : tP X pa σ H fun x H1 => tP X pb σ H1 fun y H2 => r x y H2 Q := by
  obtain ⟨env, P, G, S, st, t, et, h⟩ := q
  obtain ⟨ta, e1, et⟩ := bind_some et
  obtain ⟨tb, e2, et⟩ := bind_some et
  obtain ⟨d, e3, et⟩ := bind_some et
  obtain ⟨e, e4, et⟩ := bind_some et
  obtain ⟨d', e5, rfl⟩ := map_dat et
  exact ⟨env, P, G, S, st, ta, e1, fun v tv => ⟨env, P, G, S, st, tb, e2, fun u tu => ls H v u d e d' Q (viewD st.ge tv e3) (viewD st.ge tu e4) e5 fun w s => h w (.own (.dat s.dv))⟩⟩
theorem p_op {op : Operator} {r : R2} {g : D → D → Option D} (ho : OpR X (binaryOp op) r) (ls : LS2 X r g) (ha : POk X a pa) (hb : POk X b pb) : POk X (.BinOp a op b pos) (p2 g pa pb) :=
  ⟨peW (pe_op ho ha.pe hb.pe) fun σ H Q q => runP2 ls q⟩
theorem p_un {op : UnaryOp} {r : V → Hp → VK → Prop} {g : D → Option D} (ho : UnR X (unaryOp op) r) (ls : LS1 X r g) (ha : POk X a pa) : POk X (.UnaryOp op a pos) (p1 g pa) :=
  ⟨peW (pe_un ho ha.pe) fun σ H Q q => runP1 ls q⟩
theorem p_cmp {op : CmpOp} {r : R2} {g : D → D → Option D} (ho : OpR X (compareOp op) r) (ls : LS2 X r g) (ha : POk X a pa) (hb : POk X b pb) (hm : behindInMarks op b = false) : POk X (.Compare a [op] [b] pos) (p2 g pa pb) :=
  ⟨peW (pe_cmpR ho ha.pe hb.pe hm) fun σ H Q q => runP2 ls q⟩
def gNot : D → Option D
  | .bl b => some (.bl (!b))
  | _ => none
theorem p_not (ha : POk X a pa) : POk X (.UnaryOp .Not a pos) (p1 gNot pa) := ⟨peW (pe_not ha.pe) fun σ H Q q => by
  obtain ⟨env, P, G, S, st, t, et, h⟩ := q
  obtain ⟨ta, e1, et⟩ := bind_some et
  obtain ⟨d, e2, et⟩ := bind_some et
  obtain ⟨d', e3, rfl⟩ := map_dat et
  refine ⟨env, P, G, S, st, ta, e1, fun v tv => ?_⟩
  unfold gNot at e3
  split at e3
  · cases e3
    exact ⟨_, (viewD st.ge tv e2).bl_inv, h _ (.own (.dat (.bl _)))⟩
  · cases e3⟩
theorem bOf_inv {t : T} {k : Bool} (h : bOf t = some k) : t = .dat (.bl k) := by
  unfold bOf at h
  split at h
  · cases h; rfl
  · cases h
theorem VV.bl_inv {K : Frg} {mg : MG} {k : Bool} (h : VV K mg P G H v (.dat (.bl k)) S) : v = .bl k := h.dat_inv.bl_inv
theorem VV.int_inv {K : Frg} {mg : MG} {k : Int} (h : VV K mg P G H v (.dat (.int k)) S) : v = .int k := h.dat_inv.int_inv
theorem TV.int_inv {K : Frg} {mg : MG} {k : Int} (h : TV K mg G H v (.dat (.int k)) S) : v = .int k := by
  cases h with
  | dat q => exact q.int_inv
theorem p_and {rest : List Expr} (ha : POk X a pa) (hb : POk X (.BoolOp .And (b :: rest) pos) pb) : POk X (.BoolOp .And (a :: b :: rest) pos) (pAnd pa pb) := ⟨peW (pe_and ha.pe hb.pe) fun σ H Q q => by
  obtain ⟨env, P, G, S, st, t, et, h⟩ := q
  obtain ⟨ta, e1, et⟩ := bind_some et
  obtain ⟨k, e2, et⟩ := bind_some et
  refine ⟨env, P, G, S, st, ta, e1, fun v tv => ⟨k, (by rw [bOf_inv e2] at tv; exact tv.bl_inv), ?_⟩⟩
  cases k with
  | true => exact iteT ⟨env, P, G, S, st, t, et, h⟩
  | false =>
    cases et
    exact iteF (h _ (.own (.dat (.bl _))))⟩
theorem p_or {rest : List Expr} (ha : POk X a pa) (hb : POk X (.BoolOp .Or (b :: rest) pos) pb) : POk X (.BoolOp .Or (a :: b :: rest) pos) (pOr pa pb) := ⟨peW (pe_or ha.pe hb.pe) fun σ H Q q => by
  obtain ⟨env, P, G, S, st, t, et, h⟩ := q
  obtain ⟨ta, e1, et⟩ := bind_some et
  obtain ⟨k, e2, et⟩ := bind_some et
  refine ⟨env, P, G, S, st, ta, e1, fun v tv => ⟨k, (by rw [bOf_inv e2] at tv; exact tv.bl_inv), ?_⟩⟩
  cases k with
  | true =>
    cases et
    exact iteT (h _ (.own (.dat (.bl _))))
  | false => exact iteF ⟨env, P, G, S, st, t, et, h⟩⟩
theorem p_one {op : BoolOp} (ha : POk X a pa) : POk X (.BoolOp op [a] pos) pa := ⟨pe_one ha.pe⟩
theorem p_chain {op op' : CmpOp} {r r' : R2} {g g' : D → D → Option D} (ho : OpR X (compareOp op) r) (ho' : OpR X (compareOp op') r') (ls : LS2 X r g) (ls' : LS2 X r' g') (ha : POk X a pa) (hb : POk X b pb) (hc : POk X c pc)
    (hm : lastMarks [op, op'] [b, c] = false := by with_unfolding_all rfl) : POk X (.Compare a [op, op'] [b, c] pos) (pChain g g' pa pb pc) := ⟨peW (pe_chain ho ho' ha.pe hb.pe hc.pe hm) fun σ H Q q => by
  obtain ⟨env, P, G, S, st, t, et, h⟩ := q
  obtain ⟨t1, e1, et⟩ := bind_some et
  obtain ⟨k, e2, et⟩ := bind_some et
  obtain ⟨ta, e3, e1⟩ := bind_some e1
  obtain ⟨tb, e4, e1⟩ := bind_some e1
  obtain ⟨d, e5, e1⟩ := bind_some e1
  obtain ⟨e, e6, e1⟩ := bind_some e1
  obtain ⟨d', e7, rfl⟩ := map_dat e1
  have ek := bOf_inv e2
  refine ⟨env, P, G, S, st, ta, e3, fun v tv => ⟨env, P, G, S, st, tb, e4, fun u tu => ls H v u d e d' _ (viewD st.ge tv e5) (viewD st.ge tu e6) e7 fun w s => ⟨k, ?_, ?_⟩⟩⟩
  · cases ek
    cases s
    rfl
  · cases k with
    | false =>
      cases et
      exact iteF (h _ (.own (.dat (.bl _))))
    | true =>
      refine iteT ?_
      obtain ⟨tb', f4, et⟩ := bind_some et
      rw [e4] at f4; cases f4
      obtain ⟨tc, f5, et⟩ := bind_some et
      obtain ⟨d2, f6, et⟩ := bind_some et
      obtain ⟨d3, f7, et⟩ := bind_some et
      obtain ⟨d4, f8, rfl⟩ := map_dat et
      exact ⟨env, P, G, S, st, tc, f5, fun w tw => ls' H u w d2 d3 d4 Q (viewD st.ge tu f6) (viewD st.ge tw f7) f8 fun z sz => h z (.own (.dat sz.dv))⟩⟩
theorem p_ifExp {tc : TT} (hc : POk X c pc) (hv : ∀ whole, isTrue c X.env whole = (do let v ← whole; standAt c.pos; holding [v] (truthy v))) (ha : POk X a pa) (hb : POk X b pb) : POk X (.IfExp c a b pos) (pIf pc pa pb) := ⟨peW (pe_ifExp (pt_val hc.pe hv) ha.pe hb.pe) fun σ H Q q => by
  obtain ⟨env, P, G, S, st, t, et, h⟩ := q
  obtain ⟨ta, e1, et⟩ := bind_some et
  obtain ⟨k, e2, et⟩ := bind_some et
  refine ⟨env, P, G, S, st, ta, e1, fun v tv => ⟨k, (by rw [bOf_inv e2] at tv; exact tv.bl_inv), ?_⟩⟩
  cases k with
  | true => exact iteT ⟨env, P, G, S, st, t, et, h⟩
  | false => exact iteF ⟨env, P, G, S, st, t, et, h⟩⟩
end
/-! ### fields, items -/
def FldOk (X : Cx) (cs : List Str) (f : Str) : Prop := ∀ c, c ∈ cs → ∀ C, X.mg c = some (.ref C) → Cls X.K C ∧ NoAttr X.K C f
def T.fld (cs : List Str) (f : Str) : T → Option T
  | .ins c fs => if c ∈ cs then fs.lookup f else none
  | .dat (.ins c fs) => if c ∈ cs then (fs.lookup f).map .dat else none
  | .vw (.ins c fs) => if c ∈ cs then (fs.lookup f).map T.view else none
  | _ => none
theorem map_view {o : Option T} {t : T} (h : o.map T.view = some t) : ∃ d, o = some d ∧ t = d.view := by
  cases o with
  | none => cases h
  | some d => cases h; exact ⟨d, rfl, rfl⟩
def pFld (cs : List Str) (f : Str) (pa : FP) : FP := fun env => (pa env).bind (T.fld cs f)
theorem DVf.look {K : Frg} {mg : MG} {G : Hp} {f : Str} : ∀ {vs : List (Str × V)} {ds : List (Str × D)} {d : D}, DVf K mg G vs ds → ds.lookup f = some d → ∃ v, vs.lookup f = some v ∧ DV K mg G v d
  | _, _, _, .nil, h => by cases h
  | (g, v) :: vs, (_, e) :: ds, d, .cons h r, q => by
    unfold List.lookup at q ⊢
    cases z : f == g with
    | true => rw [z] at q; cases q; exact ⟨v, rfl, h⟩
    | false => rw [z] at q; exact DVf.look r q
theorem TVf.look {K : Frg} {mg : MG} {G H : Hp} {f : Str} : ∀ {vs : List (Str × V)} {ds : List (Str × T)} {d : T} {S : AS}, TVf K mg G H vs ds S → ds.lookup f = some d → ∃ v, vs.lookup f = some v ∧ TV K mg G H v d S
  | _, _, _, _, .nil, h => by cases h
  | (g, v) :: vs, (_, e) :: ds, d, _, .cons h r d1 d2, q => by
    unfold List.lookup at q ⊢
    cases z : f == g with
    | true => rw [z] at q; cases q; exact ⟨v, rfl, h.weak fun b z => (d1 b z).1⟩
    | false =>
      rw [z] at q
      obtain ⟨v, e, tv⟩ := TVf.look r q
      exact ⟨v, e, tv.weak d2⟩
theorem TVs.get {K : Frg} {mg : MG} {G H : Hp} : ∀ {vs : List V} {ds : List T} {d : T} {S : AS} {i : Nat}, TVs K mg G H vs ds S → ds[i]? = some d → ∃ v, vs[i]? = some v ∧ TV K mg G H v d S
  | _, _, _, _, _, .nil, h => by simp at h
  | _, _, _, _, 0, .cons h _ d1 _, q => by simp at q; subst q; exact ⟨_, rfl, h.weak fun b z => (d1 b z).1⟩
  | _, _, _, _, i + 1, .cons _ r _ d2, q => by
    obtain ⟨v, e, tv⟩ := TVs.get (i := i) r (by simpa using q)
    exact ⟨v, by simpa using e, tv.weak d2⟩
def T.ix : T → Int → Option T
  | .lst ts, i => atI ts i
  | .tup ts, i => atI ts i
  | .vw (.lst ts), i => (atI ts i).map T.view
  | .vw (.tup ts), i => (atI ts i).map T.view
  | .dat (.lst ds), i => (atI ds i).map .dat
  | .dat (.tup ds), i => (atI ds i).map .dat
  | .dat (.scr ds), i => (atI ds i).map .dat
  | .dat (.str z), i => if z.length ≤ sizeLine then (atI z.cps.toList i).map fun c => .dat (.str ⟨#[c]⟩) else none
  | _, _ => none
def iOf : T → Option Int
  | .dat (.int i) => some i
  | _ => none
theorem iOf_inv {t : T} {k : Int} (h : iOf t = some k) : t = .dat (.int k) := by
  unfold iOf at h
  split at h
  · cases h; rfl
  · cases h
def pIx (pa pb : FP) : FP := fun env => (pa env).bind fun t => (pb env).bind fun u => (iOf u).bind fun i => t.ix i
theorem atI_len {α β : Type} {xs : List α} {ys : List β} (hl : xs.length = ys.length) {i : Int} {y : β} (h : atI ys i = some y) : ∃ j : Nat, ys[j]? = some y ∧ ∀ x, xs[j]? = some x → atI xs i = some x := by
  unfold atI at h
  obtain ⟨j, e1, e2⟩ := bind_some h
  refine ⟨j, e2, fun x e => ?_⟩
  unfold atI
  rw [hl, e1]
  exact e
section
variable {X : Cx} {W : WX} {a b : Expr} {pa pb : FP} {fa fb : FT} {pos : Pos} {f : Str} {cs : List Str}
theorem p_fld (hF : FldOk X cs f) (ha : POk X a pa) (hb : attributeBase a f X.env (eval a X.env) = eval a X.env) : POk X (.Attribute a f pos) (pFld cs f pa) := ⟨peW (pe_fld ha.pe hb) fun σ H Q q => by
  obtain ⟨env, P, G, S, st, t, et, h⟩ := q
  obtain ⟨ta, e1, et⟩ := bind_some et
  refine ⟨env, P, G, S, st, ta, e1, fun v tv => ?_⟩
  unfold T.fld at et
  split at et
  · split at et
    · rename_i hc
      cases tv with
      | own tv =>
        cases tv with
        | ins m ha ho sa sd r dd =>
          obtain ⟨c1, c2⟩ := hF _ hc _ m
          obtain ⟨w, e2, tw⟩ := r.look et
          exact ⟨_, _, _, _, w, rfl, ha, c1, c2, e2, h w (.own (tw.weak fun b z => (dd b z).1))⟩
    · cases et
  · split at et
    · rename_i hc
      obtain ⟨d', e3, rfl⟩ := map_dat et
      have q := tv.dat_inv
      cases q with
      | ins m ha ho r =>
        obtain ⟨c1, c2⟩ := hF _ hc _ m
        obtain ⟨w, e2, tw⟩ := r.look e3
        exact ⟨_, _, _, _, w, rfl, st.ge _ _ ha, c1, c2, e2, h w (.own (.dat tw))⟩
    · cases et
  · split at et
    · rename_i hc
      obtain ⟨d', e3, e4⟩ := map_view et
      cases tv with
      | own tv => cases tv
      | vw q dp =>
        cases q with
        | ins m ha ho sa sd r dd =>
          obtain ⟨c1, c2⟩ := hF _ hc _ m
          obtain ⟨w, e2, tw⟩ := r.look e3
          exact ⟨_, _, _, _, w, rfl, ha, c1, c2, e2, h w (by rw [e4]; exact tw.view fun b z => dp b (dd b z).1)⟩
    · cases et
  · cases et⟩
theorem ix_run {P : AS} {G H : Hp} {S : AS} {Q : VK} {v u : V} {t t' : T} {i : Int} (ge : Same G H) (tv : VV X.K X.mg P G H v t S) (eu : u = .int i) (et : t.ix i = some t') (h : ∀ w, VV X.K X.mg P G H w t' S → Q w H) : rIx X.K v u H Q := by
  subst eu
  unfold T.ix at et
  split at et
  · cases tv with
    | own tv =>
      cases tv with
      | lst ha sa r dd =>
        obtain ⟨j, e1, e2⟩ := atI_len r.length et
        obtain ⟨w, e3, tw⟩ := r.get e1
        exact .inl ⟨_, _, _, w, rfl, rfl, .of ha, e2 w e3, h w (.own (tw.weak fun b z => (dd b z).1))⟩
  · cases tv with
    | own tv =>
      cases tv with
      | tup ha sa r dd =>
        obtain ⟨j, e1, e2⟩ := atI_len r.length et
        obtain ⟨w, e3, tw⟩ := r.get e1
        exact .inr (.inl ⟨_, _, _, w, rfl, rfl, .of ha, e2 w e3, h w (.own (tw.weak fun b z => (dd b z).1))⟩)
  · obtain ⟨d', e0, e4⟩ := map_view et
    cases tv with
    | own tv => cases tv
    | vw q dp =>
      cases q with
      | lst ha sa r dd =>
        obtain ⟨j, e1, e2⟩ := atI_len r.length e0
        obtain ⟨w, e3, tw⟩ := r.get e1
        exact .inl ⟨_, _, _, w, rfl, rfl, .of ha, e2 w e3, h w (by rw [e4]; exact tw.view fun b z => dp b (dd b z).1)⟩
  · obtain ⟨d', e0, e4⟩ := map_view et
    cases tv with
    | own tv => cases tv
    | vw q dp =>
      cases q with
      | tup ha sa r dd =>
        obtain ⟨j, e1, e2⟩ := atI_len r.length e0
        obtain ⟨w, e3, tw⟩ := r.get e1
        exact .inr (.inl ⟨_, _, _, w, rfl, rfl, .of ha, e2 w e3, h w (by rw [e4]; exact tw.view fun b z => dp b (dd b z).1)⟩)
  · obtain ⟨d', e0, rfl⟩ := map_dat et
    have q := tv.dat_inv
    cases q with
    | lst ha r =>
      obtain ⟨j, e1, e2⟩ := atI_len r.length e0
      obtain ⟨w, e3, tw⟩ := r.get e1
      exact .inl ⟨_, _, _, w, rfl, rfl, .of (ge _ _ ha), e2 w e3, h w (.own (.dat tw))⟩
  · obtain ⟨d', e0, rfl⟩ := map_dat et
    have q := tv.dat_inv
    cases q with
    | tup ha r =>
      obtain ⟨j, e1, e2⟩ := atI_len r.length e0
      obtain ⟨w, e3, tw⟩ := r.get e1
      exact .inr (.inl ⟨_, _, _, w, rfl, rfl, sqt_same ge ha, e2 w e3, h w (.own (.dat tw))⟩)
  · obtain ⟨d', e0, rfl⟩ := map_dat et
    have q := tv.dat_inv
    cases q with
    | scr ha r =>
      obtain ⟨j, e1, e2⟩ := atI_len r.length e0
      obtain ⟨w, e3, tw⟩ := r.get e1
      exact .inl ⟨_, _, _, w, rfl, rfl, ge.seq ha, e2 w e3, h w (.own (.dat tw))⟩
  · split at et
    · rename_i z hz
      cases e : atI z.cps.toList i with
      | none => rw [e] at et; cases et
      | some c =>
        rw [e] at et
        cases et
        have q := tv.dat_inv
        cases q
        exact .inr (.inr ⟨z, i, c, rfl, rfl, hz, e, h _ (.own (.dat (.str _)))⟩)
    · cases et
  · cases et
theorem p_ix (ha : POk X a pa) (hb : POk X b pb) (hs : PlainIx b) : POk X (.Subscript a b pos) (pIx pa pb) := ⟨peW (pe_ix ix_seq ha.pe hb.pe hs) fun σ H Q q => by
  obtain ⟨env, P, G, S, st, t, et, h⟩ := q
  obtain ⟨ta, e1, et⟩ := bind_some et
  obtain ⟨tb, e2, et⟩ := bind_some et
  obtain ⟨i, e3, et⟩ := bind_some et
  rw [iOf_inv e3] at e2
  exact ⟨env, P, G, S, st, ta, e1, fun v tv => ⟨env, P, G, S, st, _, e2, fun u tu => ix_run st.ge tv tu.int_inv et h⟩⟩⟩
/-- a[b] by values: items of data -/
def gIx : D → D → Option T
  | d, .int i => (T.dat d).ix i
  | _, _ => none
theorem lk_ix : Lk2 X (rIx X.K) gIx := fun P G H v u d e t Q hg hv hu hd k => by
  unfold gIx at hd
  split at hd
  · have hd' := hd
    unfold T.ix at hd'
    refine ix_run (S := N0) (P := N0) hg (.own (.dat hv)) hu.int_inv hd fun w tw => ?_
    cases tw with
    | own tw => exact k w G H N0 ⟨.refl hg, tw, fun _ z => z.elim⟩
    | vw q dp => (split at hd' <;> (try cases hd') <;> simp_all)
  · cases hd
theorem t_ix (ha : TOk X W a fa) (hb : TOk X W b fb) (hs : PlainIx b) : TOk X W (.Subscript a b pos) (f2 gIx fa fb) := ⟨peW (pe_ix ix_seq ha.pe hb.pe hs) fun σ H Q q => run2 lk_ix q⟩
end
end L3
/-! L3, part E: arguments, built-in calls, displays, slices, tests. -/
namespace L3
open PySem PySem.Spec L2
/-! ### arguments as data -/
def fDs : List FT → Env → R (List D)
  | [], env => .ok [] env
  | f :: fs, env => (dfz f env).bind fun d env => (fDs fs env).bind fun ds env => .ok (d :: ds) env
def CDs (X : Cx) (W : WX) (P : AS) (σ : L2.St) (G H : Hp) (S : AS) (r : R (List D)) (Q : List V → Hp → Prop) : Prop := match r with
  | .ok ds env' => ∀ vs G' H' S', DVs X.K X.mg G' vs ds → ES X.K X.mg P σ G' H' env' S' → Stp G H S G' H' S' → Q vs H'
  | .exc x env' => CX3 X.K X.mg W P σ G H S x env'
  | .stuck => False
def tDA (X : Cx) (W : WX) (fs : List FT) : TA := fun σ H Q => ∃ env P G S, ES X.K X.mg P σ G H env S ∧ CDs X W P σ G H S (fDs fs env) Q
structure AOk (X : Cx) (W : WX) (es : List Expr) (fs : List FT) : Prop where
  pa : PA X es (tDA X W fs)
section
variable {X : Cx} {W : WX} {P : AS} {σ : L2.St} {G H G1 H1 : Hp} {S S1 : AS} {env : Env} {Q : VK} {e : Expr} {es : List Expr} {f : FT} {fs : List FT} {v : V} {d : D}
theorem CDs.base {r : R (List D)} {Q : List V → Hp → Prop} (a : Stp G H S G1 H1 S1) (h : CDs X W P σ G H S r Q) : CDs X W P σ G1 H1 S1 r Q := by
  cases r with
  | stuck => exact h
  | exc x e => exact CX3.base a h
  | ok t e => exact fun vs G' H' S' g1 g2 g3 => h vs G' H' S' g1 g2 (a.trans g3)
theorem tT_bindDs {fa : FT} {k : D → Env → R (List D)} {Q : List V → Hp → Prop} {R : V → Hp → Prop} (st : ES X.K X.mg P σ G H env S) (h : CDs X W P σ G H S ((dfz fa env).bind k) Q)
    (hk : ∀ d env1 v G1 H1 S1, GotD X.K X.mg P σ G H S v d env1 G1 H1 S1 → CDs X W P σ G1 H1 S1 (k d env1) Q → R v H1) : tT X W fa σ H R := by
  refine ⟨env, P, G, S, st, ?_⟩
  unfold dfz at h
  cases e : fa env with
  | stuck => rw [e] at h; exact h
  | exc x e1 => rw [e] at h; exact h
  | ok t e1 =>
    rw [e] at h
    intro v G' H' S1 S2 g
    change CDs X W P σ G H S ((fzR t e1).bind k) Q at h
    unfold fzR at h
    cases ez : t.fz with
    | none => rw [ez] at h; exact h.elim
    | some d =>
      rw [ez] at h
      obtain ⟨G2, gd⟩ := freeze g ez
      exact hk d e1 v G2 H' S2 gd (CDs.base gd.st h)
theorem a_nil : AOk X W [] [] := ⟨paW pa_nil fun σ H Q q => by
  obtain ⟨env, P, G, S, st, h⟩ := q
  exact h [] G H S .nil st (Stp.refl _ _ _)⟩
theorem a_cons (he : TOk X W e f) (hr : AOk X W es fs) (hs : starEach (e :: es) X.env = (false, eval e X.env) :: starEach es X.env := by rfl) : AOk X W (e :: es) (f :: fs) := ⟨paW (pa_cons he.pe hr.pa hs) fun σ H Q q => by
  obtain ⟨env, P, G, S, st, h⟩ := q
  refine tT_bindDs (k := fun d env => (fDs fs env).bind fun ds env => .ok (d :: ds) env) st h fun d env1 v G1 H1 S1 g c => ?_
  refine ⟨env1, P, G1, S1, g.es, ?_⟩
  cases q : fDs fs env1 with
  | stuck => rw [q] at c; exact c
  | exc x e1 => rw [q] at c; exact c
  | ok ds e1 => rw [q] at c; exact fun vs G' H' S' a1 a2 a3 => c (v :: vs) G' H' S' (.cons (g.dv.mono a3.gg) a1) a2 a3⟩
/-- then an operation -/
theorem runC {r : List V → Hp → VK → Prop} {g : List D → Option T} (lk : LkC X r g) (q : tT X W (fun env => (fDs fs env).bind fun ds env => opt (g ds) env) σ H Q) : tDA X W fs σ H fun vs H1 => r vs H1 Q := by
  obtain ⟨env, P, G, S, st, h⟩ := q
  change CT X.K X.mg W P σ G H S ((fDs fs env).bind fun ds env => opt (g ds) env) Q at h
  refine ⟨env, P, G, S, st, ?_⟩
  cases q : fDs fs env with
  | stuck => rw [q] at h; exact h
  | exc x e1 => rw [q] at h; exact h
  | ok ds e1 =>
    rw [q] at h
    intro vs G' H' S' a1 a2 a3
    obtain ⟨t, e, k⟩ := (CT.base a3 h).opt a2
    exact lk P G' H' vs ds t Q a2.ge a1 e k
end
def fBC (g : List D → Option T) (fs : List FT) : FT := fun env => (fDs fs env).bind fun ds env => opt (g ds) env
section
variable {X : Cx} {W : WX} {e : Expr} {es : List Expr} {f : FT} {fs : List FT} {x : Str} {p pos : Pos} {id ty : String} {r : List V → Hp → VK → Prop} {g : List D → Option T}
theorem t_callB (hc : CallR X (.builtin id) r) (lk : LkC X r g) (hg : Gl X x) (hm : X.mg x = none) (hv : bootBuiltins x = some (.builtin id)) (ha : AOk X W (e :: es) fs) (hn : x ≠ "__name__" := by decide) (hdb : (x == ("__debug__" : Str)) = false := by decide)
    (he : starEach (e :: es) X.env = (false, eval e X.env) :: starEach es X.env := by rfl) (hpl : (backTo pos (starEach es X.env)).any (·.1) = false := by rfl) : TOk X W (.Call (.Name x p) (e :: es) [] pos) (fBC g fs) :=
  ⟨peW (pe_callB hc hg hm hv ha.pa hn hdb he hpl) fun σ H Q q => runC lk q⟩
theorem t_callTy (hc : CallR X (.type ty) r) (lk : LkC X r g) (hg : Gl X x) (hm : X.mg x = none) (hv : bootBuiltins x = some (.type ty)) (ha : AOk X W (e :: es) fs) (hn : x ≠ "__name__" := by decide) (hdb : (x == ("__debug__" : Str)) = false := by decide)
    (he : starEach (e :: es) X.env = (false, eval e X.env) :: starEach es X.env := by rfl) (hpl : (backTo pos (starEach es X.env)).any (·.1) = false := by rfl) : TOk X W (.Call (.Name x p) (e :: es) [] pos) (fBC g fs) :=
  ⟨peW (pe_callTy hc hg hm hv ha.pa hn hdb he hpl) fun σ H Q q => runC lk q⟩
end
/-! ### pure arguments -/
def pDs : List FP → Env → Option (List D)
  | [], _ => some []
  | p :: ps, env => (p env).bind fun t => t.dz.bind fun d => (pDs ps env).bind fun ds => some (d :: ds)
def tPA (X : Cx) (ps : List FP) : TA := fun σ H Q => ∃ env P G S, ES X.K X.mg P σ G H env S ∧ ∃ ds, pDs ps env = some ds ∧ ∀ vs, DVs X.K X.mg H vs ds → Q vs H
structure AOkP (X : Cx) (es : List Expr) (ps : List FP) : Prop where
  pa : PA X es (tPA X ps)
def pBC (g : List D → Option D) (ps : List FP) : FP := fun env => (pDs ps env).bind fun ds => (g ds).map .dat
/-- pure arguments, an operation that may lay new things -/
def fPC (g : List D → Option T) (ps : List FP) : FT := fun env => opt ((pDs ps env).bind g) env
/-- new things of scalars alone hang on no ghost -/
def LkH (X : Cx) (r : List V → Hp → VK → Prop) (g : List D → Option T) : Prop := ∀ (P : AS) (G H : Hp) (vs : List V) (ds : List D) (t : T) (Q : VK), Same G H → DVs X.K X.mg H vs ds → g ds = some t → (∀ w G' H' S1, Res X P G H w t G' H' S1 → Q w H') → r vs H Q
section
variable {X : Cx} {W : WX} {P : AS} {σ : L2.St} {G H : Hp} {S : AS} {env : Env} {Q : VK} {e : Expr} {es : List Expr} {p : FP} {ps : List FP} {x : Str} {pp pos : Pos} {id ty : String} {r : List V → Hp → VK → Prop}
theorem ap_nil : AOkP X [] [] := ⟨paW pa_nil fun σ H Q q => by
  obtain ⟨env, P, G, S, st, ds, e, h⟩ := q
  cases e
  exact h [] .nil⟩
theorem ap_cons (he : POk X e p) (hr : AOkP X es ps) (hs : starEach (e :: es) X.env = (false, eval e X.env) :: starEach es X.env := by rfl) : AOkP X (e :: es) (p :: ps) := ⟨paW (pa_cons he.pe hr.pa hs) fun σ H Q q => by
  obtain ⟨env, P, G, S, st, ds, e, h⟩ := q
  obtain ⟨t, e1, e⟩ := bind_some e
  obtain ⟨d, e2, e⟩ := bind_some e
  obtain ⟨ds', e3, e⟩ := bind_some e
  cases e
  exact ⟨env, P, G, S, st, t, e1, fun v tv => ⟨env, P, G, S, st, ds', e3, fun vs dv => h (v :: vs) (.cons (viewD st.ge tv e2) dv)⟩⟩⟩
theorem runPC {g : List D → Option D} (ls : LSC X r g) (q : tP X (pBC g ps) σ H Q) : tPA X ps σ H fun vs H1 => r vs H1 Q := by
  obtain ⟨env, P, G, S, st, t, et, h⟩ := q
  obtain ⟨ds, e1, et⟩ := bind_some et
  obtain ⟨d', e2, rfl⟩ := map_dat et
  exact ⟨env, P, G, S, st, ds, e1, fun vs dv => ls H vs ds d' Q dv e2 fun w s => h w (.own (.dat s.dv))⟩
theorem runPH {g : List D → Option T} (lk : LkH X r g) (q : tT X W (fPC g ps) σ H Q) : tPA X ps σ H fun vs H1 => r vs H1 Q := by
  obtain ⟨env, P, G, S, st, h⟩ := q
  obtain ⟨t, e, k⟩ := CT.opt st h
  obtain ⟨ds, e1, e2⟩ := bind_some e
  exact ⟨env, P, G, S, st, ds, e1, fun vs dv => lk P G H vs ds t Q st.ge dv e2 k⟩
theorem p_callB {g : List D → Option D} (hc : CallR X (.builtin id) r) (ls : LSC X r g) (hg : Gl X x) (hm : X.mg x = none) (hv : bootBuiltins x = some (.builtin id)) (ha : AOkP X (e :: es) ps) (hn : x ≠ "__name__" := by decide) (hdb : (x == ("__debug__" : Str)) = false := by decide)
    (he : starEach (e :: es) X.env = (false, eval e X.env) :: starEach es X.env := by rfl) (hpl : (backTo pos (starEach es X.env)).any (·.1) = false := by rfl) : POk X (.Call (.Name x pp) (e :: es) [] pos) (pBC g ps) :=
  ⟨peW (pe_callB hc hg hm hv ha.pa hn hdb he hpl) fun σ H Q q => runPC ls q⟩
theorem p_callTy {g : List D → Option D} (hc : CallR X (.type ty) r) (ls : LSC X r g) (hg : Gl X x) (hm : X.mg x = none) (hv : bootBuiltins x = some (.type ty)) (ha : AOkP X (e :: es) ps) (hn : x ≠ "__name__" := by decide) (hdb : (x == ("__debug__" : Str)) = false := by decide)
    (he : starEach (e :: es) X.env = (false, eval e X.env) :: starEach es X.env := by rfl) (hpl : (backTo pos (starEach es X.env)).any (·.1) = false := by rfl) : POk X (.Call (.Name x pp) (e :: es) [] pos) (pBC g ps) :=
  ⟨peW (pe_callTy hc hg hm hv ha.pa hn hdb he hpl) fun σ H Q q => runPC ls q⟩
theorem h_callB {g : List D → Option T} (hc : CallR X (.builtin id) r) (lk : LkH X r g) (hg : Gl X x) (hm : X.mg x = none) (hv : bootBuiltins x = some (.builtin id)) (ha : AOkP X (e :: es) ps) (hn : x ≠ "__name__" := by decide) (hdb : (x == ("__debug__" : Str)) = false := by decide)
    (he : starEach (e :: es) X.env = (false, eval e X.env) :: starEach es X.env := by rfl) (hpl : (backTo pos (starEach es X.env)).any (·.1) = false := by rfl) : TOk X W (.Call (.Name x pp) (e :: es) [] pos) (fPC g ps) :=
  ⟨peW (pe_callB hc hg hm hv ha.pa hn hdb he hpl) fun σ H Q q => runPH lk q⟩
theorem h_callTy {g : List D → Option T} (hc : CallR X (.type ty) r) (lk : LkH X r g) (hg : Gl X x) (hm : X.mg x = none) (hv : bootBuiltins x = some (.type ty)) (ha : AOkP X (e :: es) ps) (hn : x ≠ "__name__" := by decide) (hdb : (x == ("__debug__" : Str)) = false := by decide)
    (he : starEach (e :: es) X.env = (false, eval e X.env) :: starEach es X.env := by rfl) (hpl : (backTo pos (starEach es X.env)).any (·.1) = false := by rfl) : TOk X W (.Call (.Name x pp) (e :: es) [] pos) (fPC g ps) :=
  ⟨peW (pe_callTy hc hg hm hv ha.pa hn hdb he hpl) fun σ H Q q => runPH lk q⟩
end
/-! ### built-ins: len, int, list, all, any -/
theorem DVs.one {K : Frg} {mg : MG} {H : Hp} {vs : List V} {d : D} (h : DVs K mg H vs [d]) : ∃ v, vs = [v] ∧ DV K mg H v d := by
  cases h with
  | cons h r => cases r; exact ⟨_, rfl, h⟩
theorem DVs.two {K : Frg} {mg : MG} {H : Hp} {vs : List V} {d e : D} (h : DVs K mg H vs [d, e]) : ∃ v u, vs = [v, u] ∧ DV K mg H v d ∧ DV K mg H u e := by
  cases h with
  | cons h r =>
    obtain ⟨u, rfl, q⟩ := r.one
    exact ⟨_, u, rfl, h, q⟩
theorem DVk.length {K : Frg} {mg : MG} {H : Hp} : ∀ {vs : List (Key × V)} {ds : List (D × D)}, DVk K mg H vs ds → vs.length = ds.length
  | _, _, .nil => rfl
  | _, _, .cons _ _ r => congrArg (· + 1) (DVk.length r)
def gLen : List D → Option D
  | [.lst ds] => some (.int ds.length)
  | [.scr ds] => some (.int ds.length)
  | [.tup ds] => some (.int ds.length)
  | [.dic ds] => some (.int ds.length)
  | [.str z] => if z.length ≤ sizeLine then some (.int z.length) else none
  | _ => none
abbrev rLenQ (K : Frg) : List V → Hp → VK → Prop := fun xs H Q => ∃ p ys, xs = [.ref p] ∧ (SqL K H p ys ∨ SqT K H p ys) ∧ Q (.int ys.length) H
abbrev rLenZ : List V → Hp → VK → Prop := fun xs H Q => ∃ z, xs = [.str z] ∧ z.length ≤ sizeLine ∧ Q (.int z.length) H
abbrev rLenD : List V → Hp → VK → Prop := fun xs H Q => ∃ a kvs, xs = [V.ref a] ∧ H a = some (.dK kvs) ∧ Q (.int kvs.length) H
section
variable {X : Cx}
theorem call_len3 : CallR X (.builtin "len") (rOC (rLenQ X.K) (rOC rLenZ rLenD)) := callOr call_len_seq (callOr call_len_str call_lenD)
theorem ls_len : LSC X (rOC (rLenQ X.K) (rOC rLenZ rLenD)) gLen := fun H vs ds d' Q hv h k => by
  unfold gLen at h
  split at h
  · obtain ⟨v, rfl, q⟩ := hv.one
    cases h
    cases q with
    | lst ha r => exact .inl ⟨_, _, rfl, .inl (.of ha), by rw [r.length]; exact k _ (.int _)⟩
  · obtain ⟨v, rfl, q⟩ := hv.one
    cases h
    cases q with
    | scr ha r => exact .inl ⟨_, _, rfl, .inl ha, by rw [r.length]; exact k _ (.int _)⟩
  · obtain ⟨v, rfl, q⟩ := hv.one
    cases h
    cases q with
    | tup ha r => exact .inl ⟨_, _, rfl, .inr ha, by rw [r.length]; exact k _ (.int _)⟩
  · obtain ⟨v, rfl, q⟩ := hv.one
    cases h
    cases q with
    | dic ha r => exact .inr (.inr ⟨_, _, rfl, ha, by rw [r.length]; exact k _ (.int _)⟩)
  · obtain ⟨v, rfl, q⟩ := hv.one
    split at h
    · cases h
      cases q
      exact .inr (.inl ⟨_, rfl, by assumption, k _ (.int _)⟩)
    · cases h
  · cases h
def gInt : List D → Option D
  | [.int i] => some (.int i)
  | [.bl b] => some (.int (if b then 1 else 0))
  | _ => none
theorem ls_int : LSC X (fun xs H Q => (∃ i, xs = [.int i] ∧ Q (.int i) H) ∨ ∃ k, xs = [.bl k] ∧ Q (.int (if k then 1 else 0)) H) gInt := fun H vs ds d' Q hv h k => by
  unfold gInt at h
  split at h
  · obtain ⟨v, rfl, q⟩ := hv.one
    cases h
    cases q
    exact .inl ⟨_, rfl, k _ (.int _)⟩
  · obtain ⟨v, rfl, q⟩ := hv.one
    cases h
    cases q
    exact .inr ⟨_, rfl, k _ (.int _)⟩
  · cases h
def gStrI : List D → Option D
  | [.int i] => if i.natAbs.log2 < 1920 then some (.str (toString i)) else none
  | _ => none
theorem ls_strI : LSC X (fun xs H Q => ∃ i, xs = [.int i] ∧ i.natAbs.log2 < 1920 ∧ Q (.str (toString i)) H) gStrI := fun H vs ds d' Q hv h k => by
  unfold gStrI at h
  split at h
  · obtain ⟨v, rfl, q⟩ := hv.one
    split at h
    · cases h
      cases q
      exact ⟨_, rfl, by assumption, k _ (.str _)⟩
    · cases h
  · cases h
/-- lists of truth values -/
def bls : List D → Option (List Bool)
  | [] => some []
  | .bl b :: ds => (bls ds).map (b :: ·)
  | _ => none
theorem bls_vals {K : Frg} {mg : MG} {H : Hp} : ∀ {ds : List D} {vs : List V} {bs : List Bool}, DVs K mg H vs ds → bls ds = some bs → vs = bs.map V.bl
  | [], _, bs, .nil, e => by cases e; rfl
  | .bl b :: ds, _, bs, .cons h r, e => by
    simp only [bls] at e
    cases q : bls ds with
    | none => rw [q] at e; cases e
    | some cs => rw [q] at e; cases e; cases h; rw [bls_vals r q]; rfl
  | .non :: ds, _, bs, _, e => by simp [bls] at e
  | .int _ :: ds, _, bs, _, e => by simp [bls] at e
  | .str _ :: ds, _, bs, _, e => by simp [bls] at e
  | .tup _ :: ds, _, bs, _, e => by simp [bls] at e
  | .lst _ :: ds, _, bs, _, e => by simp [bls] at e
  | .scr _ :: ds, _, bs, _, e => by simp [bls] at e
  | .dic _ :: ds, _, bs, _, e => by simp [bls] at e
  | .ins _ _ :: ds, _, bs, _, e => by simp [bls] at e
def gAll : List D → Option D
  | [.lst ds] => (bls ds).map fun bs => .bl (bs.all id)
  | _ => none
def gAny : List D → Option D
  | [.lst ds] => (bls ds).map fun bs => .bl (bs.any id)
  | _ => none
theorem ls_all : LSC X (rAll X.K) gAll := fun H vs ds d' Q hv h k => by
  unfold gAll at h
  split at h
  · rename_i ds
    obtain ⟨v, rfl, q⟩ := hv.one
    cases e : bls ds with
    | none => rw [e] at h; cases h
    | some bs =>
      rw [e] at h; cases h
      cases q with
      | lst ha r => exact ⟨_, bs, rfl, by rw [← bls_vals r e]; exact .of ha, k _ (.bl _)⟩
  · cases h
theorem ls_any : LSC X (rAny X.K) gAny := fun H vs ds d' Q hv h k => by
  unfold gAny at h
  split at h
  · rename_i ds
    obtain ⟨v, rfl, q⟩ := hv.one
    cases e : bls ds with
    | none => rw [e] at h; cases h
    | some bs =>
      rw [e] at h; cases h
      cases q with
      | lst ha r => exact ⟨_, bs, rfl, by rw [← bls_vals r e]; exact .of ha, k _ (.bl _)⟩
  · cases h
end
/-! ### new lists -/
theorem DVs.tvs {K : Frg} {mg : MG} {G H : Hp} : ∀ {vs : List V} {ds : List D} {S : AS}, DVs K mg G vs ds → TVs K mg G H vs (ds.map .dat) S
  | _, _, _, .nil => .nil
  | _, _, _, .cons h r => .cons (S1 := N0) (S2 := N0) (.dat h) (DVs.tvs r) (fun _ z => z.elim) fun _ z => z.elim
theorem same_upd {H : Hp} {p : Addr} {o : HO} (h : H p = none) : Same H (upd H p o) := fun b x e => by rw [upd_ne (ne_of_none e h)]; exact e
theorem same_upd' {G H : Hp} {p : Addr} {o : HO} (ge : Same G H) (h : H p = none) : Same G (upd H p o) := ge.trans (same_upd h)
/-- a new list of data, owned -/
theorem Res.lst {X : Cx} {P : AS} {G H : Hp} {p : Addr} {vs : List V} {ds : List D} (ge : Same G H) (n : H p = none) (dv : DVs X.K X.mg G vs ds) : Res X P G H (.ref p) (.lst (ds.map .dat)) G (upd H p (.lst vs)) (fun a => a = p) :=
  ⟨⟨Same.refl _, same_upd n, same_upd' ge n, fun _ _ q => .inl q⟩, .lst upd_same rfl (DVs.tvs (S := N0) dv) (fun _ z => z.elim), fun a z => by
    rw [z]
    exact ⟨n, ge.free n, _, upd_same⟩⟩
/-- a new tuple of data, as data -/
theorem Res.tup {X : Cx} {P : AS} {G H : Hp} {p : Addr} {vs : List V} {ds : List D} (ge : Same G H) (n : H p = none) (dv : DVs X.K X.mg G vs ds) : Res X P G H (.ref p) (.dat (.tup ds)) (upd G p (.tup vs)) (upd H p (.tup vs)) N0 := by
  have gn := ge.free n
  refine ⟨⟨same_upd gn, same_upd n, fun a o q => ?_, fun a o q => ?_⟩, .dat (.tup (.of upd_same) (dv.mono (same_upd gn))), fun a z => z.elim⟩
  · by_cases h : a = p
    · rw [h, upd_same] at q ⊢; exact q
    · rw [upd_ne h] at q ⊢; exact ge _ _ q
  · by_cases h : a = p
    · exact .inr (by rw [h]; exact n)
    · rw [upd_ne h] at q; exact .inl q
def gListOf : List D → Option T
  | [.lst ds] => some (.lst (ds.map .dat))
  | [.scr ds] => some (.lst (ds.map .dat))
  | [.tup ds] => some (.lst (ds.map .dat))
  | _ => none
def gTupOf : List D → Option T
  | [.lst ds] => some (.dat (.tup ds))
  | [.scr ds] => some (.dat (.tup ds))
  | [.tup ds] => some (.dat (.tup ds))
  | _ => none
section
variable {X : Cx}
theorem lk_list : LkC X (fun xs H Q => ∃ p ys, xs = [.ref p] ∧ (SqL X.K H p ys ∨ SqT X.K H p ys) ∧ ∀ l, H l = none → Q (.ref l) (upd H l (.lst ys))) gListOf := fun P G H vs ds t Q ge hv h k => by
  unfold gListOf at h
  split at h
  · obtain ⟨v, rfl, q⟩ := hv.one
    cases h
    cases q with
    | lst ha r => exact ⟨_, _, rfl, .inl (.of (ge _ _ ha)), fun l n => k _ _ _ _ (.lst ge n r)⟩
  · obtain ⟨v, rfl, q⟩ := hv.one
    cases h
    cases q with
    | scr ha r => exact ⟨_, _, rfl, .inl (ge.seq ha), fun l n => k _ _ _ _ (.lst ge n r)⟩
  · obtain ⟨v, rfl, q⟩ := hv.one
    cases h
    cases q with
    | tup ha r => exact ⟨_, _, rfl, .inr (sqt_same ge ha), fun l n => k _ _ _ _ (.lst ge n r)⟩
  · cases h
theorem lk_tup : LkC X (fun xs H Q => ∃ p ys, xs = [.ref p] ∧ ((SqL X.K H p ys ∧ ∀ l, H l = none → Q (.ref l) (upd H l (.tup ys))) ∨ (SqT X.K H p ys ∧ Q (.ref p) H))) gTupOf := fun P G H vs ds t Q ge hv h k => by
  unfold gTupOf at h
  split at h
  · obtain ⟨v, rfl, q⟩ := hv.one
    cases h
    cases q with
    | lst ha r => exact ⟨_, _, rfl, .inl ⟨.of (ge _ _ ha), fun l n => k _ _ _ _ (.tup ge n r)⟩⟩
  · obtain ⟨v, rfl, q⟩ := hv.one
    cases h
    cases q with
    | scr ha r => exact ⟨_, _, rfl, .inl ⟨ge.seq ha, fun l n => k _ _ _ _ (.tup ge n r)⟩⟩
  · obtain ⟨v, rfl, q⟩ := hv.one
    cases h
    cases q with
    | tup ha r => exact ⟨_, _, rfl, .inr ⟨sqt_same ge ha, k _ G H N0 ⟨.refl ge, .dat (.tup ha r), fun _ z => z.elim⟩⟩⟩
  · cases h
end
/-! ### slices -/
def iR (t : T) (env : Env) : R (Option Int) := match t with
  | .dat (.int i) => .ok (some i) env
  | _ => .stuck
def oI : Option FT → Env → R (Option Int)
  | none, env => .ok none env
  | some f, env => (f env).bind iR
def fSl (g : D → Option Int → Option Int → Option T) (fa : FT) (lo hi : Option FT) : FT := fun env => (dfz fa env).bind fun d env => (oI lo env).bind fun l env => (oI hi env).bind fun u env => opt (g d l u) env
def cutD (xs : List D) (lo hi : Option Int) : List D := (xs.drop (HT.sIx xs.length 0 lo)).take (HT.sIx xs.length xs.length hi - HT.sIx xs.length 0 lo)
def gSl : D → Option Int → Option Int → Option T
  | .lst ds, l, u => some (.lst ((cutD ds l u).map .dat))
  | .scr ds, l, u => some (.lst ((cutD ds l u).map .dat))
  | .tup ds, l, u => if HT.sIx ds.length 0 l = 0 ∧ HT.sIx ds.length ds.length u = ds.length then none else some (.dat (.tup (cutD ds l u)))
  | .str z, l, u => if z.length ≤ sizeLine then some (.dat (.str (cutS z l u))) else none
  | _, _, _ => none
structure OOk (X : Cx) (W : WX) (e : Option Expr) (f : Option FT) : Prop where
  po : PO X e (match f with
    | none => tNoPart
    | some f => tPart (tT X W f))
section
variable {X : Cx} {W : WX} {P : AS} {σ : L2.St} {G H : Hp} {S : AS} {env : Env} {Q : VK} {e : Expr} {f fa : FT} {lo hi : Option Expr} {fl fh : Option FT} {p2 pos : Pos}
theorem o_none : OOk X W none none := ⟨po_none⟩
theorem o_some (h : TOk X W e f) : OOk X W (some e) (some f) := ⟨po_some h.pe⟩
theorem DVs.cut {K : Frg} {mg : MG} {vs : List V} {ds : List D} (h : DVs K mg G vs ds) (l u : Option Int) : DVs K mg G (cutV vs l u) (cutD ds l u) := by
  unfold cutV cutD
  rw [h.length]
  exact (h.drop _).take _
theorem oI_run {k : Option Int → Env → R T} (st : ES X.K X.mg P σ G H env S) (h : CT X.K X.mg W P σ G H S ((oI fl env).bind k) Q) {Z : Option Int → Hp → Prop}
    (hk : ∀ l env1 G1 H1 S1, ES X.K X.mg P σ G1 H1 env1 S1 → Stp G H S G1 H1 S1 → CT X.K X.mg W P σ G1 H1 S1 (k l env1) Q → Z l H1) : (match fl with
    | none => tNoPart
    | some f => tPart (tT X W f)) σ H Z := by
  cases fl with
  | none => exact hk none env G H S st (Stp.refl _ _ _) h
  | some f =>
    show tT X W f σ H _
    have h' : CT X.K X.mg W P σ G H S ((f env).bind fun t env => (iR t env).bind k) Q := by
      change CT X.K X.mg W P σ G H S (((f env).bind iR).bind k) Q at h
      cases e : f env with
      | stuck => rw [e] at h; exact h
      | exc x e1 => rw [e] at h; exact h
      | ok t e1 => rw [e] at h; exact h
    refine tT_bind (k := fun t env => (iR t env).bind k) st h' fun t env1 v G1 H1 S1 S2 g c => ?_
    unfold iR at c
    split at c
    · have e2 := g.tv.int_inv
      exact ⟨_, e2, hk _ env1 G1 H1 S2 g.es (g.st.less fun _ z => .inr z) (CT.base (g.st.less fun _ z => .inr z) c)⟩
    · exact c.elim
theorem sl3 : SlR X (fun x lo hi H Q => rSlL X.K x lo hi H Q ∨ (rSlT X.K x lo hi H Q ∨ rSlS x lo hi H Q)) := SlR.or sl_list (SlR.or sl_tup sl_str)
theorem t_slice (he : TOk X W e fa) (hl : OOk X W lo fl) (hu : OOk X W hi fh) : TOk X W (.Subscript e (.Slice lo hi none p2) pos) (fSl gSl fa fl fh) := ⟨peW (pe_slice sl3 he.pe hl.po hu.po) fun σ H Q q => by
  obtain ⟨env, P, G, S, st, h⟩ := q
  refine tT_bindD (k := fun d env => (oI fl env).bind fun l env => (oI fh env).bind fun u env => opt (gSl d l u) env) st h fun d env1 v G1 H1 S1 g1 c => ?_
  refine oI_run (k := fun l env => (oI fh env).bind fun u env => opt (gSl d l u) env) g1.es c fun l env2 G2 H2 S2 g2 s2 c => ?_
  refine oI_run (k := fun u env => opt (gSl d l u) env) g2 c fun u env3 G3 H3 S3 g3 s3 c => ?_
  obtain ⟨t, e, k⟩ := c.opt g3
  have dv := (g1.dv.mono s2.gg).mono s3.gg
  unfold gSl at e
  split at e
  · cases e
    cases dv with
    | lst ha r => exact .inl ⟨_, _, rfl, .of (g3.ge _ _ ha), fun p n => k _ _ _ _ (.lst g3.ge n (r.cut l u))⟩
  · cases e
    cases dv with
    | scr ha r => exact .inl ⟨_, _, rfl, g3.ge.seq ha, fun p n => k _ _ _ _ (.lst g3.ge n (r.cut l u))⟩
  · split at e
    · cases e
    · rename_i hw
      cases e
      cases dv with
      | tup ha r => exact .inr (.inl ⟨_, _, rfl, sqt_same g3.ge ha, by rw [r.length]; exact hw, fun p n => k _ _ _ _ (.tup g3.ge n (r.cut l u))⟩)
  · split at e
    · cases e
      cases dv
      exact .inr (.inr ⟨_, rfl, by assumption, k _ G3 H3 N0 (.sc g3.ge (.str _))⟩)
    · cases e
  · cases e⟩
end
end L3
/-! L3, part F: trees as arguments, displays, tests. -/
namespace L3
open PySem PySem.Spec L2
/-- an argument: a tree of its own, a slot lent (rw: it may be changed), a slot shown -/
inductive Ag where
  | tm (t : T) | rf (i : Nat) | vw (i : Nat)
inductive AV (K : Frg) (mg : MG) (P : AS) (σ : L2.St) (G H : Hp) : List V → List Ag → AS → Prop
  | nil {S : AS} : AV K mg P σ G H [] [] S
  | tm {v : V} {t : T} {vs : List V} {as : List Ag} {S S1 S2 : AS} : TV K mg G H v t S1 → AV K mg P σ G H vs as S2 → (∀ b, S1 b → S b ∧ ¬ S2 b) → (∀ b, S2 b → S b) → AV K mg P σ G H (v :: vs) (.tm t :: as) S
  | rf {i : Nat} {v : V} {vs : List V} {as : List Ag} {S : AS} : σ[i]? = some (some v) → AV K mg P σ G H vs as S → AV K mg P σ G H (v :: vs) (.rf i :: as) S
  | vw {i : Nat} {v : V} {vs : List V} {as : List Ag} {S : AS} : σ[i]? = some (some v) → AV K mg P σ G H vs as S → AV K mg P σ G H (v :: vs) (.vw i :: as) S
abbrev FA := Env → R (List Ag)
def fAnil : FA := fun env => .ok [] env
def fAt (f : FT) (r : FA) : FA := fun env => (f env).bind fun t env => (r env).bind fun as env => .ok (.tm t :: as) env
def fAg (i : Nat) (g : Ag) (r : FA) : FA := fun env => match pV i env with
  | some _ => (r env).bind fun as env => .ok (g :: as) env
  | none => .stuck
def fArf (i : Nat) (r : FA) : FA := fAg i (.rf i) r
def fAvw (i : Nat) (r : FA) : FA := fAg i (.vw i) r
structure GotA (X : Cx) (P : AS) (σ : L2.St) (G H : Hp) (S : AS) (vs : List V) (as : List Ag) (env' : Env) (G' H' : Hp) (S1 S2 : AS) : Prop where
  av : AV X.K X.mg P σ G' H' vs as S1
  es : ES X.K X.mg P σ G' H' env' S2
  ow : Own G' H' S1
  dj : Dj S1 S2
  st : Stp G H S G' H' (U S1 S2)
def CA (X : Cx) (W : WX) (P : AS) (σ : L2.St) (G H : Hp) (S : AS) (r : R (List Ag)) (Q : List V → Hp → Prop) : Prop := match r with
  | .ok as env' => ∀ vs G' H' S1 S2, GotA X P σ G H S vs as env' G' H' S1 S2 → Q vs H'
  | .exc x env' => CX3 X.K X.mg W P σ G H S x env'
  | .stuck => False
def tAA (X : Cx) (W : WX) (f : FA) : TA := fun σ H Q => ∃ env P G S, ES X.K X.mg P σ G H env S ∧ CA X W P σ G H S (f env) Q
structure AAk (X : Cx) (W : WX) (es : List Expr) (f : FA) : Prop where
  pa : PA X es (tAA X W f)
  ln : ∀ env as e, f env = .ok as e → as.length = es.length
section
variable {X : Cx} {W : WX} {P : AS} {σ : L2.St} {G H G1 H1 G2 H2 : Hp} {S S1 S2 : AS} {env : Env} {Q : VK} {e : Expr} {es : List Expr} {f : FT} {r : FA} {i : Nat} {x : Str} {pos : Pos}
theorem AV.move {K : Frg} {mg : MG} {S : AS} (e : Same G G1) (k : ∀ a o, S a → H a = some o → H1 a = some o) (kp : ∀ a o, P a → H a = some o → H1 a = some o) : ∀ {vs : List V} {as : List Ag} {S' : AS}, (∀ a, S' a → S a) → AV K mg P σ G H vs as S' → AV K mg P σ G1 H1 vs as S'
  | _, _, _, _, .nil => .nil
  | _, _, _, q, .tm h r d1 d2 => .tm (TV.move e k (fun a z => q a (d1 a z).1) h) (AV.move e k kp (fun a z => q a (d2 a z)) r) d1 d2
  | _, _, _, q, .rf h r => .rf h (AV.move e k kp q r)
  | _, _, _, q, .vw h r => .vw h (AV.move e k kp q r)
theorem AV.weak {K : Frg} {mg : MG} : ∀ {vs : List V} {as : List Ag} {S S' : AS}, (∀ a, S a → S' a) → AV K mg P σ G H vs as S → AV K mg P σ G H vs as S'
  | _, _, _, _, _, .nil => .nil
  | _, _, _, _, q, .tm h r d1 d2 => .tm h r (fun a z => ⟨q a (d1 a z).1, (d1 a z).2⟩) fun a z => q a (d2 a z)
  | _, _, _, _, q, .rf h r => .rf h (AV.weak q r)
  | _, _, _, _, q, .vw h r => .vw h (AV.weak q r)
theorem tT_bindA {fa : FT} {k : T → Env → R (List Ag)} {Q : List V → Hp → Prop} {Z : V → Hp → Prop} (st : ES X.K X.mg P σ G H env S) (h : CA X W P σ G H S ((fa env).bind k) Q)
    (hk : ∀ t env1 v G1 H1 S1 S2, Got X.K X.mg P σ G H S v t env1 G1 H1 S1 S2 → CA X W P σ G H S (k t env1) Q → Z v H1) : tT X W fa σ H Z := by
  refine ⟨env, P, G, S, st, ?_⟩
  cases e : fa env with
  | stuck => rw [e] at h; exact h
  | exc x e1 => rw [e] at h; exact h
  | ok t e1 => rw [e] at h; exact fun v G' H' S1 S2 g => hk t e1 v G' H' S1 S2 g h
theorem aa_nil : AAk X W [] fAnil := ⟨paW pa_nil fun σ H Q q => by
  obtain ⟨env, P, G, S, st, h⟩ := q
  exact h [] G H N0 S ⟨.nil, st, fun _ z => z.elim, fun _ z => z.elim, (Stp.refl _ _ _).less fun _ z => z.elim (fun z => z.elim) id⟩,
  fun env as e h => by cases h; rfl⟩
theorem bind_ok {α β : Type} {r : R α} {k : α → Env → R β} {b : β} {e : Env} (h : r.bind k = .ok b e) : ∃ a e1, r = .ok a e1 ∧ k a e1 = .ok b e := by
  cases r with
  | stuck => cases h
  | exc x e1 => cases h
  | ok a e1 => exact ⟨a, e1, rfl, h⟩
theorem aa_t (he : TOk X W e f) (hr : AAk X W es r) (hs : starEach (e :: es) X.env = (false, eval e X.env) :: starEach es X.env := by rfl) : AAk X W (e :: es) (fAt f r) := ⟨paW (pa_cons he.pe hr.pa hs) fun σ H Q q => by
  obtain ⟨env, P, G, S, st, h⟩ := q
  refine tT_bindA (k := fun t env => (r env).bind fun as env => .ok (.tm t :: as) env) st h fun t env1 v G1 H1 S1 S2 g c => ?_
  refine ⟨env1, P, G1, S2, g.es, ?_⟩
  have s2 : Stp G H S G1 H1 S2 := g.st.less fun _ z => .inr z
  cases q : r env1 with
  | stuck => rw [q] at c; exact c
  | exc x e1 => rw [q] at c; exact CX3.base s2 c
  | ok as e1 =>
    rw [q] at c
    intro vs G' H' S3 S4 a
    have fr := a.st.frame g.ow g.dj
    have ow1 := Own.stp a.st g.ow g.dj
    have dj1 : Dj S1 (U S3 S4) := Dj.stp a.st g.ow g.dj
    refine c (v :: vs) G' H' (U S1 S3) S4 ⟨.tm (S1 := S1) (S2 := S3) (g.tv.stp a.st g.dj) a.av (fun b z => ⟨.inl z, fun w => dj1 b z (.inl w)⟩) (fun b z => .inr z), a.es, fun b z => z.elim (ow1 b) (a.ow b), fun b z w => z.elim (fun z => dj1 b z (.inr w)) fun z => a.dj b z w, ?_⟩
    exact (g.st.trans fr).less fun b z => z.elim (fun z => z.elim .inl fun z => .inr (.inl z)) fun z => .inr (.inr z),
  fun env as e h => by
    obtain ⟨t, e1, h1, h⟩ := bind_ok h
    obtain ⟨as1, e2, h2, h⟩ := bind_ok h
    cases h
    simp [hr.ln _ _ _ h2]⟩
theorem pV_get (st : ES X.K X.mg P σ G H env S) {t : T} (h : pV i env = some t) : ∃ v, σ[i]? = some (some v) := by
  unfold pV at h
  split at h
  · cases h
  · rename_i t' hn e1
    obtain ⟨v, e2, _⟩ := st.sl.get e1 hn
    exact ⟨v, e2⟩
  · cases h
theorem aa_g {g : Ag} (hg : g = .rf i ∨ g = .vw i) (hN : X.N[i]? = some x) (hv : Vis X.env.scope x) (hr : AAk X W es r) (hd : (x == ("__debug__" : Str)) = false) (hcd : (x == ("__classdict__" : Str)) = false)
    (hs : starEach (.Name x pos :: es) X.env = (false, eval (.Name x pos) X.env) :: starEach es X.env) : AAk X W (.Name x pos :: es) (fAg i g r) := ⟨paW (pa_cons (pe_var hN hv hd hcd) hr.pa hs) fun σ H Q q => by
  obtain ⟨env, P, G, S, st, h⟩ := q
  unfold fAg at h
  split at h
  · rename_i t et
    obtain ⟨v, ev⟩ := pV_get st et
    refine ⟨v, ev, env, P, G, S, st, ?_⟩
    cases q : r env with
    | stuck => rw [q] at h; exact h
    | exc x e1 => rw [q] at h; exact h
    | ok as e1 =>
      rw [q] at h
      intro vs G' H' S3 S4 a
      refine h (v :: vs) G' H' S3 S4 ⟨?_, a.es, a.ow, a.dj, a.st⟩
      rcases hg with rfl | rfl
      · exact .rf ev a.av
      · exact .vw ev a.av
  · exact h.elim, fun env as e h => by
    unfold fAg at h
    split at h
    · obtain ⟨as1, e2, h2, h⟩ := bind_ok h
      cases h
      simp [hr.ln _ _ _ h2]
    · cases h⟩
theorem aa_rf (hN : X.N[i]? = some x) (hv : Vis X.env.scope x) (hr : AAk X W es r) (hd : (x == ("__debug__" : Str)) = false := by decide) (hcd : (x == ("__classdict__" : Str)) = false := by decide)
    (hs : starEach (.Name x pos :: es) X.env = (false, eval (.Name x pos) X.env) :: starEach es X.env := by rfl) : AAk X W (.Name x pos :: es) (fArf i r) := aa_g (.inl rfl) hN hv hr hd hcd hs
theorem aa_vw (hN : X.N[i]? = some x) (hv : Vis X.env.scope x) (hr : AAk X W es r) (hd : (x == ("__debug__" : Str)) = false := by decide) (hcd : (x == ("__classdict__" : Str)) = false := by decide)
    (hs : starEach (.Name x pos :: es) X.env = (false, eval (.Name x pos) X.env) :: starEach es X.env := by rfl) : AAk X W (.Name x pos :: es) (fAvw i r) := aa_g (.inr rfl) hN hv hr hd hcd hs
end
/-! ### displays -/
def tms : List Ag → Option (List T)
  | [] => some []
  | .tm t :: as => (tms as).map (t :: ·)
  | _ => none
def fLst (f : FA) : FT := fun env => (f env).bind fun as env => opt ((tms as).bind fun ts => if ts.length ≤ sizeLine then some (.lst ts) else none) env
def fTup (f : FA) : FT := fun env => (f env).bind fun as env => opt ((tms as).bind fun ts => if ts.length ≤ sizeLine then some (.tup ts) else none) env
theorem AV.tvs {K : Frg} {mg : MG} {P : AS} {σ : L2.St} {G H : Hp} : ∀ {vs : List V} {as : List Ag} {ts : List T} {S : AS}, AV K mg P σ G H vs as S → tms as = some ts → TVs K mg G H vs ts S
  | _, _, _, _, .nil, e => by cases e; exact .nil
  | _, .tm t :: as, _, _, .tm h r d1 d2, e => by
    simp only [tms] at e
    cases q : tms as with
    | none => rw [q] at e; cases e
    | some ts => rw [q] at e; cases e; exact .cons h (AV.tvs r q) d1 d2
  | _, _, _, _, .rf h r, e => by simp [tms] at e
  | _, _, _, _, .vw h r, e => by simp [tms] at e
section
variable {X : Cx} {W : WX} {es : List Expr} {f : FA} {pos : Pos} {j : Nat}
theorem disp_run {σ : L2.St} {H : Hp} {Q : VK} {mkT : List T → T} {mkH : List V → HO} (hm : ∀ {G H : Hp} {a : Addr} {vs : List V} {ts : List T} {S S1 : AS}, H a = some (mkH vs) → S a → TVs X.K X.mg G H vs ts S1 → (∀ b, S1 b → S b ∧ b ≠ a) → TV X.K X.mg G H (.ref a) (mkT ts) S)
    (q : tT X W (fun env => (f env).bind fun as env => opt ((tms as).bind fun ts => if ts.length ≤ sizeLine then some (mkT ts) else none) env) σ H Q) :
    tAA X W f σ H fun xs H1 => xs.length ≤ sizeLine ∧ ∀ p, H1 p = none → Q (.ref p) (upd H1 p (mkH xs)) := by
  obtain ⟨env, P, G, S, st, h⟩ := q
  change CT X.K X.mg W P σ G H S ((f env).bind fun as env => opt ((tms as).bind fun ts => if ts.length ≤ sizeLine then some (mkT ts) else none) env) Q at h
  refine ⟨env, P, G, S, st, ?_⟩
  cases q : f env with
  | stuck => rw [q] at h; exact h
  | exc x e1 => rw [q] at h; exact h
  | ok as e1 =>
    rw [q] at h
    intro vs G' H' S1 S2 a
    change CT X.K X.mg W P σ G H S (opt ((tms as).bind fun ts => if ts.length ≤ sizeLine then some (mkT ts) else none) e1) Q at h
    cases et : tms as with
    | none => rw [et] at h; exact h.elim
    | some ts =>
      rw [et] at h
      have tv := a.av.tvs et
      by_cases hl : ts.length ≤ sizeLine
      · rw [show ((some ts).bind fun ts => if ts.length ≤ sizeLine then some (mkT ts) else none) = some (mkT ts) from if_pos hl] at h
        refine ⟨by rw [tv.length]; exact hl, fun p n => ?_⟩
        have ne : ∀ b, S1 b → b ≠ p := fun b z e => by
          obtain ⟨_, o, q⟩ := a.ow b z
          rw [e, n] at q; cases q
        have ne2 : ∀ b, S2 b → b ≠ p := fun b z e => by
          obtain ⟨_, o, q⟩ := a.es.ow b z
          rw [e, n] at q; cases q
        have gn : G' p = none := a.es.ge.free n
        have tv' : TVs X.K X.mg G' (upd H' p (mkH vs)) vs ts S1 := tv.move (Same.refl _) (S := S1) (fun b o z q => by rw [upd_ne (ne b z)]; exact q) fun _ z => z
        refine h (.ref p) G' (upd H' p (mkH vs)) (U (fun a => a = p) S1) S2 ⟨hm upd_same (.inl rfl) tv' fun b z => ⟨.inr z, ne b z⟩, ⟨SL.move (Same.refl _) (S := S2) (fun b o z q => by rw [upd_ne (ne2 b z)]; exact q) (fun b o z q => ?_) (fun _ z => z) a.es.sl, same_upd' a.es.ge n, fun b z => ?_, fun b z => ?_⟩,
          fun b z => ?_, fun b z w => z.elim (fun z => ne2 b w z) fun z => a.dj b z w, ⟨a.st.gg, fun b o q hb => ?_, fun b z => ?_, a.st.new⟩⟩
        · rw [upd_ne (ne_of_none q n)]; exact q
        · obtain ⟨g, o, q⟩ := a.es.ow b z
          exact ⟨g, o, by rw [upd_ne (ne2 b z)]; exact q⟩
        · obtain ⟨g, o, q⟩ := a.es.pv b z
          exact ⟨g, o, by rw [upd_ne (ne_of_none q n)]; exact q⟩
        · rcases z with z | z
          · rw [z]; exact ⟨gn, _, upd_same⟩
          · obtain ⟨g, o, q⟩ := a.ow b z
            exact ⟨g, o, by rw [upd_ne (ne b z)]; exact q⟩
        · have q' := a.st.keep b o q hb
          rw [upd_ne (ne_of_none q' n)]; exact q'
        · rcases z with (z | z) | z
          · rw [z]
            by_cases hs : S p
            · exact .inl hs
            · refine .inr ?_
              cases q : H p with
              | none => rfl
              | some o => rw [a.st.keep p o q hs] at n; cases n
          · exact a.st.own b (.inl z)
          · exact a.st.own b (.inr z)
      · rw [show ((some ts).bind fun ts => if ts.length ≤ sizeLine then some (mkT ts) else none) = none from if_neg hl] at h
        exact h.elim
theorem t_lst (ha : AAk X W es f) : TOk X W (.List es pos) (fLst f) := ⟨peW (pe_lst ha.pa) fun σ H Q q => disp_run (mkT := .lst) (mkH := .lst) (fun a b c d => .lst a b c d) q⟩
theorem t_tup (ha : AAk X W es f) : TOk X W (.Tuple es j pos) (fTup f) := ⟨peW (pe_tup ha.pa) fun σ H Q q => disp_run (mkT := .tup) (mkH := .tup) (fun a b c d => .tup a b c d) q⟩
end
/-! ### tests, and, or, if -/
structure WOk (X : Cx) (W : WX) (e : Expr) (f : FB) : Prop where
  pw : PW X e (tB X W f)
def fAnd (a b : FB) : FB := fun env => (a env).bind fun k env => if k = true then b env else .ok false env
def fOr (a b : FB) : FB := fun env => (a env).bind fun k env => if k = true then .ok true env else b env
def fNot (a : FB) : FB := fun env => (a env).bind fun k env => .ok (!k) env
def fIf (c : FB) (a b : FT) : FT := fun env => (c env).bind fun k env => if k = true then a env else b env
/-- a test's answer as a value -/
def fBv (c : FB) : FT := fun env => (c env).bind fun k env => .ok (.dat (.bl k)) env
section
variable {X : Cx} {W : WX} {σ : L2.St} {P : AS} {G H : Hp} {S : AS} {env : Env} {Q : VK} {a b c e : Expr} {fa fb f : FT} {ba bb bc : FB} {pos : Pos} {rest : List Expr}
theorem runB {Z : Bool → Hp → Prop} (q : tB X W (fB f) σ H Z) : tT X W f σ H fun x H1 => ∃ k, x = .bl k ∧ Z k H1 := by
  obtain ⟨env, P, G, S, st, h⟩ := q
  refine tT_bindB (k := fun t env => match t with
  | .dat (.bl b) => .ok b env
  | _ => .stuck) st h fun t env1 v G1 H1 S1 S2 g c => ?_
  split at c
  · rename_i k
    have tv := g.tv
    refine ⟨k, ?_, c G1 H1 S2 g.es (g.st.less fun _ z => .inr z)⟩
    cases tv with
    | dat q => exact q.bl_inv
  · exact c.elim
theorem b_t (h : TOk X W e f) (hv : ∀ whole, isTrue e X.env whole = (do let v ← whole; standAt e.pos; holding [v] (truthy v)) := by intro _; rfl) : BOk X W e (fB f) := ⟨ptW (pt_val h.pe hv) fun σ H Q q => runB q⟩
theorem CB.ok {k : Bool} {Z : Bool → Hp → Prop} (st : ES X.K X.mg P σ G H env S) (h : CB X.K X.mg W P σ G H S (.ok k env) Z) : Z k H := h G H S st (Stp.refl _ _ _)
theorem w_and1 (ha : BOk X W a ba) : WOk X W (.BoolOp .And [a] pos) ba := ⟨pw_and1 ha.pt⟩
theorem w_or1 (ha : BOk X W a ba) : WOk X W (.BoolOp .Or [a] pos) ba := ⟨pw_or1 ha.pt⟩
theorem pwW {e : Expr} {t t' : TT} (h : PW X e t) (w : ∀ σ H Q, t' σ H Q → t σ H Q) : PW X e t' := ⟨fun whole pins s σ H Q I q => h.run whole pins s σ H Q I (w σ H Q q)⟩
theorem w_and (ha : BOk X W a ba) (hb : WOk X W (.BoolOp .And (b :: rest) pos) bb) : WOk X W (.BoolOp .And (a :: b :: rest) pos) (fAnd ba bb) := ⟨pwW (pw_and ha.pt hb.pw) fun σ H Q q => by
  obtain ⟨env, P, G, S, st, h⟩ := q
  refine tB_bindB (k := fun k env => if k = true then bb env else .ok false env) st h fun k env1 G1 H1 S1 e1 s1 c => ?_
  cases k with
  | true => exact iteT ⟨env1, P, G1, S1, e1, c⟩
  | false => exact iteF (CB.ok e1 c)⟩
theorem w_or (ha : BOk X W a ba) (hb : WOk X W (.BoolOp .Or (b :: rest) pos) bb) : WOk X W (.BoolOp .Or (a :: b :: rest) pos) (fOr ba bb) := ⟨pwW (pw_or ha.pt hb.pw) fun σ H Q q => by
  obtain ⟨env, P, G, S, st, h⟩ := q
  refine tB_bindB (k := fun k env => if k = true then .ok true env else bb env) st h fun k env1 G1 H1 S1 e1 s1 c => ?_
  cases k with
  | true => exact iteT (CB.ok e1 c)
  | false => exact iteF ⟨env1, P, G1, S1, e1, c⟩⟩
theorem b_w (h : WOk X W e ba) : BOk X W e ba := ⟨h.pw.pt⟩
theorem b_not (ha : BOk X W a ba) : BOk X W (.UnaryOp .Not a pos) (fNot ba) := ⟨ptW (pt_not ha.pt) fun σ H Q q => by
  obtain ⟨env, P, G, S, st, h⟩ := q
  refine tB_bindB (k := fun k env => .ok (!k) env) st h fun k env1 G1 H1 S1 e1 s1 c => ?_
  exact CB.ok e1 c⟩
theorem b_chain {op op' : CmpOp} {r r' : R2} {g g' : D → D → Option D} {pa pb pc : FP} (ho : OpR X (compareOp op) r) (ho' : OpR X (compareOp op') r') (ls : LS2 X r g) (ls' : LS2 X r' g') (ha : POk X a pa) (hb : POk X b pb) (hc : POk X c pc)
    (hm : lastMarks [op, op'] [b, c] = false := by with_unfolding_all rfl) : BOk X W (.Compare a [op, op'] [b, c] pos) (fB (fP (pChain g g' pa pb pc))) := ⟨ptW (pt_chain ho ho' ha.pe hb.pe hc.pe hm) fun σ H Q q => by
  have q1 := runB q
  have q2 : tP X (pChain g g' pa pb pc) σ H fun x H1 => ∃ k, x = .bl k ∧ Q k H1 := by
    obtain ⟨env, P, G, S, st, h⟩ := q1
    unfold fP at h
    split at h
    · rename_i d e1
      exact ⟨env, P, G, S, st, _, e1, fun v tv => okD st h tv.dat_inv⟩
    · exact h.elim
  have cw : ∀ σ H Q, tP X (pChain g g' pa pb pc) σ H Q → tChain r r' (tP X pa) (tP X pb) (tP X pc) σ H Q := fun σ H Q q => by
    obtain ⟨env, P, G, S, st, t, et, h⟩ := q
    obtain ⟨t1, e1, et⟩ := bind_some et
    obtain ⟨k, e2, et⟩ := bind_some et
    obtain ⟨ta, e3, e1⟩ := bind_some e1
    obtain ⟨tb, e4, e1⟩ := bind_some e1
    obtain ⟨d, e5, e1⟩ := bind_some e1
    obtain ⟨e, e6, e1⟩ := bind_some e1
    obtain ⟨d', e7, rfl⟩ := map_dat e1
    have ek := bOf_inv e2
    refine ⟨env, P, G, S, st, ta, e3, fun v tv => ⟨env, P, G, S, st, tb, e4, fun u tu => ls H v u d e d' _ (viewD st.ge tv e5) (viewD st.ge tu e6) e7 fun w s => ⟨k, ?_, ?_⟩⟩⟩
    · cases ek
      cases s
      rfl
    · cases k with
      | false =>
        cases et
        exact iteF (h _ (.own (.dat (.bl _))))
      | true =>
        refine iteT ?_
        obtain ⟨tb', f4, et⟩ := bind_some et
        rw [e4] at f4; cases f4
        obtain ⟨tc, f5, et⟩ := bind_some et
        obtain ⟨d2, f6, et⟩ := bind_some et
        obtain ⟨d3, f7, et⟩ := bind_some et
        obtain ⟨d4, f8, rfl⟩ := map_dat et
        exact ⟨env, P, G, S, st, tc, f5, fun w tw => ls' H u w d2 d3 d4 Q (viewD st.ge tu f6) (viewD st.ge tw f7) f8 fun z sz => h z (.own (.dat sz.dv))⟩
  exact cw _ _ _ q2⟩
theorem t_ifExp (hc : BOk X W c bc) (ha : TOk X W a fa) (hb : TOk X W b fb) : TOk X W (.IfExp c a b pos) (fIf bc fa fb) := ⟨peW (pe_ifExp hc.pt ha.pe hb.pe) fun σ H Q q => by
  obtain ⟨env, P, G, S, st, h⟩ := q
  refine tB_bind (k := fun k env => if k = true then fa env else fb env) st h fun k env1 G1 H1 S1 e1 s1 c => ?_
  cases k with
  | true => exact iteT ⟨env1, P, G1, S1, e1, c⟩
  | false => exact iteF ⟨env1, P, G1, S1, e1, c⟩⟩
theorem t_and (ha : TOk X W a fa) (hb : TOk X W (.BoolOp .And (b :: rest) pos) fb) : TOk X W (.BoolOp .And (a :: b :: rest) pos) (fIf (fB fa) fb (fC (.bl false))) := ⟨peW (pe_and ha.pe hb.pe) fun σ H Q q => by
  obtain ⟨env, P, G, S, st, h⟩ := q
  refine runB (Z := fun c H1 => if c = true then tT X W fb σ H1 Q else Q (.bl false) H1) ⟨env, P, G, S, st, ?_⟩
  have h' : CT X.K X.mg W P σ G H S ((fB fa env).bind fun k env => if k = true then fb env else fC (.bl false) env) Q := h
  cases e : fB fa env with
  | stuck => rw [e] at h'; exact h'
  | exc x e1 => rw [e] at h'; exact h'
  | ok k e1 =>
    rw [e] at h'
    intro G' H' S' g1 g2
    have c := CT.base g2 h'
    cases k with
    | true => exact iteT ⟨e1, P, G', S', g1, c⟩
    | false => exact iteF (okD g1 c (.bl false))⟩
theorem t_or (ha : TOk X W a fa) (hb : TOk X W (.BoolOp .Or (b :: rest) pos) fb) : TOk X W (.BoolOp .Or (a :: b :: rest) pos) (fIf (fB fa) (fC (.bl true)) fb) := ⟨peW (pe_or ha.pe hb.pe) fun σ H Q q => by
  obtain ⟨env, P, G, S, st, h⟩ := q
  refine runB (Z := fun c H1 => if c = true then Q (.bl true) H1 else tT X W fb σ H1 Q) ⟨env, P, G, S, st, ?_⟩
  have h' : CT X.K X.mg W P σ G H S ((fB fa env).bind fun k env => if k = true then fC (.bl true) env else fb env) Q := h
  cases e : fB fa env with
  | stuck => rw [e] at h'; exact h'
  | exc x e1 => rw [e] at h'; exact h'
  | ok k e1 =>
    rw [e] at h'
    intro G' H' S' g1 g2
    have c := CT.base g2 h'
    cases k with
    | true => exact iteT (okD g1 c (.bl true))
    | false => exact iteF ⟨e1, P, G', S', g1, c⟩⟩
theorem t_one {op : BoolOp} (ha : TOk X W a fa) : TOk X W (.BoolOp op [a] pos) fa := ⟨pe_one ha.pe⟩
theorem t_notv (ha : TOk X W a fa) : TOk X W (.UnaryOp .Not a pos) (fBv (fNot (fB fa))) := ⟨peW (pe_not ha.pe) fun σ H Q q => by
  obtain ⟨env, P, G, S, st, h⟩ := q
  refine runB (Z := fun c H1 => Q (.bl (!c)) H1) ⟨env, P, G, S, st, ?_⟩
  have h' : CT X.K X.mg W P σ G H S (((fB fa env).bind fun k env => .ok (!k) env).bind fun k env => .ok (.dat (.bl k)) env) Q := h
  cases e : fB fa env with
  | stuck => rw [e] at h'; exact h'
  | exc x e1 => rw [e] at h'; exact h'
  | ok k e1 =>
    rw [e] at h'
    intro G' H' S' g1 g2
    exact okD g1 (CT.base g2 h') (.bl _)⟩
end
end L3
/-! L3, part G: defs and their calls. -/
namespace L3
open PySem PySem.Spec L2
/-- what a body knows of its place: no exception is handled, what is raised is taken, room, no repr is running -/
structure Kit (X : Cx) (W : WX) (k : Nat) : Prop where
  calm : X.calm = true
  tk : Takes X W
  po : PassesOwn (model X.prog X.w) X.A X.env X.xe
  rm : Room k X.A
  gd : X.A.guards = some []
  nd : X.N.Nodup
abbrev W0 : WX := fun _ _ _ _ => False
theorem Kit.mono {X : Cx} {W : WX} {j k : Nat} (h : Kit X W k) (l : j ≤ k) : Kit X W j := ⟨h.calm, h.tk, h.po, h.rm.mono l, h.gd, h.nd⟩
theorem Kit.blk {X : Cx} {W : WX} {k : Nat} (h : Kit X W k) (s : Shared) (H : Hp) (scope : Scope) (cenv : PySem.Env) (fp : List Addr) : Kit (X.blk s H scope cenv fp) W0 k := ⟨h.calm, takes0, PassesOwn.never, h.rm, h.gd, h.nd⟩
theorem Kit.hu {X : Cx} {W : WX} {k : Nat} (h : Kit X W k) : X.A.units + 1 < cLine := hu_of h.rm
theorem Kit.hu64 {X : Cx} {W : WX} {k : Nat} (h : Kit X W k) : X.A.units + 64 < cLine := h.rm.units
theorem Kit.hu65 {X : Cx} {W : WX} {k : Nat} (h : Kit X W k) : X.A.units + 65 < cLine := by have := h.rm.un; omega
/-- a def keeps its promise wherever no repr is running -/
structure FnG (P : Program) (w : World) (K : Frg) (mg : MG) (base : Heap) (k : Nat) (f : Addr) (fd : FuncData) (ps : List Str) (sp : Sp) : Prop where
  len : ∀ vs H Q E, sp vs H Q E → vs.length = ps.length
  run : ∀ (A : Around) (outer : List PySem.Env) (s : Shared) (H : Hp) (args : Args) (us : List Value) (vs : List V) (Q : VK) (E : XK), Room k A → A.guards = some [] → Env0 P w K mg base A outer s H →
    BindsTo s fd args (ps.zip us) → Vals vs us → sp vs H Q E → codeAny (model P w) A (.call (.ref f) args) (CR (L2.CX P w) outer P w H s Q E) s
theorem FnG.mono {P : Program} {w : World} {K : Frg} {mg : MG} {base : Heap} {j k : Nat} {f : Addr} {fd : FuncData} {ps : List Str} {sp : Sp} (F : FnG P w K mg base j f fd ps sp) (l : j ≤ k) : FnG P w K mg base k f fd ps sp :=
  ⟨F.len, fun A outer s H args us vs Q E r g => F.run A outer s H args us vs Q E (r.mono l) g⟩
/-- a semantic function's promise: n arguments -/
def spF (K : Frg) (mg : MG) (n : Nat) (g : FT) : Sp := fun vs H Q E => vs.length = n ∧ ∃ ts P G S, ES K mg P (vs.map some) G H ts S ∧ CT K mg (fun cls dx _ H' => E cls dx H') P (vs.map some) G H S (g ts) Q
section
variable {P : Program} {w : World} {K : Frg} {mg : MG} {base : Heap}
theorem fnG_of {k : Nat} {f : Addr} {x qual : Str} {st : Stmt} {fd : FuncData} {N ps : List Str} {sp : Sp} {dvs : List V} {kws : List (Str × V)} (F : FunD K x qual (defArgs st) (defBody st) (defScope st) dvs kws f fd) (Sc : FnScope N ps (defScope st)) (len : ∀ vs H Q E, sp vs H Q E → vs.length = ps.length)
    (body : ∀ (cdv : Value) (A : Around) (outer : List PySem.Env) (s : Shared) (H : Hp) (vs : List V) (Q : VK) (E : XK), Kit (cxOf (L2.CX P w) P w K mg base N qual (defScope st) f cdv A outer s H E) (fun cls d _ H => E cls d H) k → sp vs H Q E →
      ∃ t, PSs (cxOf (L2.CX P w) P w K mg base N qual (defScope st) f cdv A outer s H E) (defBody st) t ∧ t { nx := fun _ H' => Q .non H', rt := Q } (start N vs) H) : FnG P w K mg base (k + 1) f fd ps sp := by
  obtain ⟨oc, od, dV, kV, doc, pm, an, cdv, ct, osl, rfl, lk, hcd, _, _⟩ := F.ex
  refine ⟨len, fun A outer s H args us vs Q E rm gd e0 hb rv hsp => ?_⟩
  have KX : K.In s.heap := e0.mod.kin.keeps fun b o e => (e0.bs b o e).1
  have lim : s.heap.NoLimit := e0.mod.nolimit.keeps fun b o e => (e0.bs b o e).1
  refine codeAny_call_function rm.depth (KX _ _ lk) rfl Sc.co Sc.gen rfl (PySem.W.codeRec_of KX hcd) (hb _ _ _ _ (wpAny_newFunctionEnv_cells Sc.kind (fun y hy => ?_) fun env he s1 x => ?_))
  · obtain ⟨n, v⟩ := y
    rcases Sc.par n (List.of_mem_zip hy).1 with q | q
    · exact .inl q
    · exact .inr ⟨q, PySem.W.cellsFrom_some _ _ _ (.inl q)⟩
  subst he
  refine ⟨lim.keeps x.toInCall.keep, codeAny_func ?_⟩
  have kit : Kit (cxOf (L2.CX P w) P w K mg base N qual (defScope st) f cdv A outer s H E) (fun cls d _ H => E cls d H) k :=
    ⟨rfl, takes_of rfl rfl rfl rfl, passes_of rfl, rm.deeper _, gd, Sc.nd⟩
  obtain ⟨t, ht, hq⟩ := body cdv A outer s H vs Q E kit hsp
  have I := inv_start (CX := L2.CX P w) (E := E) Sc rm.hd e0 (len _ _ _ _ hsp) rv x
  refine wpAny_mono (ht.run [] s1 (start N vs) H _ I hq) (fun fl s' hs => ?_) fun e s' hs => hs
  cases fl with
  | ret u =>
    obtain ⟨v, σ', H', J, r, q⟩ := hs
    exact ⟨v, H', J.os, J.bare, J.base, J.hok, r, q⟩
  | next =>
    obtain ⟨σ', H', J, q⟩ := hs
    exact ⟨.non, H', J.os, J.bare, J.base, J.hok, rfl, q⟩
  | brk => exact hs.elim fun _ ⟨_, _, q⟩ => False.elim q
  | cont => exact hs.elim fun _ ⟨_, _, q⟩ => False.elim q
end
/-! ### lending slots -/
/-- the trees that are handed over; lent slots are empty meanwhile -/
def takeA : List Ag → Env → Option (List T × Env)
  | [], env => some ([], env)
  | .tm t :: as, env => (takeA as env).map fun p => (t :: p.1, p.2)
  | .rf i :: as, env => match env[i]? with
    | some (.dat d) => (takeA as env).map fun p => (.dat d :: p.1, p.2)
    | some (.vw t) => (takeA as env).map fun p => (.vw t :: p.1, p.2)
    | some .no => none
    | some t => (takeA as (env.set i .no)).map fun p => (t :: p.1, p.2)
    | none => none
  | .vw i :: as, env => match env[i]? with
    | some (.dat d) => (takeA as env).map fun p => (.dat d :: p.1, p.2)
    | some (.vw t) => (takeA as env).map fun p => (.vw t :: p.1, p.2)
    | some .no => none
    | some t => (takeA as (env.set i .no)).map fun p => (.vw t :: p.1, p.2)
    | none => none
/-- a view is not given back -/
def T.ow : T → T
  | .vw _ => .no
  | t => t
/-- .. and given back: o as it was, env as it is -/
def putA : List Ag → Env → List T → Env → Env
  | .tm _ :: as, o, _ :: ts, env => putA as o ts env
  | .rf i :: as, o, t :: ts, env => match o[i]? with
    | some (.dat _) => putA as o ts env
    | some (.vw _) => putA as o ts env
    | _ => putA as (o.set i .no) ts (env.set i t.ow)
  | .vw i :: as, o, _ :: ts, env => match o[i]? with
    | some (.dat _) => putA as o ts env
    | some (.vw _) => putA as o ts env
    | some t => putA as (o.set i .no) ts (env.set i t)
    | none => env
  | _, _, _, env => env
def callF (g : FT) (as : List Ag) (env : Env) : R T := match takeA as env with
  | none => .stuck
  | some (ts, env2) => match g ts with
    | .ok t ts' => .ok t (putA as env ts' env2)
    | .exc x ts' => .exc x (putA as env ts' env2)
    | .stuck => .stuck
def fCall (g : FT) (fa : FA) : FT := fun env => (fa env).bind fun as env => callF g as env
theorem VV.moreP {K : Frg} {mg : MG} {P P' : AS} {G H : Hp} {v : V} {t : T} {S : AS} (h : VV K mg P G H v t S) (l : ∀ a, P a → P' a) : VV K mg P' G H v t S := by
  cases h with
  | own h => exact .own h
  | vw h d => exact .vw h fun b z => l b (d b z)
theorem SL.moreP {K : Frg} {mg : MG} {P P' : AS} {G H : Hp} (l : ∀ a, P a → P' a) : ∀ {σ : L2.St} {env : Env} {S : AS}, SL K mg P G H σ env S → SL K mg P' G H σ env S
  | _, _, _, .nil => .nil
  | _, _, _, .cons h r d1 d2 => .cons (h.imp id fun ⟨v, e, q⟩ => ⟨v, e, q.moreP l⟩) (SL.moreP l r) d1 d2
theorem map_pair {α : Type} {o : Option (List T × α)} {f : List T → List T} {q : List T × α} (h : (o.map fun p => (f p.1, p.2)) = some q) : ∃ ts, o = some (ts, q.2) ∧ q.1 = f ts := by
  cases o with
  | none => cases h
  | some p => cases h; exact ⟨p.1, rfl, rfl⟩
section
variable {K : Frg} {mg : MG} {P : AS} {σ : L2.St} {G H : Hp}
/-- the callee's slots, what is shown, what stays, and how all comes back -/
theorem gather : ∀ {as : List Ag} {vs : List V} {ts : List T} {env env' : Env} {S1 S2 : AS}, AV K mg P σ G H vs as S1 → SL K mg P G H σ env S2 → Dj S1 S2 → takeA as env = some (ts, env') →
    ∃ S3 SV S4 : AS, SL K mg (U P SV) G H (vs.map some) ts S3 ∧ SL K mg P G H σ env' S4 ∧ Dj S3 SV ∧ Dj S3 S4 ∧ Dj SV S4 ∧ (∀ a, S3 a → U S1 S2 a) ∧ (∀ a, SV a → U S1 S2 a) ∧ (∀ a, S4 a → U S1 S2 a) ∧
      ∀ (PP : AS) (G' H' : Hp) (ts' : List T) (S5 : AS) (e2 : Env) (S6 : AS), Same G G' → (∀ a o, SV a → H a = some o → H' a = some o) → SL K mg PP G' H' (vs.map some) ts' S5 → SL K mg P G' H' σ e2 S6 → Dj S5 SV → Dj S5 S6 → Dj SV S6 →
        ∃ S7, SL K mg P G' H' σ (putA as env ts' e2) S7 ∧ ∀ a, S7 a → S5 a ∨ SV a ∨ S6 a
  | [], _, _, env, _, S1, S2, .nil, sl, dj, e => by
    cases e
    exact ⟨N0, N0, S2, .nil, sl, fun _ z => z.elim, fun _ z => z.elim, fun _ z => z.elim, fun _ z => z.elim, fun _ z => z.elim, fun a z => .inr z, fun PP G' H' ts' S5 e2 S6 _ _ h5 h6 _ _ _ => ⟨S6, (by cases h5; exact h6), fun a z => .inr (.inr z)⟩⟩
  | .tm t :: as, _, ts, env, env', S1, S2, .tm (S1 := A1) (S2 := A2) h r d1 d2, sl, dj, e => by
    simp only [takeA] at e
    obtain ⟨ts0, e0, rfl⟩ := map_pair (q := (ts, env')) e
    obtain ⟨S3, SV, S4, a1, a2, a3, a4, a5, a6, a7, a8, a9⟩ := gather r sl (fun a z w => dj a (d2 a z) w) e0
    have out : ∀ a, A1 a → ¬ U A2 S2 a := fun a z w => w.elim (d1 a z).2 (dj a (d1 a z).1)
    refine ⟨U A1 S3, SV, S4, .cons (S1 := A1) (S2 := S3) (.inr ⟨_, rfl, .own h⟩) a1 (fun b z => ⟨.inl z, fun w => out b z (a6 b w)⟩) (fun b z => .inr z), a2, fun a z w => z.elim (fun z => out a z (a7 a w)) fun z => a3 a z w, fun a z w => z.elim (fun z => out a z (a8 a w)) fun z => a4 a z w, a5,
      fun a z => z.elim (fun z => .inl (d1 a z).1) fun z => (a6 a z).imp (d2 a) id, fun a z => (a7 a z).imp (d2 a) id, fun a z => (a8 a z).imp (d2 a) id, fun PP G' H' ts' S5 e2 S6 gg kk h5 h6 b1 b2 b3 => ?_⟩
    cases h5 with
    | cons q h5 c1 c2 =>
      obtain ⟨S7, f1, f2⟩ := a9 PP G' H' _ _ e2 S6 gg kk h5 h6 (fun a z w => b1 a (c2 a z) w) (fun a z w => b2 a (c2 a z) w) b3
      exact ⟨S7, f1, fun a z => (f2 a z).imp (c2 a) id⟩
  | .rf i :: as, v :: vs, ts, env, env', S1, S2, .rf ev r, sl, dj, e => by
    simp only [takeA] at e
    split at e
    · rename_i d ei
      obtain ⟨ts0, e0, rfl⟩ := map_pair (q := (ts, env')) e
      obtain ⟨S3, SV, S4, a1, a2, a3, a4, a5, a6, a7, a8, a9⟩ := gather r sl dj e0
      obtain ⟨v', ev', vv⟩ := sl.get ei (by intro z; cases z)
      rw [ev] at ev'; cases ev'
      refine ⟨S3, SV, S4, .cons (S1 := N0) (S2 := S3) (.inr ⟨_, rfl, .own (.dat vv.dat_inv)⟩) a1 (fun b z => z.elim) (fun b z => z), a2, a3, a4, a5, a6, a7, a8, fun PP G' H' ts' S5 e2 S6 gg kk h5 h6 b1 b2 b3 => ?_⟩
      cases h5 with
      | cons q h5 c1 c2 =>
        obtain ⟨S7, f1, f2⟩ := a9 PP G' H' _ _ e2 S6 gg kk h5 h6 (fun a z w => b1 a (c2 a z) w) (fun a z w => b2 a (c2 a z) w) b3
        refine ⟨S7, ?_, fun a z => (f2 a z).imp (c2 a) id⟩
        simp only [putA, ei]
        exact f1
    · rename_i t ei
      obtain ⟨ts0, e0, rfl⟩ := map_pair (q := (ts, env')) e
      obtain ⟨S3, SV, S4, a1, a2, a3, a4, a5, a6, a7, a8, a9⟩ := gather r sl dj e0
      obtain ⟨v', ev', vv⟩ := sl.get ei (by intro z; cases z)
      rw [ev] at ev'; cases ev'
      have vv' : VV K mg (U P SV) G H v (.vw t) N0 := by
        cases vv with
        | own q => cases q
        | vw q d => exact .vw q fun b z => .inl (d b z)
      refine ⟨S3, SV, S4, .cons (S1 := N0) (S2 := S3) (.inr ⟨_, rfl, vv'⟩) a1 (fun b z => z.elim) (fun b z => z), a2, a3, a4, a5, a6, a7, a8, fun PP G' H' ts' S5 e2 S6 gg kk h5 h6 b1 b2 b3 => ?_⟩
      cases h5 with
      | cons q h5 c1 c2 =>
        obtain ⟨S7, f1, f2⟩ := a9 PP G' H' _ _ e2 S6 gg kk h5 h6 (fun a z w => b1 a (c2 a z) w) (fun a z w => b2 a (c2 a z) w) b3
        refine ⟨S7, ?_, fun a z => (f2 a z).imp (c2 a) id⟩
        simp only [putA, ei]
        exact f1
    · cases e
    · rename_i t n1 n2 n3 ei
      obtain ⟨ts0, e0, rfl⟩ := map_pair (q := (ts, env')) e
      obtain ⟨v', T1, T2, ev', vv, sl', dd, l1, l2⟩ := sl.take ei n3
      rw [ev] at ev'; cases ev'
      obtain ⟨S3, SV, S4, a1, a2, a3, a4, a5, a6, a7, a8, a9⟩ := gather r sl' (fun a z w => dj a z (l2 a w)) e0
      have out : ∀ a, T1 a → ¬ U S1 T2 a := fun a z w => w.elim (fun w => dj a w (l1 a z)) (dd a z)
      refine ⟨U T1 S3, SV, S4, .cons (S1 := T1) (S2 := S3) (.inr ⟨_, rfl, vv.moreP fun a z => .inl z⟩) a1 (fun b z => ⟨.inl z, fun w => out b z (a6 b w)⟩) (fun b z => .inr z), a2, fun a z w => z.elim (fun z => out a z (a7 a w)) fun z => a3 a z w,
        fun a z w => z.elim (fun z => out a z (a8 a w)) fun z => a4 a z w, a5, fun a z => z.elim (fun z => .inr (l1 a z)) fun z => (a6 a z).imp id (l2 a), fun a z => (a7 a z).imp id (l2 a), fun a z => (a8 a z).imp id (l2 a), fun PP G' H' ts' S5 e2 S6 gg kk h5 h6 b1 b2 b3 => ?_⟩
      cases h5 with
      | cons q h5 c1 c2 =>
        rename_i tq tsq Q1 Q2
        have vq : tq.ow = .no ∨ ∃ v', some v = some v' ∧ VV K mg P G' H' v' tq.ow Q1 := by
          rcases q with q | ⟨v', ee, q⟩
          · exact .inl (by rw [q]; rfl)
          · cases q with
            | own q =>
              refine .inr ⟨v', ee, ?_⟩
              cases q with
              | no => exact .own .no
              | dat h => exact .own (.dat h)
              | tup a b c e => exact .own (.tup a b c e)
              | lst a b c e => exact .own (.lst a b c e)
              | dic a b c e => exact .own (.dic a b c e)
              | ins a b c e f g i => exact .own (.ins a b c e f g i)
            | vw q d => exact .inl rfl
        obtain ⟨S7, f1, f2⟩ := a9 PP G' H' _ _ (e2.set i tq.ow) (U Q1 S6) gg kk h5 (by
          have := h6.put (i := i) (s := some v) (t := tq.ow) (S' := Q1) vq fun a z w => b2 a (c1 a z).1 w
          rw [set_same ev] at this
          exact this) (fun a z w => b1 a (c2 a z) w) (fun a z w => w.elim (fun w => (c1 a w).2 z) (b2 a (c2 a z))) fun a z w => w.elim (fun w => b1 a (c1 a w).1 z) (b3 a z)
        refine ⟨S7, ?_, fun a z => ?_⟩
        · simp only [putA]
          split
          · rename_i d e9; rw [ei] at e9; cases e9; exact (n1 _ rfl).elim
          · rename_i d e9; rw [ei] at e9; cases e9; exact (n2 _ rfl).elim
          · exact f1
        · rcases f2 a z with w | w | w
          · exact .inl (c2 a w)
          · exact .inr (.inl w)
          · exact w.elim (fun w => .inl (c1 a w).1) fun w => .inr (.inr w)
    · cases e
  | .vw i :: as, v :: vs, ts, env, env', S1, S2, .vw ev r, sl, dj, e => by
    simp only [takeA] at e
    split at e
    · rename_i d ei
      obtain ⟨ts0, e0, rfl⟩ := map_pair (q := (ts, env')) e
      obtain ⟨S3, SV, S4, a1, a2, a3, a4, a5, a6, a7, a8, a9⟩ := gather r sl dj e0
      obtain ⟨v', ev', vv⟩ := sl.get ei (by intro z; cases z)
      rw [ev] at ev'; cases ev'
      refine ⟨S3, SV, S4, .cons (S1 := N0) (S2 := S3) (.inr ⟨_, rfl, .own (.dat vv.dat_inv)⟩) a1 (fun b z => z.elim) (fun b z => z), a2, a3, a4, a5, a6, a7, a8, fun PP G' H' ts' S5 e2 S6 gg kk h5 h6 b1 b2 b3 => ?_⟩
      cases h5 with
      | cons q h5 c1 c2 =>
        obtain ⟨S7, f1, f2⟩ := a9 PP G' H' _ _ e2 S6 gg kk h5 h6 (fun a z w => b1 a (c2 a z) w) (fun a z w => b2 a (c2 a z) w) b3
        refine ⟨S7, ?_, fun a z => (f2 a z).imp (c2 a) id⟩
        simp only [putA, ei]
        exact f1
    · rename_i t ei
      obtain ⟨ts0, e0, rfl⟩ := map_pair (q := (ts, env')) e
      obtain ⟨S3, SV, S4, a1, a2, a3, a4, a5, a6, a7, a8, a9⟩ := gather r sl dj e0
      obtain ⟨v', ev', vv⟩ := sl.get ei (by intro z; cases z)
      rw [ev] at ev'; cases ev'
      have vv' : VV K mg (U P SV) G H v (.vw t) N0 := by
        cases vv with
        | own q => cases q
        | vw q d => exact .vw q fun b z => .inl (d b z)
      refine ⟨S3, SV, S4, .cons (S1 := N0) (S2 := S3) (.inr ⟨_, rfl, vv'⟩) a1 (fun b z => z.elim) (fun b z => z), a2, a3, a4, a5, a6, a7, a8, fun PP G' H' ts' S5 e2 S6 gg kk h5 h6 b1 b2 b3 => ?_⟩
      cases h5 with
      | cons q h5 c1 c2 =>
        obtain ⟨S7, f1, f2⟩ := a9 PP G' H' _ _ e2 S6 gg kk h5 h6 (fun a z w => b1 a (c2 a z) w) (fun a z w => b2 a (c2 a z) w) b3
        refine ⟨S7, ?_, fun a z => (f2 a z).imp (c2 a) id⟩
        simp only [putA, ei]
        exact f1
    · cases e
    · rename_i t n1 n2 n3 ei
      obtain ⟨ts0, e0, rfl⟩ := map_pair (q := (ts, env')) e
      obtain ⟨v', T1, T2, ev', vv, sl', dd, l1, l2⟩ := sl.take ei n3
      rw [ev] at ev'; cases ev'
      obtain ⟨S3, SV, S4, a1, a2, a3, a4, a5, a6, a7, a8, a9⟩ := gather r sl' (fun a z w => dj a z (l2 a w)) e0
      have out : ∀ a, T1 a → ¬ U S1 T2 a := fun a z w => w.elim (fun w => dj a w (l1 a z)) (dd a z)
      have tv : TV K mg G H v t T1 := by
        cases vv with
        | own q => exact q
        | vw q d => exact (n2 _ rfl).elim
      refine ⟨S3, U T1 SV, S4, .cons (S1 := N0) (S2 := S3) (.inr ⟨_, rfl, .vw tv fun a z => .inr (.inl z)⟩) (SL.moreP (fun a z => z.imp id .inr) a1) (fun b z => z.elim) (fun b z => z), a2, fun a z w => w.elim (fun w => out a w (a6 a z)) (a3 a z), a4,
        fun a z w => z.elim (fun z => out a z (a8 a w)) fun z => a5 a z w, fun a z => (a6 a z).imp id (l2 a), fun a z => z.elim (fun z => .inr (l1 a z)) fun z => (a7 a z).imp id (l2 a), fun a z => (a8 a z).imp id (l2 a), fun PP G' H' ts' S5 e2 S6 gg kk h5 h6 b1 b2 b3 => ?_⟩
      cases h5 with
      | cons q h5 c1 c2 =>
        have tv' : TV K mg G' H' v t T1 := tv.move gg (S := T1) (fun a o z q => kk a o (.inl z) q) fun _ z => z
        obtain ⟨S7, f1, f2⟩ := a9 PP G' H' _ _ (e2.set i t) (U T1 S6) gg (fun a o z q => kk a o (.inr z) q) h5 (by
          have := h6.put (i := i) (s := some v) (t := t) (S' := T1) (.inr ⟨v, rfl, .own tv'⟩) fun a z w => b3 a (.inl z) w
          rw [set_same ev] at this
          exact this) (fun a z w => b1 a (c2 a z) (.inr w)) (fun a z w => w.elim (fun w => b1 a (c2 a z) (.inl w)) (b2 a (c2 a z))) fun a z w => w.elim (fun w => out a w (a7 a z)) (b3 a (.inr z))
        refine ⟨S7, ?_, fun a z => ?_⟩
        · simp only [putA]
          split
          · rename_i d e9; rw [ei] at e9; cases e9; exact (n1 _ rfl).elim
          · rename_i d e9; rw [ei] at e9; cases e9; exact (n2 _ rfl).elim
          · rename_i d _ _ e9; rw [ei] at e9; cases e9; exact f1
          · rename_i e9; rw [ei] at e9; cases e9
        · rcases f2 a z with w | w | w
          · exact .inl (c2 a w)
          · exact .inr (.inl (.inr w))
          · exact w.elim (fun w => .inr (.inl (.inl w))) fun w => .inr (.inr w)
    · cases e
end
end L3
/-! L3, part H: calls. -/
namespace L3
open PySem PySem.Spec L2
section
variable {K : Frg} {mg : MG} {W : WX} {P : AS} {σ : L2.St} {G H G1 H1 : Hp} {S S1 S2 : AS} {env env1 : Env} {Q : VK} {vs : List V} {as : List Ag} {g : FT} {n : Nat}
theorem Stp.more {G H G1 H1 : Hp} {S S' S1 : AS} (a : Stp G H S G1 H1 S1) (l : ∀ x, S x → S' x) : Stp G H S' G1 H1 S1 :=
  ⟨a.gg, fun x o e n => a.keep x o e fun z => n (l x z), fun x z => (a.own x z).imp (l x) id, fun x o e => (a.new x o e).imp id fun q => q.imp (l x) id⟩
theorem call_run (st : ES K mg P σ G H env S) (av : AV K mg P σ G1 H1 vs as S1) (es : ES K mg P σ G1 H1 env1 S2) (ow : Own G1 H1 S1) (dj : Dj S1 S2) (sp : Stp G H S G1 H1 (U S1 S2)) (hn : vs.length = n)
    (h : CT K mg W P σ G H S (callF g as env1) Q) : spF K mg n g vs H1 Q (fun cls dx H' => W cls dx σ H') := by
  unfold callF at h
  split at h
  · exact h.elim
  rename_i ts env2 et
  obtain ⟨S3, SV, S4, a1, a2, a3, a4, a5, a6, a7, a8, a9⟩ := gather av es.sl dj et
  have owA : Own G1 H1 (U S1 S2) := fun a z => z.elim (ow a) (es.ow a)
  have pA : ∀ a, P a → ¬ U S1 S2 a := fun a z w => by
    obtain ⟨ns, o, e⟩ := st.pv a z
    rcases sp.own a w with q | q
    · exact ns q
    · rw [e] at q; cases q
  have hP : ∀ a, P a → ∃ o, H1 a = some o := fun a z => (es.pv a z).2
  have own3 : Own G1 H1 S3 := fun a z => owA a (a6 a z)
  have es3 : ES K mg (U P SV) (vs.map some) G1 H1 ts S3 := ⟨a1, es.ge, own3, fun a z => z.elim (fun z => ⟨fun w => pA a z (a6 a w), hP a z⟩) fun z => ⟨fun w => a3 a w z, (owA a (a7 a z)).2⟩⟩
  refine ⟨hn, ts, U P SV, G1, S3, es3, ?_⟩
  -- what holds behind the callee
  have back : ∀ (G' H' : Hp) (Sr S5 : AS) (ts' : List T), Stp G1 H1 S3 G' H' (U Sr S5) → ES K mg (U P SV) (vs.map some) G' H' ts' S5 →
      ∃ S7, ES K mg P σ G' H' (putA as env1 ts' env2) S7 ∧ (∀ a, S7 a → S5 a ∨ SV a ∨ S4 a) ∧ Stp G H S G' H' (U Sr S7) := fun G' H' Sr S5 ts' s5 e5 => by
    have dV : Dj SV S3 := fun a z w => a3 a w z
    have d4 : Dj S4 S3 := fun a z w => a4 a w z
    have oV : Own G1 H1 SV := fun a z => owA a (a7 a z)
    have o4 : Own G1 H1 S4 := fun a z => owA a (a8 a z)
    have oV' := Own.stp s5 oV dV
    have o4' := Own.stp s5 o4 d4
    have jV := Dj.stp s5 oV dV
    have j4 := Dj.stp s5 o4 d4
    have keepV : ∀ a o, SV a → H1 a = some o → H' a = some o := fun a o z q => s5.keep a o q fun w => a3 a w z
    have keep4 : ∀ a o, S4 a → H1 a = some o → H' a = some o := fun a o z q => s5.keep a o q fun w => a4 a w z
    have keepP : ∀ a o, P a → H1 a = some o → H' a = some o := fun a o z q => s5.keep a o q fun w => pA a z (a6 a w)
    obtain ⟨S7, f1, f2⟩ := a9 (U P SV) G' H' ts' S5 env2 S4 s5.gg keepV e5.sl (SL.move s5.gg (S := S4) keep4 keepP (fun _ z => z) a2) (fun a z w => jV a w (.inr z)) (fun a z w => j4 a w (.inr z)) a5
    refine ⟨S7, ⟨f1, e5.ge, fun a z => ?_, fun a z => ⟨fun w => ?_, ?_⟩⟩, f2, ?_⟩
    · rcases f2 a z with w | w | w
      · exact e5.ow a w
      · exact oV' a w
      · exact o4' a w
    · rcases f2 a w with q | q | q
      · exact (e5.pv a (.inl z)).1 q
      · exact pA a z (a7 a q)
      · exact pA a z (a8 a q)
    · obtain ⟨o, q⟩ := hP a z
      exact ⟨o, keepP a o z q⟩
    · have fr : Stp G1 H1 (U (U SV S4) S3) G' H' (U (U SV S4) (U Sr S5)) := s5.frame (fun a z => z.elim (oV a) (o4 a)) fun a z w => z.elim (fun z => dV a z w) fun z => d4 a z w
      refine (sp.trans (fr.more fun a z => z.elim (fun z => z.elim (a7 a) (a8 a)) (a6 a))).less fun a z => ?_
      rcases z with z | z
      · exact .inr (.inl z)
      · rcases f2 a z with w | w | w
        · exact .inr (.inr w)
        · exact .inl (.inl w)
        · exact .inl (.inr w)
  cases eg : g ts with
  | stuck => rw [eg] at h; exact h
  | exc x ts' =>
    rw [eg] at h
    intro cls dx G' H' S5 ev e5 s5
    obtain ⟨S7, b1, b2, b3⟩ := back G' H' N0 S5 ts' (s5.less fun a z => z.elim (fun z => z.elim) id) e5
    exact h cls dx G' H' S7 ev b1 (b3.less fun a z => .inr z)
  | ok t ts' =>
    rw [eg] at h
    intro v G' H' Sr S5 r
    obtain ⟨S7, b1, b2, b3⟩ := back G' H' Sr S5 ts' r.st r.es
    have jV := Dj.stp r.st (fun a z => owA a (a7 a z)) fun a z w => a3 a w z
    have j4 := Dj.stp r.st (fun a z => owA a (a8 a z)) fun a z w => a4 a w z
    refine h v G' H' Sr S7 ⟨r.tv, b1, r.ow, fun a z w => ?_, b3⟩
    rcases b2 a w with q | q | q
    · exact r.dj a z q
    · exact jV a q (.inl z)
    · exact j4 a q (.inl z)
end
/-- scalars for defaults -/
inductive ScAll : List V → List D → Prop
  | nil : ScAll [] []
  | cons {v : V} {d : D} {vs : List V} {ds : List D} : Sc v d → ScAll vs ds → ScAll (v :: vs) (d :: ds)
def dfA (dd : List D) : List Ag := dd.map fun d => .tm (.dat d)
theorem AV.defs {K : Frg} {mg : MG} {P : AS} {σ : L2.St} {G H : Hp} : ∀ {vs : List V} {as : List Ag} {S : AS} {ws : List V} {dd : List D}, AV K mg P σ G H vs as S → ScAll ws dd → AV K mg P σ G H (vs ++ ws) (as ++ dfA dd) S
  | _, _, _, _, _, .nil, .nil => .nil
  | [], [], S, _, _, .nil, .cons s r => .tm (S1 := N0) (S2 := S) (.dat s.dv) (AV.defs (vs := []) .nil r) (fun _ z => z.elim) fun _ z => z
  | _, _, _, _, _, .tm h r d1 d2, s => .tm h (AV.defs r s) d1 d2
  | _, _, _, _, _, .rf h r, s => .rf h (AV.defs r s)
  | _, _, _, _, _, .vw h r, s => .vw h (AV.defs r s)
/-- the defaults behind the written arguments -/
def fDf (dd : List D) (fa : FA) : FA := fun env => (fa env).bind fun as env => .ok (as ++ dfA dd) env
section
variable {X : Cx} {W : WX} {k : Nat} {f : Addr} {fd : FuncData} {ps : List Str} {g : FT} {n : Nat} {σ : L2.St} {H : Hp} {s : Shared} {pins : List (Addr × Obj)} {Q : VK} {us : List Value} {vs : List V} {sp : Sp}
theorem run_fnG (kit : Kit X W k) (F : FnG X.prog X.w X.K X.mg X.base k f fd ps sp) {ds : List Value} (hb : Binds X.K fd ps ds) {ws : List V} (hd : Vals ws ds) (I : Inv X pins σ H s) (r : Vals vs us) (h : sp (vs ++ ws) H Q (fun cls dx H' => W cls dx σ H')) :
    wpAny (model X.prog X.w) X.A (call (.ref f) us) (EP X pins σ Q) X.xe s := by
  have r2 := r.append hd
  have hl : (us ++ ds).length = ps.length := r2.length.symm.trans (F.len _ _ _ _ h)
  refine wpAny_call (codeAny_mono (F.run X.A X.stack s H ⟨us, []⟩ _ _ Q _ kit.rm kit.gd I.env0 (hb s us I.kIn hl) r2 h) fun r s' hq => ?_)
  cases r with
  | error e => exact kit.tk e s' (XE.of_call I (fun _ _ _ z => z) hq)
  | ok fl =>
    cases fl with
    | ret u => exact I.after hq
    | next => exact False.elim hq
    | brk => exact False.elim hq
    | cont => exact False.elim hq
variable {x m : Str} {p pos apos : Pos} {e o : Expr} {es : List Expr} {fa : FA} {ds : List Value} {ws : List V} {dd : List D}
theorem fA_run {fa : FA} {Z : List V → Hp → Prop} {g : FT} (st : ES X.K X.mg P σ G H env S) (h : CT X.K X.mg W P σ G H S ((fDf dd fa env).bind fun as env => callF g as env) Q) (hs : ScAll ws dd)
    (hz : ∀ vs H1, vs.length + ws.length = n → spF X.K X.mg n g (vs ++ ws) H1 Q (fun cls dx H' => W cls dx σ H') → Z vs H1) (hn : ∀ as env1, fa env = .ok as env1 → as.length + dd.length = n) : tAA X W fa σ H Z := by
  refine ⟨env, P, G, S, st, ?_⟩
  unfold fDf at h
  cases q : fa env with
  | stuck => rw [q] at h; exact h
  | exc x e1 => rw [q] at h; exact h
  | ok as e1 =>
    rw [q] at h
    intro vs G' H' S1 S2 a
    have lA : ∀ {vs : List V} {as : List Ag} {S : AS}, AV X.K X.mg P σ G' H' vs as S → vs.length = as.length := by
      intro vs as S q
      induction q with
      | nil => rfl
      | tm _ _ _ _ ih => simp [ih]
      | rf _ _ ih => simp [ih]
      | vw _ _ ih => simp [ih]
    have lS : ∀ {ws : List V} {dd : List D}, ScAll ws dd → ws.length = dd.length := by
      intro ws dd q
      induction q with
      | nil => rfl
      | cons _ _ ih => simp [ih]
    have hl : vs.length + ws.length = n := by rw [lA a.av, lS hs]; exact hn as e1 q
    exact hz vs H' hl (call_run st (a.av.defs hs) a.es a.ow a.dj a.st (by rw [List.length_append]; exact hl) h)
end
end L3
/-! L3, part I: calls as expressions; bodies. -/
namespace L3
open PySem PySem.Spec L2
section
variable {K : Frg} {mg : MG} {P : AS} {G H : Hp}
theorem SL.app : ∀ {σ τ : L2.St} {env e2 : Env} {S1 S2 : AS}, SL K mg P G H σ env S1 → SL K mg P G H τ e2 S2 → Dj S1 S2 → SL K mg P G H (σ ++ τ) (env ++ e2) (U S1 S2)
  | _, _, _, _, S1, S2, .nil, h, _ => h.weak fun a z => .inr z
  | _, _, _, _, S1, S2, .cons (S1 := A) (S2 := B) q r d1 d2, h, dj => .cons (S1 := A) (S2 := U B S2) q (SL.app r h fun a z w => dj a (d2 a z) w) (fun b z => ⟨.inl (d1 b z).1, fun w => w.elim (d1 b z).2 (dj b (d1 b z).1)⟩) fun b z => z.imp (d2 b) id
theorem SL.split : ∀ {σ τ : L2.St} {env : Env} {S : AS}, SL K mg P G H (σ ++ τ) env S → ∃ S1 S2, SL K mg P G H σ (env.take σ.length) S1 ∧ SL K mg P G H τ (env.drop σ.length) S2 ∧ Dj S1 S2 ∧ (∀ a, S1 a → S a) ∧ ∀ a, S2 a → S a
  | [], τ, env, S, h => ⟨N0, S, .nil, h, fun _ z => z.elim, fun _ z => z.elim, fun _ z => z⟩
  | s :: σ, τ, _, S, .cons (S1 := A) (S2 := B) q r d1 d2 => by
    obtain ⟨S1, S2, a, b, c, d, e⟩ := SL.split r
    exact ⟨U A S1, S2, .cons (S1 := A) (S2 := S1) q a (fun b z => ⟨.inl z, fun w => (d1 b z).2 (d b w)⟩) (fun b z => .inr z), b, fun x z w => z.elim (fun z => (d1 x z).2 (e x w)) fun z => c x z w, fun x z => z.elim (fun z => (d1 x z).1) fun z => d2 x (d x z), fun x z => d2 x (e x z)⟩
theorem SL.nos : ∀ (n : Nat) {S : AS}, SL K mg P G H (List.replicate n none) (List.replicate n .no) S
  | 0, _ => .nil
  | n + 1, _ => .cons (S1 := N0) (S2 := N0) (.inl rfl) (SL.nos n) (fun _ z => z.elim) fun _ z => z.elim
end
/-! ### a new instance -/
def fNew (c : Str) (g : FT) (fa : FA) : FT := fun env => (fa env).bind fun as env1 => match callF g (.rf env1.length :: as) (env1 ++ [.ins c []]) with
  | .ok (.dat .non) env2 => (match env2[env1.length]? with
    | some (.vw _) => .stuck
    | some t => .ok t (env2.take env1.length)
    | none => .stuck)
  | .exc x env2 => .exc x (env2.take env1.length)
  | _ => .stuck
theorem AV.more {K : Frg} {mg : MG} {P : AS} {σ τ : L2.St} {G H : Hp} {vs : List V} {as : List Ag} {S : AS} (h : AV K mg P σ G H vs as S) : AV K mg P (σ ++ τ) G H vs as S := by
  have more : ∀ {i : Nat} {v : V}, σ[i]? = some (some v) → (σ ++ τ)[i]? = some (some v) := fun {i v} e => by
    rw [List.getElem?_append_left (List.getElem?_eq_some_iff.mp e).1]; exact e
  induction h with
  | nil => exact .nil
  | tm a _ c d ih => exact .tm a ih c d
  | rf a _ ih => exact .rf (more a) ih
  | vw a _ ih => exact .vw (more a) ih
section
variable {X : Cx} {W : WX} {P : AS} {σ : L2.St} {G H G1 H1 : Hp} {S S1 S2 : AS} {env env1 : Env} {Q : VK} {vs : List V} {as : List Ag} {g : FT} {n : Nat} {c : Str} {C : Addr}
theorem new_run (st : ES X.K X.mg P σ G H env S) (av : AV X.K X.mg P σ G1 H1 vs as S1) (es : ES X.K X.mg P σ G1 H1 env1 S2) (ow : Own G1 H1 S1) (dj : Dj S1 S2) (sp : Stp G H S G1 H1 (U S1 S2)) (hn : vs.length + 1 = n) (hc : X.mg c = some (.ref C))
    (h : CT X.K X.mg W P σ G H S (match callF g (.rf env1.length :: as) (env1 ++ [.ins c []]) with
      | .ok (.dat .non) env2 => (match env2[env1.length]? with
        | some (.vw _) => .stuck
        | some t => .ok t (env2.take env1.length)
        | none => .stuck)
      | .exc x env2 => .exc x (env2.take env1.length)
      | _ => .stuck) Q) {x dx : Addr} (nx : H1 x = none) (ndx : H1 dx = none) (nex : dx ≠ x) :
    spF X.K X.mg n g (.ref x :: vs) (upd (upd H1 dx (.own x)) x (.ins C dx [])) (fun v H2 => v = .non ∧ Q (.ref x) H2) (fun cls d H' => W cls d σ H') := by
  have nx' : upd H1 dx (.own x) x = none := by rw [upd_ne (Ne.symm nex)]; exact nx
  have sm : Same H1 (upd (upd H1 dx (.own x)) x (.ins C dx [])) := (same_upd ndx).trans (same_upd nx')
  have hx : (upd (upd H1 dx (.own x)) x (.ins C dx [])) x = some (.ins C dx []) := upd_same
  have hdx : (upd (upd H1 dx (.own x)) x (.ins C dx [])) dx = some (.own x) := by rw [upd_ne nex, upd_same]
  generalize upd (upd H1 dx (.own x)) x (.ins C dx []) = H2 at sm hx hdx ⊢
  have hl : σ.length = env1.length := es.sl.length
  let SX : AS := fun a => a = x ∨ a = dx
  have ow2 : ∀ {F : AS}, Own G1 H1 F → Own G1 H2 F := fun o a z => ⟨(o a z).1, (o a z).2.imp fun u q => sm _ _ q⟩
  have gx : ∀ a, SX a → G1 a = none := fun a z => by
    rcases z with rfl | rfl
    · exact es.ge.free nx
    · exact es.ge.free ndx
  have owX : Own G1 H2 SX := fun a z => ⟨gx a z, by
    rcases z with rfl | rfl
    · exact ⟨_, hx⟩
    · exact ⟨_, hdx⟩⟩
  have nS : ∀ {F : AS}, Own G1 H1 F → Dj F SX := fun o a z w => by
    obtain ⟨_, u, q⟩ := o a z
    rcases w with rfl | rfl
    · rw [nx] at q; cases q
    · rw [ndx] at q; cases q
  have slX : SL X.K X.mg P G1 H2 [some (.ref x)] [.ins c []] SX := .cons (S1 := SX) (S2 := N0) (.inr ⟨_, rfl, .own (.ins (S1 := N0) hc hx hdx (.inl rfl) (.inr rfl) .nil fun _ z => z.elim)⟩) .nil (fun b z => ⟨z, id⟩) fun _ z => z.elim
  have sl2 : SL X.K X.mg P G1 H2 (σ ++ [some (.ref x)]) (env1 ++ [.ins c []]) (U S2 SX) := (SL.move (Same.refl _) (S := S2) (fun a o _ q => sm a o q) (fun a o _ q => sm a o q) (fun _ z => z) es.sl).app slX (nS es.ow)
  have es2 : ES X.K X.mg P (σ ++ [some (.ref x)]) G1 H2 (env1 ++ [.ins c []]) (U S2 SX) := ⟨sl2, es.ge.trans sm, fun a z => z.elim (ow2 es.ow a) (owX a), fun a z => ⟨fun w => w.elim (es.pv a z).1 fun w => (by
    obtain ⟨u, q⟩ := (es.pv a z).2
    rcases w with rfl | rfl
    · rw [nx] at q; cases q
    · rw [ndx] at q; cases q), (es.pv a z).2.imp fun u q => sm _ _ q⟩⟩
  have av2 : AV X.K X.mg P (σ ++ [some (.ref x)]) G1 H2 (.ref x :: vs) (.rf env1.length :: as) S1 := .rf (by rw [← hl]; simp) (AV.more (av.move (Same.refl _) (S := S1) (fun a o _ q => sm a o q) (fun a o _ q => sm a o q) fun _ z => z))
  have ownS : ∀ a, U S1 (U S2 SX) a → S a ∨ H a = none := fun a z => by
    rcases z with z | z | z
    · exact sp.own a (.inl z)
    · exact sp.own a (.inr z)
    · by_cases hs : S a
      · exact .inl hs
      · refine .inr ?_
        cases q : H a with
        | none => rfl
        | some o =>
          have q2 := sp.keep a o q hs
          rcases z with rfl | rfl
          · rw [nx] at q2; cases q2
          · rw [ndx] at q2; cases q2
  have sp2 : Stp G H S G1 H2 (U S1 (U S2 SX)) := ⟨sp.gg, fun a o q z => sm _ _ (sp.keep a o q z), ownS, sp.new⟩
  -- the entry, with the new slot hidden in it
  have stx : ES X.K X.mg P (σ ++ [some (.ref x)]) G1 H2 (env1 ++ [.ins c []]) (U S1 (U S2 SX)) := by
    refine ⟨sl2.weak fun a z => .inr z, es2.ge, fun a z => z.elim (ow2 ow a) (es2.ow a), fun a z => ⟨fun w => w.elim (fun w => ?_) (es2.pv a z).1, (es2.pv a z).2⟩⟩
    obtain ⟨ns, o, e⟩ := st.pv a z
    rcases sp.own a (.inl w) with q | q
    · exact ns q
    · rw [e] at q; cases q
  refine call_run (K := X.K) (mg := X.mg) (W := fun cls d _ H' => W cls d σ H') (P := P) (σ := σ ++ [some (.ref x)]) (env := env1 ++ [.ins c []]) (env1 := env1 ++ [.ins c []]) stx av2 es2 (ow2 ow) (fun a z w => w.elim (dj a z) (nS ow a z)) (Stp.refl _ _ _) (by simp; exact hn) ?_
  -- back
  have cut : ∀ {G' H' : Hp} {e2 : Env} {S' : AS}, ES X.K X.mg P (σ ++ [some (.ref x)]) G' H' e2 S' → ∃ A B, ES X.K X.mg P σ G' H' (e2.take env1.length) A ∧ SL X.K X.mg P G' H' [some (.ref x)] (e2.drop env1.length) B ∧ Dj A B ∧ (∀ a, A a → S' a) ∧ ∀ a, B a → S' a := fun e => by
    obtain ⟨A, B, a, b, c1, d1, e1⟩ := e.sl.split
    rw [hl] at a b
    exact ⟨A, B, ⟨a, e.ge, fun y z => e.ow y (d1 y z), fun y z => ⟨fun w => (e.pv y z).1 (d1 y w), (e.pv y z).2⟩⟩, b, c1, d1, e1⟩
  split at h
  · rename_i env2 ec
    rw [ec]
    intro v G' H' A1 A2 r
    have ev : v = .non := by
      have := r.tv
      cases this with
      | dat q => exact q.non_inv
    refine ⟨ev, ?_⟩
    obtain ⟨A, B, b1, b2, b3, b4, b5⟩ := cut r.es
    split at h
    · exact h.elim
    · rename_i t nv et
      have hB : ∃ B', TV X.K X.mg G' H' (.ref x) t B' ∧ ∀ a, B' a → B a := by
        have hd : (env2.drop env1.length)[0]? = some t := by simpa using et
        generalize env2.drop env1.length = dl at b2 hd
        cases b2 with
        | cons q r2 d1 d2 =>
          simp at hd
          subst hd
          rcases q with q | ⟨v', e1, q⟩
          · rw [q]; exact ⟨N0, .no, fun _ z => z.elim⟩
          · cases e1
            cases q with
            | own q => exact ⟨_, q, fun a z => (d1 a z).1⟩
            | vw q d => exact (nv _ rfl).elim
      obtain ⟨B', tv, lB⟩ := hB
      refine h (.ref x) G' H' B' A ⟨tv, b1, fun a z => r.es.ow a (b5 a (lB a z)), fun a z w => b3 a w (lB a z), ?_⟩
      exact (sp2.trans r.st).less fun a z => z.elim (fun z => .inr (b5 a (lB a z))) fun z => .inr (b4 a z)
    · exact h.elim
  · rename_i y env2 ec
    rw [ec]
    intro cls d G' H' S' ev e5 s5
    obtain ⟨A, B, b1, b2, b3, b4, b5⟩ := cut e5
    exact h cls d G' H' A ev b1 ((sp2.trans s5).less b4)
  · exact h.elim
end
end L3
/-! L3, part J: calls as expressions, statements, bodies. -/
namespace L3
open PySem PySem.Spec L2
theorem ScAll.length : ∀ {ws : List V} {dd : List D}, ScAll ws dd → ws.length = dd.length
  | _, _, .nil => rfl
  | _, _, .cons _ r => congrArg (· + 1) (ScAll.length r)
section
variable {X : Cx} {W : WX} {k : Nat} {f C : Addr} {fd : FuncData} {ps : List Str} {g : FT} {n : Nat} {x m c : Str} {p pos apos : Pos} {e o : Expr} {es : List Expr} {fa : FA} {ds : List Value} {ws : List V} {dd : List D}
theorem fDf_ln (ha : AAk X W es fa) (env : Env) (as : List Ag) (e1 : Env) (h : fDf dd fa env = .ok as e1) : as.length = es.length + dd.length := by
  obtain ⟨as1, e2, h2, h⟩ := bind_ok h
  cases h
  simp [dfA, ha.ln _ _ _ h2]
theorem t_call (kit : Kit X W k) (F : FnG X.prog X.w X.K X.mg X.base k f fd ps (spF X.K X.mg n g)) (hg : Gl X x) (hm : X.mg x = some (.ref f)) (hk : PySem.W.keepIn X.K (.ref f) = true) (hb : Binds X.K fd ps ds) (hd : Vals ws ds) (hs : ScAll ws dd)
    (ha : AAk X W (e :: es) fa) (hn : (e :: es).length + dd.length = n := by rfl) (hdb : (x == ("__debug__" : Str)) = false := by decide) (he : starEach (e :: es) X.env = (false, eval e X.env) :: starEach es X.env := by rfl)
    (hpl : (backTo pos (starEach es X.env)).any (·.1) = false := by rfl) : TOk X W (.Call (.Name x p) (e :: es) [] pos) (fCall g (fDf dd fa)) := ⟨⟨fun pins s σ H Q I h => by
  obtain ⟨env, P, G, S, st, h⟩ := h
  have h' : tAA X W fa σ H fun vs H1 => spF X.K X.mg n g (vs ++ ws) H1 Q (fun cls dx H' => W cls dx σ H') := fA_run st h hs (fun vs H1 _ q => q) fun as e1 q => by rw [ha.ln _ _ _ q]; exact hn
  refine wpAny_Call_Name_kw (ld_glob I hg hm ?_ hdb)
  exact PySem.W.callWith_K (h₀ := X.base) I.ok.mod.kin hk (thn (ha.pa.run pos pins s σ H _ I h') fun us s1 ⟨vs, H1, I1, r, q⟩ => ⟨I1.kIn, run_fnG kit F hb hd I1 r q⟩) he hpl⟩⟩
theorem t_call0 (kit : Kit X W k) (F : FnG X.prog X.w X.K X.mg X.base k f fd ps (spF X.K X.mg n g)) (hg : Gl X x) (hm : X.mg x = some (.ref f)) (hk : PySem.W.keepIn X.K (.ref f) = true) (hb : Binds X.K fd ps ds) (hd : Vals ws ds) (hs : ScAll ws dd)
    (hn : dd.length = n := by rfl) (hdb : (x == ("__debug__" : Str)) = false := by decide) : TOk X W (.Call (.Name x p) [] [] pos) (fCall g (fDf dd fAnil)) := ⟨⟨fun pins s σ H Q I h => by
  obtain ⟨env, P, G, S, st, h⟩ := h
  have h' : spF X.K X.mg n g ([] ++ ws) H Q (fun cls dx H' => W cls dx σ H') := call_run (S1 := N0) st (AV.defs .nil hs) st (fun a z => False.elim z) (fun a z => False.elim z) ((Stp.refl _ _ _).less fun a z => z.elim (fun z => False.elim z) id) (by
    rw [List.nil_append, hs.length]; exact hn) h
  refine wpAny_Call_Name_kw (ld_glob I hg hm ?_ hdb)
  exact PySem.W.callWith_K0 I.kIn hk (run_fnG (us := []) (vs := []) kit F hb hd I .nil h')⟩⟩
end
/-! ### statements -/
inductive RS where
  | stuck | nx (env : Env) | ret (t : T) (env : Env) | bk (env : Env) | ct (env : Env) | exc (x : Exc) (env : Env)
abbrev FS := Env → RS
def R.bindS {α : Type} (r : R α) (k : α → Env → RS) : RS := match r with
  | .ok a env => k a env
  | .exc x env => .exc x env
  | .stuck => .stuck
/-- the slots that are never stored -/
def Kp (kp : List Nat) (σ σ' : L2.St) : Prop := σ'.length = σ.length ∧ ∀ i, i ∈ kp → σ'[i]? = σ[i]?
def CS (K : Frg) (mg : MG) (W : WX) (kp : List Nat) (P : AS) (σ : L2.St) (G H : Hp) (S : AS) (r : RS) (B : Ends) : Prop := match r with
  | .nx env' => ∀ σ' G' H' S', ES K mg P σ' G' H' env' S' → Stp G H S G' H' S' → Kp kp σ σ' → B.nx σ' H'
  | .bk env' => ∀ σ' G' H' S', ES K mg P σ' G' H' env' S' → Stp G H S G' H' S' → Kp kp σ σ' → B.bk σ' H'
  | .ct env' => ∀ σ' G' H' S', ES K mg P σ' G' H' env' S' → Stp G H S G' H' S' → Kp kp σ σ' → B.ct σ' H'
  | .ret t env' => ∀ v σ' G' H' S1 S2, Got K mg P σ' G H S v t env' G' H' S1 S2 → Kp kp σ σ' → B.rt v H'
  | .exc x env' => ∀ σ', Kp kp σ σ' → CX3 K mg W P σ' G H S x env'
  | .stuck => False
def tS (X : Cx) (W : WX) (kp : List Nat) (f : FS) : TS := fun B σ H => ∃ env P G S, ES X.K X.mg P σ G H env S ∧ CS X.K X.mg W kp P σ G H S (f env) B
structure SOk (X : Cx) (W : WX) (kp : List Nat) (st : Stmt) (f : FS) : Prop where
  ps : PS X st (tS X W kp f)
structure SSk (X : Cx) (W : WX) (kp : List Nat) (st : List Stmt) (f : FS) : Prop where
  ps : PSs X st (tS X W kp f)
def fNx : FS := .nx
def fSeq (a b : FS) : FS := fun env => match a env with
  | .nx e => b e
  | r => r
def fExp (f : FT) : FS := fun env => (f env).bindS fun _ env => .nx env
def fRet (f : FT) : FS := fun env => (f env).bindS fun t env => .ret t env
def fRetN : FS := fun env => .ret (.dat .non) env
def fSet (i : Nat) (f : FT) : FS := fun env => (f env).bindS fun t env => .nx (env.set i t)
def fIfS (c : FB) (a b : FS) : FS := fun env => (c env).bindS fun k env => if k = true then a env else b env
def fStk : FS := fun _ => .stuck
section
variable {X : Cx} {W : WX} {kp : List Nat} {P : AS} {σ σ1 : L2.St} {G H G1 H1 : Hp} {S S1 : AS} {env : Env} {B : Ends} {st : Stmt} {rest : List Stmt} {f g : FS} {fe : FT} {e c : Expr} {pos : Pos} {bc : FB} {k : Nat}
theorem Kp.refl : Kp kp σ σ := ⟨rfl, fun _ _ => rfl⟩
theorem Kp.trans {σ2 : L2.St} (a : Kp kp σ σ1) (b : Kp kp σ1 σ2) : Kp kp σ σ2 := ⟨b.1.trans a.1, fun i h => (b.2 i h).trans (a.2 i h)⟩
theorem Kp.set {i : Nat} {v : Option V} (h : i ∉ kp) : Kp kp σ (σ.set i v) := ⟨List.length_set, fun j hj => by
  rw [List.getElem?_set_ne]
  rintro rfl
  exact h hj⟩
theorem CS.base {r : RS} (a : Stp G H S G1 H1 S1) (q : Kp kp σ σ1) (h : CS X.K X.mg W kp P σ G H S r B) : CS X.K X.mg W kp P σ1 G1 H1 S1 r B := by
  cases r with
  | stuck => exact h
  | nx e => exact fun σ' G' H' S' a1 a2 a3 => h σ' G' H' S' a1 (a.trans a2) (q.trans a3)
  | bk e => exact fun σ' G' H' S' a1 a2 a3 => h σ' G' H' S' a1 (a.trans a2) (q.trans a3)
  | ct e => exact fun σ' G' H' S' a1 a2 a3 => h σ' G' H' S' a1 (a.trans a2) (q.trans a3)
  | ret t e => exact fun v σ' G' H' S1' S2' a1 a3 => h v σ' G' H' S1' S2' ⟨a1.tv, a1.es, a1.ow, a1.dj, a.trans a1.st⟩ (q.trans a3)
  | exc x e => exact fun σ' a3 => CX3.base a (h σ' (q.trans a3))
/-- an expression in a statement -/
theorem tT_bindS {fa : FT} {k : T → Env → RS} {Z : V → Hp → Prop} (st : ES X.K X.mg P σ G H env S) (h : CS X.K X.mg W kp P σ G H S ((fa env).bindS k) B)
    (hk : ∀ t env1 v G1 H1 S1 S2, Got X.K X.mg P σ G H S v t env1 G1 H1 S1 S2 → CS X.K X.mg W kp P σ G H S (k t env1) B → Z v H1) : tT X W fa σ H Z := by
  refine ⟨env, P, G, S, st, ?_⟩
  cases e : fa env with
  | stuck => rw [e] at h; exact h
  | exc x e1 => rw [e] at h; exact h σ .refl
  | ok t e1 => rw [e] at h; exact fun v G' H' S1 S2 g => hk t e1 v G' H' S1 S2 g h
theorem tB_bindS {fa : FB} {k : Bool → Env → RS} {Z : Bool → Hp → Prop} (st : ES X.K X.mg P σ G H env S) (h : CS X.K X.mg W kp P σ G H S ((fa env).bindS k) B)
    (hk : ∀ t env1 G1 H1 S1, ES X.K X.mg P σ G1 H1 env1 S1 → Stp G H S G1 H1 S1 → CS X.K X.mg W kp P σ G1 H1 S1 (k t env1) B → Z t H1) : tB X W fa σ H Z := by
  refine ⟨env, P, G, S, st, ?_⟩
  cases e : fa env with
  | stuck => rw [e] at h; exact h
  | exc x e1 => rw [e] at h; exact h σ .refl
  | ok t e1 => rw [e] at h; exact fun G' H' S1 g1 g2 => hk t e1 G' H' S1 g1 g2 (CS.base g2 .refl h)
theorem ss_nil : SSk X W kp [] fNx := ⟨pssW pss_nil fun B σ H q => by
  obtain ⟨env, P, G, S, st, h⟩ := q
  exact h σ G H S st (Stp.refl _ _ _) .refl⟩
theorem ss_cons (h1 : SOk X W kp st f) (h2 : SSk X W kp rest g) : SSk X W kp (st :: rest) (fSeq f g) := ⟨pssW (pss_cons h1.ps h2.ps) fun B σ H q => by
  obtain ⟨env, P, G, S, st, h⟩ := q
  refine ⟨env, P, G, S, st, ?_⟩
  unfold fSeq at h
  cases e : f env with
  | stuck => rw [e] at h; exact h
  | nx e1 => rw [e] at h; exact fun σ' G' H' S' a1 a2 a3 => ⟨e1, P, G', S', a1, CS.base a2 a3 h⟩
  | bk e1 => rw [e] at h; exact h
  | ct e1 => rw [e] at h; exact h
  | ret t e1 => rw [e] at h; exact h
  | exc x e1 => rw [e] at h; exact h⟩
theorem ss_one (h1 : SOk X W kp st f) : SSk X W kp [st] f := ⟨pss_one h1.ps⟩
theorem s_pass : SOk X W kp (.Pass pos) fNx := ⟨psW ps_pass fun B σ H q => by
  obtain ⟨env, P, G, S, st, h⟩ := q
  exact h σ G H S st (Stp.refl _ _ _) .refl⟩
theorem s_break : SOk X W kp (.Break pos) .bk := ⟨psW ps_break fun B σ H q => by
  obtain ⟨env, P, G, S, st, h⟩ := q
  exact h σ G H S st (Stp.refl _ _ _) .refl⟩
theorem s_cont : SOk X W kp (.Continue pos) .ct := ⟨psW ps_continue fun B σ H q => by
  obtain ⟨env, P, G, S, st, h⟩ := q
  exact h σ G H S st (Stp.refl _ _ _) .refl⟩
theorem s_doc {x : Str} {j : Nat} {pos pos' : Pos} : SOk X W kp (.Expr (.Constant (.str x) j pos) pos') fNx := ⟨psW ps_doc fun B σ H q => by
  obtain ⟨env, P, G, S, st, h⟩ := q
  exact h σ G H S st (Stp.refl _ _ _) .refl⟩
/-- what is never reached -/
theorem s_stk : SOk X W kp st fStk := ⟨psW ps_never fun B σ H q => by
  obtain ⟨env, P, G, S, st, h⟩ := q
  exact h⟩
theorem s_expr (he : TOk X W e fe) (hs : swapsWith e none pos.line X.env = pure false := by rfl) : SOk X W kp (.Expr e pos) (fExp fe) := ⟨psW (ps_expr he.pe hs) fun B σ H q => by
  obtain ⟨env, P, G, S, st, h⟩ := q
  refine tT_bindS (k := fun _ env => .nx env) st h fun t env1 v G1 H1 S1 S2 g c => ?_
  exact c σ G1 H1 S2 g.es (g.st.less fun _ z => .inr z) .refl⟩
theorem s_ret (he : TOk X W e fe) : SOk X W kp (.Return (some e) pos) (fRet fe) := ⟨psW (ps_ret he.pe) fun B σ H q => by
  obtain ⟨env, P, G, S, st, h⟩ := q
  refine tT_bindS (k := fun t env => .ret t env) st h fun t env1 v G1 H1 S1 S2 g c => ?_
  exact c v σ G1 H1 S1 S2 g .refl⟩
theorem s_retN : SOk X W kp (.Return none pos) fRetN := ⟨psW ps_retN fun B σ H q => by
  obtain ⟨env, P, G, S, st, h⟩ := q
  exact h .non σ G H N0 S ⟨.dat .non, st, fun _ z => z.elim, fun _ z => z.elim, (Stp.refl _ _ _).less fun a z => z.elim (fun z => z.elim) id⟩ .refl⟩
theorem s_if {a b : List Stmt} (hc : BOk X W c bc) (ha : SSk X W kp a f) (hb : SSk X W kp b g) : SOk X W kp (.If c a b pos) (fIfS bc f g) := ⟨psW (ps_if hc.pt ha.ps hb.ps) fun B σ H q => by
  obtain ⟨env, P, G, S, st, h⟩ := q
  refine tB_bindS (k := fun k env => if k = true then f env else g env) st h fun k env1 G1 H1 S1 e1 s1 c => ?_
  cases k with
  | true => exact iteT ⟨env1, P, G1, S1, e1, c⟩
  | false => exact iteF ⟨env1, P, G1, S1, e1, c⟩⟩
theorem Got.put {i : Nat} {v : V} {t : T} {env1 : Env} {S1 S2 : AS} (st : ES X.K X.mg P σ G H env S) (g : Got X.K X.mg P σ G H S v t env1 G1 H1 S1 S2) : ES X.K X.mg P (σ.set i (some v)) G1 H1 (env1.set i t) (U S1 S2) := by
  refine ⟨g.es.sl.put (.inr ⟨v, rfl, .own g.tv⟩) g.dj, g.es.ge, fun a z => ?_, fun a z => ⟨fun w => ?_, (g.es.pv a z).2⟩⟩
  · rcases z with z | z
    · exact g.ow a z
    · exact g.es.ow a z
  · obtain ⟨ns, o, e⟩ := st.pv a z
    rcases g.st.own a w with q | q
    · exact ns q
    · rw [e] at q; cases q
/-- x = e -/
theorem s_set {i : Nat} {x : Str} {pos' : Pos} (kit : Kit X W k) (hi : X.N[i]? = some x) (hx : Loc X.env.scope x) (he : TOk X W e fe) (hk : i ∉ kp := by decide) (hs : swapsWith e (some (.Name x pos')) pos.line X.env = pure false := by rfl)
    (hf : X.fn x = true ∨ X.env.scope.names.lookup x = some .local := by first | exact .inl rfl | exact .inr rfl | assumption) : SOk X W kp (.Assign [.Name x pos'] e pos) (fSet i fe) := ⟨psW (ps_set kit.nd hi hx he.pe hs hf) fun B σ H q => by
  obtain ⟨env, P, G, S, st, h⟩ := q
  refine tT_bindS (k := fun t env => .nx (env.set i t)) st h fun t env1 v G1 H1 S1 S2 g c => ?_
  exact c (σ.set i (some v)) G1 H1 (U S1 S2) (g.put st) g.st (Kp.set hk)⟩
end
/-! ### a def's body -/
/-- the parameters behind the body: those that are never stored -/
def keepE (kp : List Nat) (n : Nat) (env : Env) : Env := (env.take n).mapIdx fun i t => if i ∈ kp then t else .no
def runF (kp : List Nat) (n m : Nat) (b : FS) : FT := fun ts => match b (ts ++ List.replicate m .no) with
  | .nx env => .ok (.dat .non) (keepE kp n env)
  | .ret t env => .ok t (keepE kp n env)
  | .exc x env => .exc x (keepE kp n env)
  | _ => .stuck
section
variable {K : Frg} {mg : MG} {P : AS} {G H : Hp}
theorem SL.keep {kp : List Nat} : ∀ (j : Nat) {vs : List V} {σ : L2.St} {env : Env} {S : AS}, SL K mg P G H σ env S → σ.length = vs.length → (∀ i, i + j ∈ kp → σ[i]? = (vs.map some)[i]?) → SL K mg P G H (vs.map some) (env.mapIdx fun i t => if i + j ∈ kp then t else .no) S
  | j, [], [], _, _, .nil, _, _ => .nil
  | j, v :: vs, s :: σ, t :: env, S, .cons (S1 := A) (S2 := B) q r d1 d2, hl, h => by
    rw [List.mapIdx_cons]
    have ih := SL.keep (j + 1) (vs := vs) r (by simpa using hl) fun i hi => by
      have := h (i + 1) (by rw [show i + 1 + j = i + (j + 1) by omega]; exact hi)
      simpa using this
    have ef : (fun (i : Nat) (t : T) => if i + 1 + j ∈ kp then t else T.no) = fun i t => if i + (j + 1) ∈ kp then t else T.no := by
      funext i t
      rw [show i + 1 + j = i + (j + 1) by omega]
    by_cases h0 : 0 + j ∈ kp
    · have e0 := h 0 h0
      simp at e0
      subst e0
      refine .cons (S1 := A) (S2 := B) ?_ (by rw [ef]; exact ih) d1 d2
      rw [if_pos h0]
      exact q
    · refine .cons (S1 := A) (S2 := B) ?_ (by rw [ef]; exact ih) d1 d2
      rw [if_neg h0]
      exact .inl rfl
  | _, [], _ :: _, _, _, _, hl, _ => by simp at hl
  | _, _ :: _, [], _, _, _, hl, _ => by simp at hl
theorem ES.keepE {kp : List Nat} {n : Nat} {vs : List V} {σ σ' : L2.St} {env : Env} {S : AS} (e : ES K mg P σ' G H env S) (hn : vs.length = n) (h0 : ∀ i, i < n → σ[i]? = (vs.map some)[i]?) (hk : Kp kp σ σ') (hl : n ≤ σ'.length) (hlt : ∀ i, i ∈ kp → i < n) :
    ES K mg P (vs.map some) G H (keepE kp n env) S := by
  have sp : SL K mg P G H (σ'.take n ++ σ'.drop n) env S := by rw [List.take_append_drop]; exact e.sl
  obtain ⟨S1, S2, a, b, c, d, f⟩ := sp.split
  have tl : (σ'.take n).length = n := by rw [List.length_take]; omega
  rw [tl] at a
  have k := SL.keep (kp := kp) 0 (vs := vs) a (by rw [tl, hn]) fun i hi => by
    have hin := hlt i hi
    rw [List.getElem?_take_of_lt hin, hk.2 i hi]
    exact h0 i hin
  exact ⟨k.weak d, e.ge, e.ow, e.pv⟩
end
section
variable {P : Program} {w : World} {K : Frg} {mg : MG} {base : Heap}
/-- THE RULE for a def: its body's semantic function -/
theorem fn_ok {k : Nat} {f : Addr} {x qual : Str} {st : Stmt} {fd : FuncData} {N ps : List Str} {kp : List Nat} {n m : Nat} {b : FS} {dvs : List V} {kws : List (Str × V)} (F : FunD K x qual (defArgs st) (defBody st) (defScope st) dvs kws f fd) (Sc : FnScope N ps (defScope st)) (hn : ps.length = n) (hm : N.length = n + m) (hk : ∀ i, i ∈ kp → i < n)
    (body : ∀ (cdv : Value) (A : Around) (outer : List PySem.Env) (s : Shared) (H : Hp) (E : XK), Kit (cxOf (L2.CX P w) P w K mg base N qual (defScope st) f cdv A outer s H E) (fun cls d _ H => E cls d H) k →
      SSk (cxOf (L2.CX P w) P w K mg base N qual (defScope st) f cdv A outer s H E) (fun cls d _ H => E cls d H) kp (defBody st) b) : FnG P w K mg base (k + 1) f fd ps (spF K mg n (runF kp n m b)) := by
  refine fnG_of F Sc (fun vs H Q E h => by rw [hn]; exact h.1) fun cdv A outer s H vs Q E kit h => ?_
  refine ⟨_, (body cdv A outer s H E kit).ps, ?_⟩
  obtain ⟨hv, ts, Pv, G, S, es, h⟩ := h
  have e0 : L2.start N vs = vs.map some ++ List.replicate m none := by unfold L2.start; rw [hm, hv]; simp
  have ln : (L2.start N vs).length = n + m := by rw [e0]; simp [hv]
  have es0 : ES K mg Pv (L2.start N vs) G H (ts ++ List.replicate m .no) S := by
    rw [e0]
    exact ⟨(es.sl.app (SL.nos m) (S2 := N0) fun _ _ z => z.elim).weak fun a z => z.elim id fun z => z.elim, es.ge, es.ow, es.pv⟩
  have h0 : ∀ i, i < n → (L2.start N vs)[i]? = (vs.map some)[i]? := fun i hi => by
    rw [e0, List.getElem?_append_left (by rw [List.length_map, hv]; exact hi)]
  have back : ∀ {σ' : L2.St} {G' H' : Hp} {env : Env} {S' : AS}, ES K mg Pv σ' G' H' env S' → Kp kp (L2.start N vs) σ' → ES K mg Pv (vs.map some) G' H' (keepE kp n env) S' := fun {σ' G' H' env S'} e q => e.keepE hv h0 q (by rw [q.1, ln]; omega) hk
  unfold runF at h
  refine ⟨(ts ++ List.replicate m T.no : List T), Pv, G, S, es0, ?_⟩
  show CS K mg (fun cls d _ H => E cls d H) kp Pv (L2.start N vs) G H S (b (ts ++ List.replicate m .no)) { nx := fun _ H' => Q .non H', rt := Q }
  cases q : b (ts ++ List.replicate m .no) with
  | stuck => rw [q] at h; exact h
  | bk e1 => rw [q] at h; exact h.elim
  | ct e1 => rw [q] at h; exact h.elim
  | nx e1 =>
    rw [q] at h
    intro σ' G' H' S' a1 a2 a3
    exact h .non G' H' N0 S' ⟨.dat .non, back a1 a3, fun _ z => z.elim, fun _ z => z.elim, a2.less fun a z => z.elim (fun z => z.elim) id⟩
  | ret t e1 =>
    rw [q] at h
    intro v σ' G' H' S1 S2 g a3
    exact h v G' H' S1 S2 ⟨g.tv, back g.es a3, g.ow, g.dj, g.st⟩
  | exc x e1 =>
    rw [q] at h
    intro σ' a3 cls dx G' H' S' ev es' s'
    exact h cls dx G' H' S' ev (back es' a3) s'
end
end L3
/-! L3, part K: loops, comprehensions. -/
namespace L3
open PySem PySem.Spec L2
/-- an iterator walks a list of data -/
def Wk (K : Frg) (mg : MG) (J : It) (ds : List D) (G : Hp) : Prop := ∀ (i : Nat) (G2 H2 : Hp), Same G G2 → Same G2 H2 →
  (∀ d, ds[i]? = some d → J.go i H2 ∧ ∀ x H3, J.yld i H2 x H3 → ∃ G3, Grow G2 H2 G3 H3 ∧ DV K mg G3 x d) ∧ (ds.length ≤ i → J.stop i H2)
abbrev FI := Env → R (List D)
def CI (X : Cx) (W : WX) (P : AS) (σ : L2.St) (G H : Hp) (S : AS) (r : R (List D)) (Q : It → Hp → Prop) : Prop := match r with
  | .ok ds env' => ∀ J G' H' S', ES X.K X.mg P σ G' H' env' S' → Stp G H S G' H' S' → Wk X.K X.mg J ds G' → Q J H'
  | .exc x env' => CX3 X.K X.mg W P σ G H S x env'
  | .stuck => False
def tI (X : Cx) (W : WX) (f : FI) : TI := fun σ H Q => ∃ env P G S, ES X.K X.mg P σ G H env S ∧ CI X W P σ G H S (f env) Q
structure IOk (X : Cx) (W : WX) (tg iter : Expr) (f : FI) : Prop where
  pi : PI X tg iter (tI X W f)
theorem piW {X : Cx} {tg e : Expr} {t t' : TI} (h : PI X tg e t) (w : ∀ σ H Q, t' σ H Q → t σ H Q) : PI X tg e t' := ⟨fun pins s σ H R I q => h.run pins s σ H R I (w σ H R q)⟩
theorem piOr {X : Cx} {tg e : Expr} {t t' : TI} (h : PI X tg e t) (h' : PI X tg e t') : PI X tg e (fun σ H Q => t σ H Q ∨ t' σ H Q) := ⟨fun pins s σ H R I q => q.elim (h.run pins s σ H R I) (h'.run pins s σ H R I)⟩
theorem peOr {X : Cx} {e : Expr} {t t' : TE} (h : PE X e t) (h' : PE X e t') : PE X e (fun σ H Q => t σ H Q ∨ t' σ H Q) := ⟨fun pins s σ H R I q => q.elim (h.run pins s σ H R I) (h'.run pins s σ H R I)⟩
/-- items of a list or tuple of data, signs of a text -/
def itD : D → Option (List D)
  | .lst ds => some ds
  | .scr ds => some ds
  | .tup ds => some ds
  | .str z => some (z.cps.toList.map fun c => .str ⟨#[c]⟩)
  | _ => none
def fIt (f : FT) : FI := fun env => (dfz f env).bind fun d env => opt (itD d) env
section
variable {X : Cx} {W : WX} {P : AS} {σ : L2.St} {G H G1 H1 : Hp} {S S1 : AS} {env : Env} {tg e : Expr} {f : FT}
theorem wk_list {a : Addr} {vs : List V} {ds : List D} (h : SqL X.K G a vs) (r : DVs X.K X.mg G vs ds) : Wk X.K X.mg (Itl X.K a) ds G := fun i G2 H2 g1 g2 => ⟨fun d e => by
  obtain ⟨v, ev, dv⟩ := r.get e
  refine ⟨⟨vs, v, g2.seq (g1.seq h), ev⟩, fun x H3 y => ?_⟩
  obtain ⟨rfl, y⟩ := y
  have := (y vs (g2.seq (g1.seq h))).symm.trans ev
  cases this
  exact ⟨G2, .refl g2, dv.mono g1⟩, fun hl => ⟨vs, g2.seq (g1.seq h), by rw [r.length]; exact hl⟩⟩
theorem wk_tup {a : Addr} {vs : List V} {ds : List D} (h : SqT X.K G a vs) (r : DVs X.K X.mg G vs ds) : Wk X.K X.mg (Itt X.K a) ds G := fun i G2 H2 g1 g2 => ⟨fun d e => by
  obtain ⟨v, ev, dv⟩ := r.get e
  refine ⟨⟨vs, v, sqt_same g2 (sqt_same g1 h), ev⟩, fun x H3 y => ?_⟩
  obtain ⟨rfl, y⟩ := y
  have := (y vs (sqt_same g2 (sqt_same g1 h))).symm.trans ev
  cases this
  exact ⟨G2, .refl g2, dv.mono g1⟩, fun hl => ⟨vs, sqt_same g2 (sqt_same g1 h), by rw [r.length]; exact hl⟩⟩
theorem wk_str {z : Str} : Wk X.K X.mg (Its z) (z.cps.toList.map fun c => .str ⟨#[c]⟩) G := fun i G2 H2 g1 g2 => ⟨fun d e => by
  rw [List.getElem?_map] at e
  cases q : z.cps.toList[i]? with
  | none => rw [q] at e; cases e
  | some c =>
    rw [q] at e; cases e
    have hi : i < z.cps.size := by
      have := (List.getElem?_eq_some_iff.mp q).1
      simpa using this
    refine ⟨hi, fun x H3 y => ?_⟩
    obtain ⟨rfl, c', e1, rfl⟩ := y
    have : c' = c := by
      have q' : z.cps[i]? = some c := by simpa using q
      rw [q'] at e1; cases e1; rfl
    subst this
    exact ⟨G2, .refl g2, .str _⟩, fun hl => (by simpa using hl : z.cps.size ≤ i)⟩
theorem tT_bindI {fa : FT} {k : D → Env → R (List D)} {Q : It → Hp → Prop} {Z : V → Hp → Prop} (st : ES X.K X.mg P σ G H env S) (h : CI X W P σ G H S ((dfz fa env).bind k) Q)
    (hk : ∀ d env1 v G1 H1 S1, GotD X.K X.mg P σ G H S v d env1 G1 H1 S1 → CI X W P σ G1 H1 S1 (k d env1) Q → Z v H1) : tT X W fa σ H Z := by
  refine ⟨env, P, G, S, st, ?_⟩
  unfold dfz at h
  cases e : fa env with
  | stuck => rw [e] at h; exact h
  | exc x e1 => rw [e] at h; exact h
  | ok t e1 =>
    rw [e] at h
    intro v G' H' S1 S2 g
    change CI X W P σ G H S ((fzR t e1).bind k) Q at h
    unfold fzR at h
    cases ez : t.fz with
    | none => rw [ez] at h; exact h.elim
    | some d =>
      rw [ez] at h
      obtain ⟨G2, gd⟩ := freeze g ez
      refine hk d e1 v G2 H' S2 gd ?_
      change CI X W P σ G H S (k d e1) Q at h
      cases q : k d e1 with
      | stuck => rw [q] at h; exact h
      | exc x e2 => rw [q] at h; exact CX3.base gd.st h
      | ok ds e2 => rw [q] at h; exact fun J G' H' S' a1 a2 a3 => h J G' H' S' a1 (gd.st.trans a2) a3
theorem i_t (he : TOk X W e f) : IOk X W tg e (fIt f) := ⟨piW (piOr (pi_list he.pe) (piOr (pi_tup he.pe) (pi_str he.pe))) fun σ H Q q => by
  obtain ⟨env, P, G, S, st, h⟩ := q
  unfold fIt dfz at h
  cases e : f env with
  | stuck => rw [e] at h; exact h.elim
  | exc x e1 => rw [e] at h; exact .inl ⟨env, P, G, S, st, by rw [e]; exact h⟩
  | ok t e1 =>
    rw [e] at h
    change CI X W P σ G H S ((fzR t e1).bind fun d env => opt (itD d) env) Q at h
    unfold fzR at h
    cases ez : t.fz with
    | none => rw [ez] at h; exact h.elim
    | some d =>
      rw [ez] at h
      change CI X W P σ G H S (opt (itD d) e1) Q at h
      -- one form of data
      have go : ∀ (Z : V → Hp → Prop) (ds : List D), itD d = some ds → (∀ v G1 H1, Same G1 H1 → DV X.K X.mg G1 v d → (∀ J, Wk X.K X.mg J ds G1 → Q J H1) → Z v H1) → tT X W f σ H Z := fun Z ds ed hz => by
        refine ⟨env, P, G, S, st, ?_⟩
        rw [e]
        intro v G' H' S1 S2 g
        obtain ⟨G2, gd⟩ := freeze g ez
        rw [ed] at h
        exact hz v G2 H' gd.es.ge gd.dv fun J wk => h J G2 H' S2 gd.es gd.st wk
      cases d with
      | lst ds => exact .inl (go _ ds rfl fun v G1 H1 ge dv k => by
          cases dv with
          | lst ha r => exact ⟨_, rfl, ⟨_, .of (ge _ _ ha)⟩, k _ (wk_list (.of ha) r)⟩)
      | scr ds => exact .inl (go _ ds rfl fun v G1 H1 ge dv k => by
          cases dv with
          | scr ha r => exact ⟨_, rfl, ⟨_, ge.seq ha⟩, k _ (wk_list ha r)⟩)
      | tup ds => exact .inr (.inl (go _ ds rfl fun v G1 H1 ge dv k => by
          cases dv with
          | tup ha r => exact ⟨_, rfl, ⟨_, sqt_same ge ha⟩, k _ (wk_tup ha r)⟩))
      | str z => exact .inr (.inr (go _ _ rfl fun v G1 H1 ge dv k => by
          cases dv
          exact ⟨z, rfl, k _ wk_str⟩))
      | _ => exact h.elim⟩
/-- range(n) -/
def rngD (lo : Int) (n : Nat) : List D := (List.range n).map fun i => .int (lo + (i : Nat))
def fRg1 (f : FT) : FI := fun env => (dfz f env).bind fun d env => match d with
  | .int j => if -(2 ^ 62) ≤ j ∧ j < 2 ^ 62 then .ok (rngD 0 j.toNat) env else .stuck
  | _ => .stuck
theorem wk_rng {lo : Int} {n : Nat} : Wk X.K X.mg (Itr lo n) (rngD lo n) G := fun i G2 H2 g1 g2 => ⟨fun d e => by
  unfold rngD at e
  rw [List.getElem?_map] at e
  cases q : (List.range n)[i]? with
  | none => rw [q] at e; cases e
  | some c =>
    rw [q] at e; cases e
    obtain ⟨hi, hc⟩ := List.getElem?_eq_some_iff.mp q
    simp at hi hc
    subst hc
    refine ⟨hi, fun x H3 y => ?_⟩
    obtain ⟨rfl, rfl⟩ := y
    exact ⟨G2, .refl g2, .int _⟩, fun hl => (by simpa [rngD] using hl : n ≤ i)⟩
theorem i_rng1 {p pos : Pos} (hg : Gl X "range") (hm : X.mg "range" = none) (he : TOk X W e f) (hs : starEach [e] X.env = [(false, eval e X.env)] := by rfl) : IOk X W tg (.Call (.Name "range" p) [e] [] pos) (fRg1 f) := ⟨piW (pi_range1 hg hm (pa_cons he.pe pa_nil hs) hs) fun σ H Q q => by
  obtain ⟨env, P, G, S, st, h⟩ := q
  refine tT_bindI (k := fun d env => match d with
  | .int j => if -(2 ^ 62) ≤ j ∧ j < 2 ^ 62 then .ok (rngD 0 j.toNat) env else .stuck
  | _ => .stuck) st h fun d env1 v G1 H1 S1 g c => ?_
  split at c
  · rename_i j
    split at c
    · rename_i hj
      have ev := g.dv.int_inv
      subst ev
      exact ⟨j, rfl, hj.1, hj.2, c _ G1 H1 S1 g.es (Stp.refl _ _ _) wk_rng⟩
    · exact c.elim
  · exact c.elim⟩
end
/-! ### targets -/
/-- how data goes to a target: slots (all stored as data) -/
inductive Tg where
  | nm (i : Nat) | tp (ts : List Tg)
mutual
def Tg.put : Tg → D → Env → Option Env
  | .nm i, d, env => some (env.set i (.dat d))
  | .tp ts, .tup ds, env => tgPut ts ds env
  | .tp _, _, _ => none
def tgPut : List Tg → List D → Env → Option Env
  | [], [], env => some env
  | t :: ts, d :: ds, env => match t.put d env with
    | some e => tgPut ts ds e
    | none => none
  | _, _, _ => none
end
mutual
def Tg.ix : Tg → List Nat
  | .nm i => [i]
  | .tp ts => tgIx ts
def tgIx : List Tg → List Nat
  | [] => []
  | t :: ts => t.ix ++ tgIx ts
end
/-- .. as a rule: data v ~ d in, the slots of l alone stored -/
def tGg (X : Cx) (t : Tg) (l : List Nat) (g : TG) : Prop := ∀ (P : AS) (v : V) (d : D) (σ : L2.St) (G H : Hp) (env e1 : Env) (S : AS) (Q : L2.St → Hp → Prop), ES X.K X.mg P σ G H env S → DV X.K X.mg G v d → t.put d env = some e1 →
  (∀ σ' S', ES X.K X.mg P σ' G H e1 S' → (∀ a, S' a → S a) → σ'.length = σ.length → (∀ j, j ∉ l → σ'[j]? = σ[j]?) → Q σ' H) → g v σ H Q
mutual
def gOf (K : Frg) : Tg → TG
  | .nm i => gName i
  | .tp ts => gTup K ts.length (gsOf K ts)
def gsOf (K : Frg) : List Tg → TGs
  | [] => gNil
  | t :: ts => gCons (gOf K t) (gsOf K ts)
end
structure GOk (X : Cx) (e : Expr) (t : Tg) : Prop where
  pg : PG X e (gOf X.K t)
def tGgs (X : Cx) (ts : List Tg) (l : List Nat) (g : TGs) : Prop := ∀ (P : AS) (vs : List V) (ds : List D) (σ : L2.St) (G H : Hp) (env e1 : Env) (S : AS) (Q : L2.St → Hp → Prop), ES X.K X.mg P σ G H env S → DVs X.K X.mg G vs ds → tgPut ts ds env = some e1 →
  (∀ σ' S', ES X.K X.mg P σ' G H e1 S' → (∀ a, S' a → S a) → σ'.length = σ.length → (∀ j, j ∉ l → σ'[j]? = σ[j]?) → Q σ' H) → g vs σ H Q
structure GsOk (X : Cx) (es : List Expr) (ts : List Tg) : Prop where
  pg : PGs X es (gsOf X.K ts)
section
variable {X : Cx} {i : Nat} {x : Str} {pos : Pos} {e : Expr} {es : List Expr} {t : Tg} {ts : List Tg}
theorem ES.setD {P : AS} {σ : L2.St} {G H : Hp} {env : Env} {S : AS} {v : V} {d : D} (st : ES X.K X.mg P σ G H env S) (dv : DV X.K X.mg G v d) : ES X.K X.mg P (σ.set i (some v)) G H (env.set i (.dat d)) S :=
  ⟨(st.sl.put (S' := N0) (.inr ⟨v, rfl, .own (.dat dv)⟩) fun _ z => z.elim).weak fun a z => z.elim (fun z => z.elim) id, st.ge, st.ow, st.pv⟩
theorem tgPut_len : ∀ {ts : List Tg} {ds : List D} {env e1 : Env}, tgPut ts ds env = some e1 → ds.length = ts.length
  | [], [], _, _, _ => rfl
  | t :: ts, d :: ds, env, e1, h => by
    simp only [tgPut] at h
    split at h
    · exact congrArg (· + 1) (tgPut_len h)
    · cases h
  | [], _ :: _, _, _, h => by simp [tgPut] at h
  | _ :: _, [], _, _, h => by simp [tgPut] at h
mutual
theorem gOf_ok : ∀ (t : Tg), tGg X t t.ix (gOf X.K t)
  | .nm i => fun P v d σ G H env e1 S Q st dv hp k => by
    simp only [Tg.put] at hp
    cases hp
    simp only [gOf]
    exact k (σ.set i (some v)) S (st.setD dv) (fun _ z => z) List.length_set fun j hj => List.getElem?_set_ne (fun e => hj (by simp only [Tg.ix]; rw [← e]; exact List.mem_singleton.mpr rfl))
  | .tp ts => fun P v d σ G H env e1 S Q st dv hp k => by
    cases d with
    | tup ds =>
      simp only [Tg.put] at hp
      simp only [gOf]
      cases dv with
      | tup ha r => exact ⟨_, _, rfl, sqt_same st.ge ha, by rw [r.length]; exact tgPut_len hp, gsOf_ok ts P _ _ σ G H env e1 S Q st r hp (by simpa only [Tg.ix] using k)⟩
    | _ => simp [Tg.put] at hp
theorem gsOf_ok : ∀ (ts : List Tg), tGgs X ts (tgIx ts) (gsOf X.K ts)
  | [] => fun P vs ds σ G H env e1 S Q st dv hp k => by
    simp only [gsOf]
    cases dv with
    | nil =>
      simp only [tgPut] at hp
      cases hp
      exact ⟨rfl, k σ S st (fun _ z => z) rfl fun _ _ => rfl⟩
    | cons _ _ => simp [tgPut] at hp
  | t :: ts => fun P vs ds σ G H env e1 S Q st dv hp k => by
    simp only [gsOf]
    cases dv with
    | nil => simp [tgPut] at hp
    | cons dv dvs =>
      simp only [tgPut] at hp
      split at hp
      · rename_i e2 h2
        refine ⟨_, _, rfl, gOf_ok t P _ _ σ G H env e2 S _ st dv h2 fun σ1 S1 st1 l1 n1 o1 => gsOf_ok ts P _ _ σ1 G H e2 e1 S1 Q st1 dvs hp fun σ2 S2 st2 l2 n2 o2 => k σ2 S2 st2 (fun a z => l1 a (l2 a z)) (n2.trans n1) fun j hj => ?_⟩
        have hj' : j ∉ t.ix ∧ j ∉ tgIx ts := by
          simp only [tgIx, List.mem_append, not_or] at hj
          exact hj
        rw [o2 j hj'.2, o1 j hj'.1]
      · cases hp
end
theorem g_nm (hN : X.N.Nodup) (hi : X.N[i]? = some x) (hx : Loc X.env.scope x) (hf : X.fn x = true ∨ X.env.scope.names.lookup x = some .local := by first | exact .inl rfl | exact .inr rfl | assumption) : GOk X (.Name x pos) (.nm i) := ⟨by simp only [gOf]; exact pg_name hN hi hx hf⟩
theorem gs_nil : GsOk X [] [] := ⟨by simp only [gsOf]; exact pgs_nil⟩
theorem gs_cons (h : GOk X e t) (hs : GsOk X es ts) (ha : List.map (fun x => x.snd) (assignEach (e :: es) X.env) = assign e X.env :: List.map (fun x => x.snd) (assignEach es X.env) := by rfl) : GsOk X (e :: es) (t :: ts) := ⟨by
  simp only [gsOf]
  exact pgs_cons h.pg hs.pg ha⟩
theorem g_tp {j : Nat} (hc : X.calm = true) (h : GsOk X es ts) (hn : (assignEach es X.env).length = ts.length := by rfl) (hst : (assignEach es X.env).findIdx? (·.1) = none := by rfl) : GOk X (.Tuple es j pos) (.tp ts) := ⟨by
  simp only [gOf]
  exact pg_tup hc h.pg hn hst⟩
end
/-! ### for -/
def forL (t : Tg) (b : FS) : List D → Env → RS
  | [], env => .nx env
  | d :: ds, env => match t.put d env with
    | none => .stuck
    | some e => match b e with
      | .nx e => forL t b ds e
      | .ct e => forL t b ds e
      | .bk e => .nx e
      | .ret t e => .ret t e
      | .exc x e => .exc x e
      | .stuck => .stuck
def fFor (fi : FI) (t : Tg) (b : FS) : FS := fun env => (fi env).bindS fun ds env => forL t b ds env
section
variable {X : Cx} {W : WX} {kp : List Nat} {P : AS} {σ : L2.St} {G H : Hp} {S : AS} {env : Env} {B : Ends} {tg iter : Expr} {body : List Stmt} {fi : FI} {t : Tg} {b : FS} {pos : Pos} {k : Nat}
theorem tI_bindS {fi : FI} {k : List D → Env → RS} {Z : It → Hp → Prop} (st : ES X.K X.mg P σ G H env S) (h : CS X.K X.mg W kp P σ G H S ((fi env).bindS k) B)
    (hk : ∀ ds env1 J G1 H1 S1, ES X.K X.mg P σ G1 H1 env1 S1 → Stp G H S G1 H1 S1 → Wk X.K X.mg J ds G1 → CS X.K X.mg W kp P σ G1 H1 S1 (k ds env1) B → Z J H1) : tI X W fi σ H Z := by
  refine ⟨env, P, G, S, st, ?_⟩
  cases e : fi env with
  | stuck => rw [e] at h; exact h
  | exc x e1 => rw [e] at h; exact h σ .refl
  | ok ds e1 => rw [e] at h; exact fun J G' H' S1 g1 g2 g3 => hk ds e1 J G' H' S1 g1 g2 g3 (CS.base g2 .refl h)
theorem Grow.trans {G H G1 H1 G2 H2 : Hp} (a : Grow G H G1 H1) (b : Grow G1 H1 G2 H2) : Grow G H G2 H2 := ⟨a.gg.trans b.gg, a.hh.trans b.hh, b.ge, fun x o e => by
  rcases b.new x o e with q | q
  · exact a.new x o q
  · exact .inr (a.hh.free q)⟩
theorem for_run {J : It} {g : TG} {tb : TS} (hg : tGg X t t.ix g) (hkp : ∀ i, i ∈ t.ix → i ∉ kp) (htb : ∀ B σ H, tS X W kp b B σ H → tb B σ H) : ∀ {ds : List D} {env : Env} {σ : L2.St} {G H : Hp} {S : AS} {all : List D} {G0 : Hp} {i : Nat}, Wk X.K X.mg J all G0 → Same G0 G → all.drop i = ds → i ≤ all.length → ES X.K X.mg P σ G H env S →
      CS X.K X.mg W kp P σ G H S (forL t b ds env) B →
      ∃ Wv : Nat → Nat → L2.St → Hp → Prop, (∃ m, Wv i m σ H) ∧ ∀ i m σ H, Wv i m σ H → (J.stop i H ∧ B.nx σ H) ∨ (J.go i H ∧ ∃ N : L2.St → Hp → Prop, (∀ σ' H', N σ' H' → ∃ m', m' < m ∧ Wv (i + 1) m' σ' H') ∧ ∀ x H', J.yld i H x H' → g x σ H' fun σ2 H2 => tb { B with nx := N, ct := N, bk := B.nx } σ2 H2) := by
  intro ds env σ G H S all G0 i wk sg hd hi st h
  refine ⟨fun i m σ H => m = all.length - i ∧ i ≤ all.length ∧ ∃ env G S, Same G0 G ∧ ES X.K X.mg P σ G H env S ∧ CS X.K X.mg W kp P σ G H S (forL t b (all.drop i) env) B, ⟨_, rfl, hi, env, G, S, sg, st, by rw [hd]; exact h⟩, ?_⟩
  rintro i m σ H ⟨rfl, hi, env, G, S, sg, st, h⟩
  obtain ⟨w1, w2⟩ := wk i G H sg st.ge
  by_cases hlt : i < all.length
  · refine .inr ?_
    have ed : all.drop i = all[i] :: all.drop (i + 1) := List.drop_eq_getElem_cons hlt
    rw [ed] at h
    obtain ⟨hgo, hy⟩ := w1 _ (List.getElem?_eq_getElem hlt)
    refine ⟨hgo, fun σ' H' => ∃ env G S, Same G0 G ∧ ES X.K X.mg P σ' G H' env S ∧ CS X.K X.mg W kp P σ' G H' S (forL t b (all.drop (i + 1)) env) B, fun σ' H' q => ⟨_, by omega, rfl, hlt, q⟩, fun x H' y => ?_⟩
    obtain ⟨G3, gr, dv⟩ := hy x H' y
    have st3 := gr.es st
    simp only [forL] at h
    split at h
    · exact h.elim
    · rename_i e1 hp
      refine hg P x _ σ G3 H' env e1 S _ st3 dv hp fun σ2 S2 st2 l2 n2 o2 => htb _ _ _ ⟨e1, P, G3, S2, st2, ?_⟩
      have kq : Kp kp σ σ2 := ⟨n2, fun j hj => o2 j fun z => hkp j z hj⟩
      have h2 : CS X.K X.mg W kp P σ2 G3 H' S2 _ B := CS.base (gr.stp.less l2) kq h
      have sg3 := sg.trans gr.gg
      cases q : b e1 with
      | stuck => rw [q] at h2; exact h2
      | nx e2 => rw [q] at h2; exact fun σ' G' H'' S' a1 a2 a3 => ⟨e2, G', S', sg3.trans a2.gg, a1, CS.base a2 a3 h2⟩
      | ct e2 => rw [q] at h2; exact fun σ' G' H'' S' a1 a2 a3 => ⟨e2, G', S', sg3.trans a2.gg, a1, CS.base a2 a3 h2⟩
      | bk e2 => rw [q] at h2; exact h2
      | ret t e2 => rw [q] at h2; exact h2
      | exc x e2 => rw [q] at h2; exact h2
  · have e : i = all.length := by omega
    subst e
    rw [List.drop_length] at h
    exact .inl ⟨w2 (Nat.le_refl _), h σ G H S st (Stp.refl _ _ _) .refl⟩
theorem s_for (kit : Kit X W k) (hi : IOk X W tg iter fi) (hg : GOk X tg t) (hb : SSk X W kp body b) (hkp : ∀ i, i ∈ t.ix → i ∉ kp := by decide) (hs : ∀ x, foldedSetIterable iter X.env x = pure x := by intro _; rfl) : SOk X W kp (.For tg iter body [] pos) (fFor fi t b) := by
  refine ⟨psW (ps_for kit.po kit.calm hi.pi hg.pg hb.ps hs) fun B σ H q => ?_⟩
  obtain ⟨env, P, G, S, st, h⟩ := q
  refine tI_bindS (k := fun ds env => forL t b ds env) st h fun ds env1 J G1 H1 S1 e1 s1 wk c => ?_
  exact for_run (gOf_ok t) hkp (fun _ _ _ q => q) (i := 0) wk (Same.refl _) rfl (Nat.zero_le _) e1 c
/-! ### while -/
def whl (c : FB) (b : FS) : Nat → Env → RS
  | 0, _ => .stuck
  | n + 1, env => (c env).bindS fun k env => if k = true then (match b env with
    | .nx e => whl c b n e
    | .ct e => whl c b n e
    | .bk e => .nx e
    | .ret t e => .ret t e
    | .exc x e => .exc x e
    | .stuck => .stuck) else .nx env
def FUEL : Nat := 1099511627776
def fWhl (c : FB) (b : FS) : FS := whl c b FUEL
theorem s_while {c : Expr} {fc : FB} (kit : Kit X W k) (hc : BOk X W c fc) (hb : SSk X W kp body b) : SOk X W kp (.While c body [] pos) (fWhl fc b) := ⟨psW (ps_while kit.po hc.pt hb.ps) fun B σ H q => by
  obtain ⟨env, P, G, S, st, h⟩ := q
  refine ⟨fun m σ H => ∃ env G S, ES X.K X.mg P σ G H env S ∧ CS X.K X.mg W kp P σ G H S (whl fc b m env) B, ⟨FUEL, env, G, S, st, h⟩, ?_⟩
  rintro m σ H ⟨env, G, S, st, h⟩
  cases m with
  | zero => exact ⟨env, P, G, S, st, h.elim⟩
  | succ m =>
    simp only [whl] at h
    refine tB_bindS (k := fun k env => if k = true then (match b env with
      | .nx e => whl fc b m e
      | .ct e => whl fc b m e
      | .bk e => .nx e
      | .ret t e => .ret t e
      | .exc x e => .exc x e
      | .stuck => .stuck) else .nx env) st h fun kk env1 G1 H1 S1 e1 s1 c => ?_
    cases kk with
    | false => exact iteF (c σ G1 H1 S1 e1 (Stp.refl _ _ _) .refl)
    | true =>
      refine iteT ⟨fun σ' H' => ∃ env G S, ES X.K X.mg P σ' G H' env S ∧ CS X.K X.mg W kp P σ' G H' S (whl fc b m env) B, fun σ' H' q => ⟨m, Nat.lt_succ_self _, q⟩, env1, P, G1, S1, e1, ?_⟩
      change CS X.K X.mg W kp P σ G1 H1 S1 (match b env1 with
        | .nx e => whl fc b m e
        | .ct e => whl fc b m e
        | .bk e => .nx e
        | .ret t e => .ret t e
        | .exc x e => .exc x e
        | .stuck => .stuck) B at c
      cases q : b env1 with
      | stuck => rw [q] at c; exact c
      | nx e2 => rw [q] at c; exact fun σ' G' H'' S' a1 a2 a3 => ⟨e2, G', S', a1, CS.base a2 a3 c⟩
      | ct e2 => rw [q] at c; exact fun σ' G' H'' S' a1 a2 a3 => ⟨e2, G', S', a1, CS.base a2 a3 c⟩
      | bk e2 => rw [q] at c; exact c
      | ret t e2 => rw [q] at c; exact c
      | exc x e2 => rw [q] at c; exact c⟩
end
end L3
/-! L3, part L: list comprehensions. -/
namespace L3
open PySem PySem.Spec L2
def slotOk : Option T → Bool
  | some .no => true
  | some (.dat _) => true
  | _ => false
def okW (vs : List Nat) (env : Env) : Bool := vs.all fun i => slotOk env[i]?
def wipeE (env : Env) : List Nat → Env
  | [] => env
  | v :: vs => (wipeE env vs).set v .no
/-- the slots of vs as they stood in o -/
def restE (o env : Env) : List Nat → Env
  | [] => env
  | v :: vs => restE o (match o[v]? with
    | some t => env.set v t
    | none => env) vs
/-- .. where nothing may be raised -/
def R.bindN {α β : Type} (r : R α) (k : α → Env → R β) : R β := match r with
  | .ok a env => k a env
  | _ => .stuck
def lcL (t : Tg) (tst : FB) (elt : FT) (vs : List Nat) : List D → List T → Env → R (List T)
  | [], acc, env => .ok acc env
  | d :: ds, acc, env => match t.put d env with
    | none => .stuck
    | some e => (tst e).bindN fun k e => if k = true then (elt e).bindN fun t' e => if acc.length < sizeLine then lcL t tst elt vs ds (acc ++ [t']) (wipeE e vs) else .stuck
      else lcL t tst elt vs ds acc (wipeE e vs)
def fLc (vs : List Nat) (fi : FI) (t : Tg) (tst : FB) (elt : FT) : FT := fun env => (fi env).bind fun ds e1 => if okW vs e1 = true then (lcL t tst elt vs ds [] (wipeE e1 vs)).bind fun ts e2 => .ok (.lst ts) (restE e1 e2 vs) else .stuck
def fYes : FB := fun env => .ok true env
structure IfOk (X : Cx) (W : WX) (ifs : List Expr) (f : FB) : Prop where
  pt : PTs X ifs (tB X W f)
theorem ptsW {X : Cx} {e : List Expr} {t t' : TT} (h : PTs X e t) (w : ∀ σ H Q, t' σ H Q → t σ H Q) : PTs X e t' := ⟨fun pins s σ H Q I q => h.run pins s σ H Q I (w σ H Q q)⟩
section
variable {K : Frg} {mg : MG} {P : AS} {G H : Hp} {σ : L2.St} {env : Env} {S : AS}
theorem TVs.snoc {vs : List V} {ts : List T} {S S1 : AS} {v : V} {t : T} (h : TVs K mg G H vs ts S) (q : TV K mg G H v t S1) (d : Dj S S1) : TVs K mg G H (vs ++ [v]) (ts ++ [t]) (U S S1) := by
  induction ts generalizing vs S with
  | nil =>
    cases h with
    | nil => exact .cons (S1 := S1) (S2 := N0) q .nil (fun b z => ⟨.inr z, id⟩) fun _ z => z.elim
  | cons t ts ih =>
    cases h with
    | cons h r d1 d2 =>
      rename_i A B
      exact .cons (S1 := A) (S2 := U B S1) h (ih r fun a z w => d a (d2 a z) w) (fun b z => ⟨.inl (d1 b z).1, fun w => w.elim (d1 b z).2 (d b (d1 b z).1)⟩) fun b z => z.imp (d2 b) id
theorem SL.wiped (h : SL K mg P G H σ env S) : ∀ (vs : List Nat), SL K mg P G H (wipe σ vs) (wipeE env vs) S
  | [] => h
  | v :: vs => by
    have := (SL.wiped h vs).put (i := v) (s := none) (t := .no) (S' := N0) (.inl rfl) fun _ z => z.elim
    exact this.weak fun a z => z.elim (fun z => z.elim) id
theorem wipe_cons {v : Nat} {vs : List Nat} : wipe σ (v :: vs) = (wipe σ vs).set v none := rfl
theorem wipe_off {i : Nat} : ∀ {vs : List Nat}, i ∉ vs → (wipe σ vs)[i]? = σ[i]?
  | [], _ => rfl
  | v :: vs, h => by
    simp only [List.mem_cons, not_or] at h
    unfold L2.wipe
    rw [List.getElem?_set_ne (Ne.symm h.1)]
    exact wipe_off h.2
theorem set_id {α : Type} : ∀ (l : List α) (i : Nat) (x : α), (∀ y, l[i]? = some y → y = x) → l.set i x = l
  | [], _, _, _ => rfl
  | a :: l, 0, x, h => by rw [h a rfl]; rfl
  | a :: l, i + 1, x, h => congrArg (a :: ·) (set_id l i x fun y e => h y (by simpa using e))
theorem SL.rest {o : Env} {G0 : Hp} {S0 : AS} {H0 : Hp} (so : SL K mg P G0 H0 σ o S0) (sg : Same G0 G) : ∀ (vs : List Nat) {env : Env} {S : AS}, vs.Nodup → okW vs o = true → SL K mg P G H (wipe σ vs) env S → SL K mg P G H σ (restE o env vs) S
  | [], _, _, _, _, h => h
  | v :: vs, env, S, nd, ok, h => by
    have nd' := List.nodup_cons.mp nd
    unfold okW at ok
    rw [List.all_cons, Bool.and_eq_true] at ok
    unfold restE
    refine SL.rest so sg vs nd'.2 ok.2 ?_
    have e0 : ∀ s, (wipe σ vs)[v]? = s → σ[v]? = s := fun s e => by rw [← wipe_off nd'.1]; exact e
    cases q : o[v]? with
    | none =>
      -- the slot is beyond
      have hl : σ.length ≤ v := by rw [so.length]; exact List.getElem?_eq_none_iff.mp q
      have : wipe σ (v :: vs) = wipe σ vs := by
        rw [wipe_cons]
        exact set_id _ _ _ fun y e => by rw [wipe_off nd'.1, List.getElem?_eq_none_iff.mpr hl] at e; cases e
      rw [this] at h
      exact h
    | some t =>
      have hs : ∃ s, σ[v]? = some s ∧ (t = .no ∨ ∃ u, s = some u ∧ VV K mg P G H u t N0) := by
        rw [q] at ok
        have hlt : v < σ.length := by rw [so.length]; exact (List.getElem?_eq_some_iff.mp q).1
        refine ⟨σ[v], List.getElem?_eq_getElem hlt, ?_⟩
        cases t with
        | no => exact .inl rfl
        | dat d =>
          obtain ⟨u, eu, vv⟩ := so.get q (by intro z; cases z)
          rw [List.getElem?_eq_getElem hlt] at eu
          exact .inr ⟨u, Option.some.inj eu, .own (.dat (vv.dat_inv.mono sg))⟩
        | _ => exact absurd ok.1 Bool.false_ne_true
      obtain ⟨s, es, hq⟩ := hs
      have h2 := h.put (i := v) (s := s) (t := t) (S' := N0) hq fun _ z => z.elim
      have e1 : (wipe σ (v :: vs)).set v s = wipe σ vs := by
        rw [wipe_cons, List.set_set]
        exact set_id _ _ _ fun y e => by rw [wipe_off nd'.1, es] at e; exact (Option.some.inj e).symm
      rw [e1] at h2
      exact h2.weak fun a z => z.elim (fun z => z.elim) id
theorem wipe_len (σ : L2.St) (vs : List Nat) : (wipe σ vs).length = σ.length := wipe_length σ vs
theorem wipe_ext {σ' : L2.St} {vs : List Nat} (hl : σ'.length = σ.length) (h : ∀ j, j ∉ vs → σ'[j]? = σ[j]?) : ∀ (us : List Nat), (∀ j, j ∈ vs → j ∈ us) → wipe σ' us = wipe σ us := fun us hu => by
  apply List.ext_getElem?
  intro j
  by_cases hj : j ∈ us
  · have key : ∀ (τ : L2.St) (us : List Nat), j ∈ us → j < τ.length → (wipe τ us)[j]? = some none := fun τ us hm hlt => by
      induction us with
      | nil => cases hm
      | cons v us ih =>
        unfold L2.wipe
        by_cases e : v = j
        · subst e
          rw [List.getElem?_set_self (by rw [wipe_length]; exact hlt)]
        · rw [List.getElem?_set_ne e]
          exact ih ((List.mem_cons.mp hm).resolve_left (Ne.symm e))
    by_cases hlt : j < σ.length
    · rw [key σ' us hj (by rw [hl]; exact hlt), key σ us hj hlt]
    · rw [List.getElem?_eq_none_iff.mpr (by rw [wipe_length, hl]; omega), List.getElem?_eq_none_iff.mpr (by rw [wipe_length]; omega)]
  · rw [wipe_off hj, wipe_off hj]
    exact h j fun z => hj (hu j z)
theorem wipe_wipe (σ : L2.St) (vs : List Nat) : wipe (wipe σ vs) vs = wipe σ vs := wipe_ext (vs := vs) (wipe_length σ vs) (fun j hj => wipe_off hj) vs fun _ z => z
end
section
variable {X : Cx} {W : WX} {P : AS} {σ : L2.St} {G H : Hp} {S : AS} {env : Env} {Q : VK} {tg iter elt : Expr} {ifs : List Expr} {fi : FI} {t : Tg} {tst : FB} {fe : FT} {vs : List Nat} {k : Nat}
/-- a step inside of a turn -/
theorem tB_in {Z : Bool → Hp → Prop} {kk : Bool → Env → R (List T)} {W' : WX} (st : ES X.K X.mg P σ G H env S) (hn : ∃ a b, (tst env).bindN kk = .ok a b)
    (hk : ∀ b env1 G1 H1 S1, tst env = .ok b env1 → ES X.K X.mg P σ G1 H1 env1 S1 → Stp G H S G1 H1 S1 → Z b H1) : tB X W' tst σ H Z := by
  refine ⟨env, P, G, S, st, ?_⟩
  obtain ⟨a, b, h⟩ := hn
  cases e : tst env with
  | stuck => rw [e] at h; cases h
  | exc x e1 => rw [e] at h; cases h
  | ok c e1 => exact fun G' H' S1 g1 g2 => hk c e1 G' H' S1 e g1 g2
theorem tT_in {Z : V → Hp → Prop} {kk : T → Env → R (List T)} {W' : WX} (st : ES X.K X.mg P σ G H env S) (hn : ∃ a b, (fe env).bindN kk = .ok a b)
    (hk : ∀ b env1 v G1 H1 S1 S2, fe env = .ok b env1 → Got X.K X.mg P σ G H S v b env1 G1 H1 S1 S2 → Z v H1) : tT X W' fe σ H Z := by
  refine ⟨env, P, G, S, st, ?_⟩
  obtain ⟨a, b, h⟩ := hn
  cases e : fe env with
  | stuck => rw [e] at h; cases h
  | exc x e1 => rw [e] at h; cases h
  | ok c e1 => exact fun v G' H' S1 S2 g => hk c e1 v G' H' S1 S2 e g
/-- the list as it is filled: its address L, what it holds -/
structure Fill (X : Cx) (P : AS) (σ : L2.St) (vs : List Nat) (G0 H0 : Hp) (S0 : AS) (L : Addr) (env : Env) (acc : List T) (G H : Hp) : Prop where
  ex : ∃ (S SA : AS) (us : List V), ES X.K X.mg P (wipe σ vs) G H env S ∧ Stp G0 H0 S0 G H S ∧ H L = some (.lst us) ∧ G L = none ∧ (H0 L = none ∧ ¬ P L) ∧ ¬ S L ∧ TVs X.K X.mg G H us acc SA ∧ Own G H SA ∧ Dj SA S ∧ ¬ SA L ∧ ∀ a, SA a → S0 a ∨ H0 a = none
theorem lc_run {J : It} {all : List D} {G0 H0 : Hp} {S0 : AS} {L : Addr} {W' : WX} {te : TE} {tt : TT} (hix : ∀ i, i ∈ t.ix → i ∈ vs) (hte : ∀ σ H Q, tT X W' fe σ H Q → te σ H Q) (htt : ∀ σ H Q, tB X W' tst σ H Q → tt σ H Q) (wk : Wk X.K X.mg J all G0)
    {accF : List T} {envF : Env} (fin : ∀ H, (∃ G, Fill X P σ vs G0 H0 S0 L envF accF G H) → Q (.ref L) H) : ∀ {ds : List D} {acc : List T} {env : Env} {i : Nat} {G H : Hp}, all.drop i = ds → i ≤ all.length → lcL t tst fe vs ds acc env = .ok accF envF → Fill X P σ vs G0 H0 S0 L env acc G H →
      ∃ Wv : Nat → Nat → Hp → Prop, (∃ m, Wv i m H) ∧ ∀ i m H, Wv i m H → (J.stop i H ∧ Q (.ref L) H) ∨ (J.go i H ∧ ∃ Nx : Hp → Prop, (∀ H', Nx H' → ∃ m', m' < m ∧ Wv (i + 1) m' H') ∧ ∀ x H', J.yld i H x H' → gOf X.K t x (wipe σ vs) H' fun σ2 H2 => wipe σ2 vs = wipe σ vs ∧ tt σ2 H2 fun b H3 =>
        if b = true then te σ2 H3 fun y H4 => ∃ acc, H4 L = some (.lst acc) ∧ acc.length < sizeLine ∧ Nx (upd H4 L (.lst (acc ++ [y]))) else Nx H3) := by
  intro ds acc env i G H hd hi h fl
  refine ⟨fun i m H => m = all.length - i ∧ i ≤ all.length ∧ ∃ acc env G, lcL t tst fe vs (all.drop i) acc env = .ok accF envF ∧ Fill X P σ vs G0 H0 S0 L env acc G H, ⟨_, rfl, hi, acc, env, G, by rw [hd]; exact h, fl⟩, ?_⟩
  clear h fl hd hi
  rintro i m H ⟨rfl, hi, acc, env, G, h, ⟨S, SA, us, es, sp, hD, gD, h0D, nSD, tv, ow, dj, nSA, own0⟩⟩
  obtain ⟨w1, w2⟩ := wk i G H sp.gg es.ge
  by_cases hlt : i < all.length
  · refine .inr ?_
    have ed : all.drop i = all[i] :: all.drop (i + 1) := List.drop_eq_getElem_cons hlt
    rw [ed] at h
    obtain ⟨hgo, hy⟩ := w1 _ (List.getElem?_eq_getElem hlt)
    refine ⟨hgo, fun H' => ∃ acc env G, lcL t tst fe vs (all.drop (i + 1)) acc env = .ok accF envF ∧ Fill X P σ vs G0 H0 S0 L env acc G H', fun H' q => ⟨_, by omega, rfl, hlt, q⟩, fun x H' y => ?_⟩
    obtain ⟨G3, gr, dv⟩ := hy x H' y
    have st3 := gr.es es
    simp only [lcL] at h
    split at h
    · cases h
    · rename_i e1 hp
      refine gOf_ok t P x _ (wipe σ vs) G3 H' env e1 S _ st3 dv hp fun σ2 S2 st2 l2 n2 o2 => ?_
      have ewp : wipe σ2 vs = wipe σ vs := by
        rw [← wipe_wipe σ vs]
        exact wipe_ext (vs := t.ix) n2 o2 vs hix
      refine ⟨ewp, htt _ _ _ (tB_in st2 ⟨_, _, h⟩ fun b e2 G4 H4 S4 q4 st4 s4 => ?_)⟩
      -- from the turn's start to here
      have sA : Stp G H S G4 H4 S4 := (gr.stp.less l2).trans s4
      rw [q4] at h
      have tvA := tv.stp sA dj
      have owA := Own.stp sA ow dj
      have djA := Dj.stp sA ow dj
      have hDA : H4 L = some (.lst us) := sA.keep L _ hD nSD
      have nD4 : ¬ S4 L := fun z => by
        rcases sA.own L z with q | q
        · exact nSD q
        · rw [hD] at q; cases q
      have gD4 : G4 L = none := by
        cases q : G4 L with
        | none => rfl
        | some u =>
          rcases sA.new L u q with w | w | w
          · rw [gD] at w; cases w
          · exact (nSD w).elim
          · rw [hD] at w; cases w
      cases b with
      | false =>
        refine iteF ⟨acc, wipeE e2 vs, G4, h, ⟨S4, SA, us, ⟨?_, st4.ge, st4.ow, st4.pv⟩, sp.trans sA, hDA, gD4, h0D, nD4, tvA, owA, djA, nSA, own0⟩⟩
        have := SL.wiped st4.sl vs
        rw [ewp] at this
        exact this
      | true =>
        change (fe e2).bindN _ = _ at h
        refine iteT (hte _ _ _ (tT_in st4 ⟨_, _, h⟩ fun y e3 v G5 H5 S5 S6 q5 g5 => ?_))
        rw [q5] at h
        have sB : Stp G H S G5 H5 (U S5 S6) := sA.trans g5.st
        have sB6 : Stp G H S G5 H5 S6 := sB.less fun _ z => .inr z
        have tvB := tv.stp sB dj
        have owB := Own.stp sB ow dj
        have djB := Dj.stp sB ow dj
        have hDB : H5 L = some (.lst us) := sB.keep L _ hD nSD
        have nDB : ¬ U S5 S6 L := fun z => by
          rcases sB.own L z with q | q
          · exact nSD q
          · rw [hD] at q; cases q
        have gD5 : G5 L = none := by
          cases q : G5 L with
          | none => rfl
          | some u =>
            rcases sB.new L u q with w | w | w
            · rw [gD] at w; cases w
            · exact (nSD w).elim
            · rw [hD] at w; cases w
        change (if acc.length < sizeLine then _ else _) = _ at h
        split at h
        · rename_i hz
          refine ⟨us, hDB, by rw [tv.length]; exact hz, acc ++ [y], wipeE e3 vs, G5, h, ?_⟩
          -- the list has one more
          have ne : ∀ {F : AS} {a : Addr}, ¬ F L → F a → a ≠ L := fun nf z e => nf (by rw [← e]; exact z)
          have kp : ∀ {F : AS}, ¬ F L → ∀ a o, F a → H5 a = some o → upd H5 L (.lst (us ++ [v])) a = some o := fun nf a o z q => by rw [upd_ne (ne nf z)]; exact q
          have n5 : ¬ S5 L := fun z => nDB (.inl z)
          have n6 : ¬ S6 L := fun z => nDB (.inr z)
          have sgD : Same G5 (upd H5 L (.lst (us ++ [v]))) := fun a o q => by
            have : a ≠ L := fun e => by rw [e, gD5] at q; cases q
            rw [upd_ne this]
            exact g5.es.ge a o q
          have pD : ¬ P L := h0D.2
          refine ⟨S6, U SA S5, us ++ [v], ⟨?_, sgD, fun a z => ⟨(g5.es.ow a z).1, (g5.es.ow a z).2.imp fun o q => kp n6 a o z q⟩, fun a z => ⟨(g5.es.pv a z).1, (g5.es.pv a z).2.imp fun o q => kp pD a o z q⟩⟩, ?_, upd_same, gD5, h0D, n6, ?_, ?_, ?_, ?_, ?_⟩
          · have := SL.wiped (SL.move (Same.refl _) (S := S6) (kp n6) (kp pD) (fun _ z => z) g5.es.sl) vs
            rw [ewp] at this
            exact this
          · have sC := sp.trans sB6
            exact ⟨sC.gg, fun a o q n => by
              have : a ≠ L := fun e => by rw [e, h0D.1] at q; cases q
              rw [upd_ne this]
              exact sC.keep a o q n, sC.own, sC.new⟩
          · exact TVs.snoc (tvB.move (Same.refl _) (S := SA) (kp nSA) fun _ z => z) (g5.tv.move (Same.refl _) (S := S5) (kp n5) fun _ z => z) fun a z w => djB a z (.inl w)
          · intro a z
            rcases z with z | z
            · exact ⟨(owB a z).1, (owB a z).2.imp fun o q => kp nSA a o z q⟩
            · exact ⟨(g5.ow a z).1, (g5.ow a z).2.imp fun o q => kp n5 a o z q⟩
          · intro a z w
            rcases z with z | z
            · exact djB a z (.inr w)
            · exact g5.dj a z w
          · exact fun z => z.elim nSA n5
          · intro a z
            rcases z with z | z
            · exact own0 a z
            · exact (sp.trans sB).own a (.inl z)
        · cases h
  · have e : i = all.length := by omega
    subst e
    rw [List.drop_length] at h
    cases h
    exact .inl ⟨w2 (Nat.le_refl _), fin H ⟨G, ⟨S, SA, us, es, sp, hD, gD, h0D, nSD, tv, ow, dj, nSA, own0⟩⟩⟩
theorem lcL_noexc : ∀ {ds : List D} {acc : List T} {env : Env} {x : Exc} {e : Env}, lcL t tst fe vs ds acc env = .exc x e → False
  | [], _, _, _, _, h => by cases h
  | d :: ds, acc, env, x, e, h => by
    simp only [lcL] at h
    split at h
    · cases h
    · rename_i e1 _
      cases q : tst e1 with
      | stuck => rw [q] at h; cases h
      | exc _ _ => rw [q] at h; cases h
      | ok b e2 =>
        rw [q] at h
        cases b with
        | false => exact lcL_noexc h
        | true =>
          change (fe e2).bindN _ = _ at h
          cases q2 : fe e2 with
          | stuck => rw [q2] at h; cases h
          | exc _ _ => rw [q2] at h; cases h
          | ok y e3 =>
            rw [q2] at h
            change (if acc.length < sizeLine then _ else _) = _ at h
            split at h
            · exact lcL_noexc h
            · cases h
/-- the reading of a comprehension -/
theorem lc_read {W' : WX} (hix : ∀ i, i ∈ t.ix → i ∈ vs) (nd : vs.Nodup) (q : tT X W (fLc vs fi t tst fe) σ H Q) : tLc (tI X W fi) (gOf X.K t) (tB X W' tst) (tT X W' fe) vs σ H Q := by
  obtain ⟨env, P, G, S, st, h⟩ := q
  change CT X.K X.mg W P σ G H S ((fi env).bind fun ds e1 => if okW vs e1 = true then (lcL t tst fe vs ds [] (wipeE e1 vs)).bind fun ts e2 => .ok (.lst ts) (restE e1 e2 vs) else .stuck) Q at h
  refine ⟨env, P, G, S, st, ?_⟩
  cases e : fi env with
  | stuck => rw [e] at h; exact h
  | exc x e1 => rw [e] at h; exact h
  | ok ds e1 =>
    rw [e] at h
    intro J G1 H1 S1 st1 sp1 wk L hL
    change CT X.K X.mg W P σ G H S (if okW vs e1 = true then (lcL t tst fe vs ds [] (wipeE e1 vs)).bind fun ts e2 => .ok (.lst ts) (restE e1 e2 vs) else .stuck) Q at h
    split at h
    · rename_i hok
      cases el : lcL t tst fe vs ds [] (wipeE e1 vs) with
      | stuck => rw [el] at h; exact h.elim
      | exc x e2 =>
        -- what is raised in a comprehension is not served
        rw [el] at h
        exact (lcL_noexc el).elim
      | ok ts e2 =>
        rw [el] at h
        have gL : G1 L = none := st1.ge.free hL
        have ne1 : ∀ a, S1 a → a ≠ L := fun a z e => by
          obtain ⟨_, o, q⟩ := st1.ow a z
          rw [e, hL] at q; cases q
        have neP : ∀ a, P a → a ≠ L := fun a z e => by
          obtain ⟨_, o, q⟩ := st1.pv a z
          rw [e, hL] at q; cases q
        refine lc_run (P := P) (σ := σ) (Q := Q) (vs := vs) (G0 := G1) (H0 := H1) (S0 := S1) (L := L) (W' := W') hix (fun _ _ _ q => q) (fun _ _ _ q => q) wk (accF := ts) (envF := e2) (fun H2 fl => ?_) (i := 0) (acc := []) (env := wipeE e1 vs) (G := G1) rfl (Nat.zero_le _) el
          ⟨S1, N0, [], ⟨?_, same_upd' st1.ge hL, fun a z => ?_, fun a z => ?_⟩, ⟨Same.refl _, fun a o q _ => by rw [upd_ne (ne_of_none q hL)]; exact q, fun _ z => .inl z, fun _ _ z => .inl z⟩, upd_same, gL, ⟨hL, fun z => neP L z rfl⟩, fun z => ne1 L z rfl, .nil, fun _ z => z.elim, fun _ z => z.elim, id, fun _ z => z.elim⟩
        · obtain ⟨G2, S2, SA, us, es, sp, hD, gD, h0D, nSD, tv, ow, dj, nSA, own0⟩ := fl
          refine h (.ref L) G2 H2 (U (fun a => a = L) SA) S2 ⟨.lst hD (.inl rfl) tv fun b z => ⟨.inr z, fun e => nSA (by rw [← e]; exact z)⟩, ⟨SL.rest st1.sl sp.gg vs nd hok es.sl, es.ge, es.ow, es.pv⟩, fun a z => ?_, fun a z w => ?_, sp1.gg.trans sp.gg, fun a o q n => ?_, fun a z => ?_, fun a o q => ?_⟩
          · rcases z with z | z
            · rw [z]; exact ⟨gD, _, hD⟩
            · exact ow a z
          · rcases z with z | z
            · exact nSD (by rw [← z]; exact w)
            · exact dj a z w
          · exact (sp1.trans sp).keep a o q n
          · have back : ∀ a, S1 a ∨ H1 a = none → S a ∨ H a = none := fun a z => by
              rcases z with z | z
              · exact sp1.own a z
              · by_cases hs : S a
                · exact .inl hs
                · refine .inr ?_
                  cases q : H a with
                  | none => rfl
                  | some o => rw [sp1.keep a o q hs] at z; cases z
            rcases z with (z | z) | z
            · rw [z]; exact back L (.inr hL)
            · exact back a (own0 a z)
            · exact (sp1.trans sp).own a z
          · exact (sp1.trans sp).new a o q
        · exact SL.wiped (SL.move (Same.refl _) (S := S1) (fun a o z q => by rw [upd_ne (ne1 a z)]; exact q) (fun a o z q => by rw [upd_ne (neP a z)]; exact q) (fun _ z => z) st1.sl) vs
        · exact ⟨(st1.ow a z).1, (st1.ow a z).2.imp fun o q => by rw [upd_ne (ne1 a z)]; exact q⟩
        · exact ⟨(st1.pv a z).1, (st1.pv a z).2.imp fun o q => by rw [upd_ne (neP a z)]; exact q⟩
    · exact h.elim
theorem if_nil : IfOk X W [] fYes := ⟨ptsW pts_nil fun σ H Q q => by
  obtain ⟨env, P, G, S, st, h⟩ := q
  exact CB.ok st h⟩
theorem if_one {c : Expr} {bc : FB} (h : BOk X W c bc) : IfOk X W [c] bc := ⟨pts_one h.pt⟩
/-- the judgements of a comprehension's block -/
structure BkOk (X : Cx) (scope : Scope) (tg elt : Expr) (ifs : List Expr) (t : Tg) (tst : FB) (fe : FT) : Prop where
  g : ∀ (s : Shared) (H : Hp) (C : Addr) (cl : List (Str × Addr)) (fp : List Addr), GOk (X.blk s H scope (compEnvC scope cl C X.env) fp) tg t
  i : ∀ (s : Shared) (H : Hp) (C : Addr) (cl : List (Str × Addr)) (fp : List Addr), IfOk (X.blk s H scope (compEnvC scope cl C X.env) fp) W0 ifs tst
  e : ∀ (s : Shared) (H : Hp) (C : Addr) (cl : List (Str × Addr)) (fp : List Addr), TOk (X.blk s H scope (compEnvC scope cl C X.env) fp) W0 elt fe
theorem t_lc {scope : Scope} {own : List (Str × Nat)} {pos : Pos} (kit : Kit X W k) (hi : IOk X W tg iter fi) (ok : blkC X.N X.env.scope scope own = true) (bk : BkOk X scope tg elt ifs t tst fe) (hix : ∀ i, i ∈ t.ix → i ∈ own.map (·.2) := by decide) (nd : (own.map (·.2)).Nodup := by decide)
    (hs : ∀ x, foldedSetIterable iter X.env x = pure x := by intro _; rfl) : TOk X W (.ListComp elt [⟨tg, iter, ifs, 0⟩] scope pos) (fLc (own.map (·.2)) fi t tst fe) :=
  ⟨peW (pe_lc (tt := tB X W0 tst) (te := tT X W0 fe) kit.calm kit.nd hi.pi (blkOk_by ok) (fun s H C cl fp => (bk.g s H C cl fp).pg) (fun s H C cl fp => ptsW (bk.i s H C cl fp).pt fun _ _ _ q => q) (fun s H C cl fp => peW (bk.e s H C cl fp).pe fun _ _ _ q => q) hs) fun σ H Q q => lc_read hix nd q⟩
/-- y = [..] on one line -/
theorem s_setLc {scope : Scope} {own : List (Str × Nat)} {kp : List Nat} {i : Nat} {y : Str} {py pos spos : Pos} (kit : Kit X W k) (hy : X.N[i]? = some y) (hyl : X.env.scope.names.lookup y = some .local)
    (hsw : swapsWith (.ListComp elt [⟨tg, iter, ifs, 0⟩] scope pos) (some (.Name y py)) spos.line X.env = pure true) (hi : IOk X W tg iter fi) (ok : blkC X.N X.env.scope scope own = true) (bk : BkOk X scope tg elt ifs t tst fe) (hk : i ∉ kp := by decide) (hix : ∀ i, i ∈ t.ix → i ∈ own.map (·.2) := by decide) (nd : (own.map (·.2)).Nodup := by decide)
    (hs : ∀ x, foldedSetIterable iter X.env x = pure x := by intro _; rfl) : SOk X W kp (.Assign [.Name y py] (.ListComp elt [⟨tg, iter, ifs, 0⟩] scope pos) spos) (fSet i (fLc (own.map (·.2)) fi t tst fe)) :=
  ⟨psW (ps_setLc (tt := tB X W0 tst) (te := tT X W0 fe) kit.calm kit.nd hy hyl hsw hi.pi (blkOk_by ok) (fun s H C cl fp => (bk.g s H C cl fp).pg) (fun s H C cl fp => ptsW (bk.i s H C cl fp).pt fun _ _ _ q => q) (fun s H C cl fp => peW (bk.e s H C cl fp).pe fun _ _ _ q => q) hs) fun B σ H q => by
    obtain ⟨env, P, G, S, st, h⟩ := q
    refine lc_read hix nd (tT_bindS (k := fun t env => .nx (env.set i t)) st h fun t env1 v G1 H1 S1 S2 g c => ?_)
    exact c (σ.set i (some v)) G1 H1 (U S1 S2) (g.put st) g.st (Kp.set hk)⟩
end
end L3
/-! L3, part M: repr, texts, lists that are changed. -/
namespace L3
open PySem PySem.Spec L2
/-! ### repr -/
def gRepr : List D → Option D
  | [d] => match d.py with
    | some p => if SeqAt.shaped p = true ∧ p.showable = true ∧ p.shown.length ≤ sizeLine then some (.str p.shown) else none
    | none => none
  | _ => none
def rRepr (K : Frg) : List V → Hp → VK → Prop := fun xs H Q => ∃ x p, xs = [x] ∧ Dp K H x p ∧ SeqAt.shaped p = true ∧ p.showable = true ∧ p.shown.length ≤ sizeLine ∧ Q (.str p.shown) H
section
variable {X : Cx} {W : WX} {k : Nat}
theorem call_repr (kit : Kit X W k) : CallR X (.builtin "repr") (rRepr X.K) := fun pins s σ H xs us Q I r h => by
  obtain ⟨x, p, rfl, dp, hs, hw, hz, q⟩ := h
  cases r with
  | cons ru rn =>
    cases rn
    rename_i u
    obtain ⟨as, rd⟩ := Dp.reads I p x u dp ru
    have fin : ∀ (h' : Heap) (tk : Tok) (tk' : Nat), (∀ b o, s.heap.get? b = some o → h'.get? b = some o) → EP X pins σ Q (.str p.shown tk) { s with heap := h', toks := tk' } := fun h' tk tk' hk => ⟨.str p.shown, H, I.kept hk, ⟨_, rfl⟩, q⟩
    cases x with
    | non =>
      cases ru
      cases dp
      refine PySem.P.repr_of_none (fin s.heap _ _ fun _ _ e => e)
    | bl b =>
      cases ru
      cases dp
      exact PySem.P.repr_of_bool (fin s.heap _ _ fun _ _ e => e)
    | int i =>
      obtain ⟨t, rfl⟩ := ru
      cases dp
      exact PySem.P.repr_of_int (of_decide_eq_true hw) (fin s.heap _ _ fun _ _ e => e)
    | str z =>
      obtain ⟨t, rfl⟩ := ru
      cases dp
      exact PySem.P.repr_of_str (fin s.heap _ _ fun _ _ e => e) hz
    | ref a =>
      cases ru
      have hd := SeqAt.depth_of_shaped hs
      have hu := kit.rm.un
      refine repr_of_reads' rd hw (PyData.noDict_hsm (PyData.hasDict_of_canLay p (SeqAt.canLay_of_shaped hs))) kit.gd (by omega) (fun _ _ e => e) (fun h' u tk hk => fin h' u tk hk) hz
    | _ => cases dp
theorem ls_repr : LSC X (rRepr X.K) gRepr := fun H vs ds d' Q hv h k => by
  unfold gRepr at h
  split at h
  · rename_i d
    obtain ⟨v, rfl, q⟩ := hv.one
    split at h
    · rename_i p ep
      split at h
      · rename_i c
        cases h
        exact ⟨v, p, rfl, q.dp ep, c.1, c.2.1, c.2.2, k _ (.str _)⟩
      · cases h
    · cases h
  · cases h
/-! ### texts -/
def txs : List D → Option (List Str)
  | [] => some []
  | .str x :: ds => (txs ds).map (x :: ·)
  | _ => none
theorem txs_vals {K : Frg} {mg : MG} {H : Hp} : ∀ {ds : List D} {vs : List V} {bs : List Str}, DVs K mg H vs ds → txs ds = some bs → vs = bs.map V.str
  | [], _, bs, .nil, e => by cases e; rfl
  | .str b :: ds, _, bs, .cons h r, e => by
    simp only [txs] at e
    cases q : txs ds with
    | none => rw [q] at e; cases e
    | some cs => rw [q] at e; cases e; cases h; rw [txs_vals r q]; rfl
  | .non :: ds, _, bs, _, e => by simp [txs] at e
  | .int _ :: ds, _, bs, _, e => by simp [txs] at e
  | .bl _ :: ds, _, bs, _, e => by simp [txs] at e
  | .tup _ :: ds, _, bs, _, e => by simp [txs] at e
  | .lst _ :: ds, _, bs, _, e => by simp [txs] at e
  | .scr _ :: ds, _, bs, _, e => by simp [txs] at e
  | .dic _ :: ds, _, bs, _, e => by simp [txs] at e
  | .ins _ _ :: ds, _, bs, _, e => by simp [txs] at e
/-- a method of a text with one argument -/
def fSm (g : Str → D → Option T) (fa fb : FT) : FT := fun env => (dfz fa env).bind fun d env => match d with
  | .str a => (dfz fb env).bind fun e env => opt (g a e) env
  | _ => .stuck
def LkS (X : Cx) (r : V → List V → Hp → VK → Prop) (g : Str → D → Option T) : Prop := ∀ (P : AS) (G H : Hp) (a : Str) (u : V) (e : D) (t : T) (Q : VK), Same G H → DV X.K X.mg G u e → g a e = some t → (∀ w G' H' S1, Res X P G H w t G' H' S1 → Q w H') → r (.str a) [u] H Q
theorem t_sm {o e : Expr} {name : Str} {apos pos : Pos} {id : String} {r : V → List V → Hp → VK → Prop} {g : Str → D → Option T} {fa fb : FT} (slot : Slot "str" name id) (ty : typeOf (.builtin id) = pure (.type "method_descriptor")) (rule : MtR X id r) (lk : LkS X r g) (ho : TOk X W o fa) (he : TOk X W e fb)
    (hs : starEach [e] X.env = [(false, eval e X.env)] := by rfl) (hbase : attributeBase o name X.env (eval o X.env) = eval o X.env := by rfl) (hline : (apos.endLine == pos.line) = true := by rfl) : TOk X W (.Call (.Attribute o name apos) [e] [] pos) (fSm g fa fb) :=
  ⟨peW (pe_m1 slot ty rule ho.pe he.pe hs hbase hline) fun σ H Q q => by
    obtain ⟨env, P, G, S, st, h⟩ := q
    refine tT_bindD (k := fun d env => match d with
      | .str a => (dfz fb env).bind fun e env => opt (g a e) env
      | _ => .stuck) st h fun d env1 v G1 H1 S1 g1 c => ?_
    split at c
    · rename_i a
      have ev := g1.dv.str_inv
      subst ev
      refine ⟨⟨a, rfl⟩, tT_bindD (k := fun e env => opt (g a e) env) g1.es c fun e env2 u G2 H2 S2 g2 c2 => ?_⟩
      obtain ⟨t, e', k⟩ := c2.opt g2.es
      exact lk P G2 H2 a u e t Q g2.es.ge g2.dv e' k
    · exact c.elim⟩
def gJoin (a : Str) : D → Option T
  | .lst ds => match txs ds with
    | some ys => if (ys.map (·.length)).sum + ys.length * a.length ≤ 16777216 then some (.dat (.str (Txt.join a ys))) else none
    | none => none
  | _ => none
abbrev rJoin (K : Frg) : V → List V → Hp → VK → Prop := fun x xs H Q => ∃ a p, ∃ ys : List Str, x = .str a ∧ xs = [.ref p] ∧ (SqL K H p (ys.map V.str) ∨ SqT K H p (ys.map V.str)) ∧ (ys.map (·.length)).sum + ys.length * a.length ≤ 16777216 ∧ Q (.str (Txt.join a ys)) H
theorem lk_join : LkS X (rJoin X.K) gJoin := fun P G H a u e t Q ge dv h k => by
  unfold gJoin at h
  split at h
  · rename_i ds
    split at h
    · rename_i ys es
      split at h
      · rename_i hz
        cases h
        cases dv with
        | lst ha r => exact ⟨a, _, ys, rfl, rfl, .inl (by rw [← txs_vals r es]; exact .of (ge _ _ ha)), hz, k _ G H N0 (.sc ge (.str _))⟩
      · cases h
    · cases h
  · cases h
theorem t_join {o e : Expr} {apos pos : Pos} {fa fb : FT} (ho : TOk X W o fa) (he : TOk X W e fb) (hs : starEach [e] X.env = [(false, eval e X.env)] := by rfl) (hbase : attributeBase o "join" X.env (eval o X.env) = eval o X.env := by rfl) (hline : (apos.endLine == pos.line) = true := by rfl) :
    TOk X W (.Call (.Attribute o "join" apos) [e] [] pos) (fSm gJoin fa fb) := t_sm F.slot_str_join F.type_str_join mt_join lk_join ho he hs hbase hline
/-- one sign in a text -/
def gInC : D → D → Option D
  | .str x, .str z => match x.cps.toList with
    | [c] => some (.bl (decide (c ∈ z.cps.toList)))
    | _ => none
  | _, _ => none
abbrev rInC : R2 := fun x y H Q => ∃ (c : Nat) (z : Str), x = .str ⟨#[c]⟩ ∧ y = .str z ∧ Q (.bl (decide (c ∈ z.cps.toList))) H
theorem ls_inC : LS2 X rInC gInC := fun H v u d e d' Q hv hu h k => by
  unfold gInC at h
  split at h
  · rename_i x z
    split at h
    · rename_i c ec
      cases h
      have hx : x = ⟨#[c]⟩ := by
        cases x with
        | mk cps =>
          have : cps = #[c] := by
            simpa using congrArg List.toArray ec
          rw [this]
      subst hx
      exact ⟨c, z, hv.str_inv, hu.str_inv, k _ (.bl _)⟩
    · cases h
  · cases h
/-- .. and data in a list of data -/
def gInL : D → D → Option D
  | d, .lst ds => match d.py, pys ds with
    | some p, some ps => if SeqAt.shaped p = true ∧ SeqAt.shaped (.list ps) = true then some (.bl (ps.any fun z => PyData.eqv z p)) else none
    | _, _ => none
  | _, _ => none
theorem ls_inL : LS2 X (rInD X.K) gInL := fun H v u d e d' Q hv hu h k => by
  unfold gInL at h
  split at h
  · rename_i ds
    split at h
    · rename_i p ps e1 e2
      split at h
      · rename_i c
        cases h
        exact ⟨p, ps, hv.dp e1, hu.dp (by simp only [D.py, e2]; rfl), c.1, c.2, k _ (.bl _)⟩
      · cases h
    · cases h
  · cases h
def gNotInL : D → D → Option D := fun d e => (gInL d e).bind gNot
def gNotInC : D → D → Option D := fun d e => (gInC d e).bind gNot
abbrev rNotInC : R2 := fun x y H Q => ∃ (c : Nat) (z : Str), x = .str ⟨#[c]⟩ ∧ y = .str z ∧ Q (.bl (!decide (c ∈ z.cps.toList))) H
theorem ls_notInL : LS2 X (rNotInD X.K) gNotInL := fun H v u d e d' Q hv hu h k => by
  obtain ⟨d1, h1, h2⟩ := bind_some h
  unfold gInL at h1
  split at h1
  · rename_i ds
    split at h1
    · rename_i p ps e1 e2
      split at h1
      · rename_i c
        cases h1
        cases h2
        exact ⟨p, ps, hv.dp e1, hu.dp (by simp only [D.py, e2]; rfl), c.1, c.2, k _ (.bl _)⟩
      · cases h1
    · cases h1
  · cases h1
end
/-! ### items of a list -/
theorem TVs.set {K : Frg} {mg : MG} {G H : Hp} {v : V} {t : T} {S1 : AS} (q : TV K mg G H v t S1) : ∀ {us : List V} {ts : List T} {Si : AS} (j : Nat), TVs K mg G H us ts Si → Dj Si S1 → TVs K mg G H (us.set j v) (ts.set j t) (U Si S1)
  | _, _, _, _, .nil, _ => .nil
  | _, _, Si, 0, .cons (S1 := A) (S2 := B) h r d1 d2, dj => .cons (S1 := S1) (S2 := B) q r (fun b z => ⟨.inr z, fun w => dj b (d2 b w) z⟩) fun b z => .inl (d2 b z)
  | _, _, Si, j + 1, .cons (S1 := A) (S2 := B) h r d1 d2, dj => .cons (S1 := A) (S2 := U B S1) h (TVs.set q j r fun b z w => dj b (d2 b z) w) (fun b z => ⟨.inl (d1 b z).1, fun w => w.elim (d1 b z).2 (dj b (d1 b z).1)⟩) fun b z => z.imp (d2 b) id
theorem TVs.take {K : Frg} {mg : MG} {G H : Hp} : ∀ (n : Nat) {us : List V} {ts : List T} {Si : AS}, TVs K mg G H us ts Si → TVs K mg G H (us.take n) (ts.take n) Si
  | 0, _, _, _, _ => .nil
  | _ + 1, _, _, _, .nil => .nil
  | n + 1, _, _, _, .cons h r d1 d2 => .cons h (TVs.take n r) d1 d2
end L3
/-! L3, part N: places that are changed. -/
namespace L3
open PySem PySem.Spec L2
inductive Pst where
  | f (n : Str) | i (n : Nat)
abbrev Pth := List Pst
/-- a tree of its own: it may be changed in its place -/
def T.own : T → Bool
  | .tup _ => true
  | .lst _ => true
  | .dic _ => true
  | .ins _ _ => true
  | _ => false
def fset (f : Str) (t : T) : List (Str × T) → List (Str × T)
  | [] => []
  | (g, u) :: r => if (f == g) = true then (g, t) :: r else (g, u) :: fset f t r
def T.pAt : Pth → T → Option T
  | [], t => some t
  | .f n :: p, .ins c fs => (fs.lookup n).bind (T.pAt p)
  | .i n :: p, .lst ts => (ts[n]?).bind (T.pAt p)
  | .i n :: p, .tup ts => (ts[n]?).bind (T.pAt p)
  | _, _ => none
def T.pPut (x : T) : Pth → T → T
  | [], _ => x
  | .f n :: p, .ins c fs => .ins c (match fs.lookup n with
    | some u => fset n (T.pPut x p u) fs
    | none => fs)
  | .i n :: p, .lst ts => .lst (match ts[n]? with
    | some u => ts.set n (T.pPut x p u)
    | none => ts)
  | .i n :: p, .tup ts => .tup (match ts[n]? with
    | some u => ts.set n (T.pPut x p u)
    | none => ts)
  | _, t => t
def Rch (H : Hp) : Pth → V → V → Prop
  | [], v, w => v = w
  | .f n :: p, v, w => ∃ a C dx vs u, v = .ref a ∧ H a = some (.ins C dx vs) ∧ vs.lookup n = some u ∧ Rch H p u w
  | .i n :: p, v, w => ∃ a vs u, v = .ref a ∧ (H a = some (.lst vs) ∨ H a = some (.tup vs)) ∧ vs[n]? = some u ∧ Rch H p u w
section
variable {K : Frg} {mg : MG}
def Hole (K : Frg) (mg : MG) (G H : Hp) (v : V) (t : T) (S : AS) (v' : V) (t' : T) (put : T → T) : Prop :=
  ∃ S' : AS, (∀ b, S' b → S b) ∧ TV K mg G H v' t' S' ∧ ∀ (G' H' : Hp) (t'' : T) (T' : AS), Same G G' → (∀ b o, S b → ¬ S' b → H b = some o → H' b = some o) → (∀ b, T' b → S b → S' b) →
    TV K mg G' H' v' t'' T' → TV K mg G' H' v (put t'') fun b => (S b ∧ ¬ S' b) ∨ T' b
def Holes (K : Frg) (mg : MG) (G H : Hp) (n : Nat) (vs : List V) (ts : List T) (S : AS) (v' : V) (t' : T) (put : T → T) : Prop :=
  ∃ S' : AS, (∀ b, S' b → S b) ∧ TV K mg G H v' t' S' ∧ ∀ (G' H' : Hp) (t'' : T) (T' : AS), Same G G' → (∀ b o, S b → ¬ S' b → H b = some o → H' b = some o) → (∀ b, T' b → S b → S' b) →
    TV K mg G' H' v' t'' T' → TVs K mg G' H' vs (ts.set n (put t'')) fun b => (S b ∧ ¬ S' b) ∨ T' b
def Holef (K : Frg) (mg : MG) (G H : Hp) (n : Str) (vs : List (Str × V)) (ts : List (Str × T)) (S : AS) (v' : V) (t' : T) (put : T → T) : Prop :=
  ∃ S' : AS, (∀ b, S' b → S b) ∧ TV K mg G H v' t' S' ∧ ∀ (G' H' : Hp) (t'' : T) (T' : AS), Same G G' → (∀ b o, S b → ¬ S' b → H b = some o → H' b = some o) → (∀ b, T' b → S b → S' b) →
    TV K mg G' H' v' t'' T' → TVf K mg G' H' vs (fset n (put t'') ts) fun b => (S b ∧ ¬ S' b) ∨ T' b
theorem TVs.hole {G H : Hp} {v' : V} {t' : T} {put : T → T} : ∀ {vs : List V} {ts : List T} {S : AS} {n : Nat} {v : V} {t : T}, TVs K mg G H vs ts S → vs[n]? = some v → ts[n]? = some t → (∀ S1, TV K mg G H v t S1 → Hole K mg G H v t S1 v' t' put) → Holes K mg G H n vs ts S v' t' put
  | _, _, _, _, _, _, .nil, e, _, _ => by simp at e
  | _, _, S, 0, _, _, .cons (S1 := A) (S2 := B) h r d1 d2, e, e2, k => by
    simp at e e2; subst e e2
    obtain ⟨S', a, b, c⟩ := k _ h
    refine ⟨S', fun x z => (d1 x (a x z)).1, b, fun G' H' t'' T' g kp tp tv => ?_⟩
    refine .cons (S1 := fun x => (A x ∧ ¬ S' x) ∨ T' x) (S2 := B) (c G' H' t'' T' g (fun x o z n q => kp x o (d1 x z).1 n q) (fun x z w => tp x z (d1 x w).1) tv) (r.move (S := B) g (fun x o z q => kp x o (d2 x z) (fun w => (d1 x (a x w)).2 z) q) fun _ z => z) (fun x z => ?_) fun x z => .inl ⟨d2 x z, fun w => (d1 x (a x w)).2 z⟩
    rcases z with ⟨z, n⟩ | z
    · exact ⟨.inl ⟨(d1 x z).1, n⟩, (d1 x z).2⟩
    · exact ⟨.inr z, fun w => (d1 x (a x (tp x z (d2 x w)))).2 w⟩
  | _, _, S, n + 1, _, _, .cons (S1 := A) (S2 := B) h r d1 d2, e, e2, k => by
    obtain ⟨S', a, b, c⟩ := TVs.hole (n := n) r (by simpa using e) (by simpa using e2) k
    refine ⟨S', fun x z => d2 x (a x z), b, fun G' H' t'' T' g kp tp tv => ?_⟩
    refine .cons (S1 := A) (S2 := fun x => (B x ∧ ¬ S' x) ∨ T' x) (h.move (S := A) g (fun x o z q => kp x o (d1 x z).1 (fun w => (d1 x z).2 (a x w)) q) fun _ z => z) (c G' H' t'' T' g (fun x o z n q => kp x o (d2 x z) n q) (fun x z w => tp x z (d2 x w)) tv) (fun x z => ?_) fun x z => ?_
    · refine ⟨.inl ⟨(d1 x z).1, fun w => (d1 x z).2 (a x w)⟩, fun w => ?_⟩
      rcases w with ⟨w, _⟩ | w
      · exact (d1 x z).2 w
      · exact (d1 x z).2 (a x (tp x w (d1 x z).1))
    · rcases z with ⟨z, n⟩ | z
      · exact .inl ⟨d2 x z, n⟩
      · exact .inr z
theorem TVf.hole {G H : Hp} {v' : V} {t' : T} {put : T → T} {f : Str} : ∀ {vs : List (Str × V)} {ts : List (Str × T)} {S : AS} {v : V} {t : T}, TVf K mg G H vs ts S → vs.lookup f = some v → ts.lookup f = some t → (∀ S1, TV K mg G H v t S1 → Hole K mg G H v t S1 v' t' put) → Holef K mg G H f vs ts S v' t' put
  | _, _, _, _, _, .nil, e, _, _ => by cases e
  | (g, v) :: vs, (_, t) :: ts, S, _, _, .cons (S1 := A) (S2 := B) h r d1 d2, e, e2, k => by
    unfold List.lookup at e e2
    cases z : f == g with
    | true =>
      rw [z] at e e2
      cases e
      cases e2
      obtain ⟨S', a, b, c⟩ := k _ h
      refine ⟨S', fun x z => (d1 x (a x z)).1, b, fun G' H' t'' T' gg kp tp tv => ?_⟩
      unfold fset
      rw [if_pos z]
      refine .cons (S1 := fun x => (A x ∧ ¬ S' x) ∨ T' x) (S2 := B) (c G' H' t'' T' gg (fun x o z n q => kp x o (d1 x z).1 n q) (fun x z w => tp x z (d1 x w).1) tv) (r.move (S := B) gg (fun x o z q => kp x o (d2 x z) (fun w => (d1 x (a x w)).2 z) q) fun _ z => z) (fun x z => ?_) fun x z => .inl ⟨d2 x z, fun w => (d1 x (a x w)).2 z⟩
      rcases z with ⟨z, n⟩ | z
      · exact ⟨.inl ⟨(d1 x z).1, n⟩, (d1 x z).2⟩
      · exact ⟨.inr z, fun w => (d1 x (a x (tp x z (d2 x w)))).2 w⟩
    | false =>
      rw [z] at e e2
      obtain ⟨S', a, b, c⟩ := TVf.hole r e e2 k
      refine ⟨S', fun x z => d2 x (a x z), b, fun G' H' t'' T' gg kp tp tv => ?_⟩
      unfold fset
      rw [if_neg (by rw [z]; decide)]
      refine .cons (S1 := A) (S2 := fun x => (B x ∧ ¬ S' x) ∨ T' x) (h.move (S := A) gg (fun x o z q => kp x o (d1 x z).1 (fun w => (d1 x z).2 (a x w)) q) fun _ z => z) (c G' H' t'' T' gg (fun x o z n q => kp x o (d2 x z) n q) (fun x z w => tp x z (d2 x w)) tv) (fun x z => ?_) fun x z => ?_
      · refine ⟨.inl ⟨(d1 x z).1, fun w => (d1 x z).2 (a x w)⟩, fun w => ?_⟩
        rcases w with ⟨w, _⟩ | w
        · exact (d1 x z).2 w
        · exact (d1 x z).2 (a x (tp x w (d1 x z).1))
      · rcases z with ⟨z, n⟩ | z
        · exact .inl ⟨d2 x z, n⟩
        · exact .inr z
theorem TV.hole {G H : Hp} {v' : V} {t' : T} : ∀ {p : Pth} {v : V} {t : T} {S : AS}, TV K mg G H v t S → t.pAt p = some t' → Rch H p v v' → Hole K mg G H v t S v' t' fun x => T.pPut x p t
  | [], v, t, S, tv, e, r => by
    cases e
    cases r
    exact ⟨S, fun _ z => z, tv, fun G' H' t'' T' _ _ _ tv' => tv'.weak fun _ z => .inr z⟩
  | .f n :: p, _, _, S, .ins (a := a) (C := C) (dx := dx) (S1 := A) m ha ho sa sd r d, e, rc => by
    obtain ⟨_, _, _, vs', u, q1, q2, q3, q4⟩ := rc
    cases q1
    rw [ha] at q2
    cases q2
    obtain ⟨tu, e1, e2⟩ := bind_some e
    obtain ⟨S', h1, h2, h3⟩ := TVf.hole r q3 e1 fun S1 tv => TV.hole tv e2 q4
    refine ⟨S', fun x z => (d x (h1 x z)).1, h2, fun G' H' t'' T' g kp tp tv => ?_⟩
    unfold T.pPut
    rw [e1]
    have na : ¬ S' a := fun w => (d a (h1 a w)).2.1 rfl
    have nd : ¬ S' dx := fun w => (d dx (h1 dx w)).2.2 rfl
    refine .ins (S1 := fun x => (A x ∧ ¬ S' x) ∨ T' x) m (kp a _ sa na ha) (kp dx _ sd nd ho) (.inl ⟨sa, na⟩) (.inl ⟨sd, nd⟩) (h3 G' H' t'' T' g (fun x o z n q => kp x o (d x z).1 n q) (fun x z w => tp x z (d x w).1) tv) fun x z => ?_
    rcases z with ⟨z, n⟩ | z
    · exact ⟨.inl ⟨(d x z).1, n⟩, (d x z).2⟩
    · exact ⟨.inr z, fun w => na (tp a (by rw [← w]; exact z) sa), fun w => nd (tp dx (by rw [← w]; exact z) sd)⟩
  | .i n :: p, _, _, S, .lst (a := a) (S1 := A) ha sa r d, e, rc => by
    obtain ⟨_, vs', u, q1, q2, q3, q4⟩ := rc
    cases q1
    rw [ha] at q2
    rcases q2 with q2 | q2
    · cases q2
      obtain ⟨tu, e1, e2⟩ := bind_some e
      obtain ⟨S', h1, h2, h3⟩ := TVs.hole r q3 e1 fun S1 tv => TV.hole tv e2 q4
      refine ⟨S', fun x z => (d x (h1 x z)).1, h2, fun G' H' t'' T' g kp tp tv => ?_⟩
      unfold T.pPut
      rw [e1]
      have na : ¬ S' a := fun w => (d a (h1 a w)).2 rfl
      refine .lst (S1 := fun x => (A x ∧ ¬ S' x) ∨ T' x) (kp a _ sa na ha) (.inl ⟨sa, na⟩) (h3 G' H' t'' T' g (fun x o z n q => kp x o (d x z).1 n q) (fun x z w => tp x z (d x w).1) tv) fun x z => ?_
      rcases z with ⟨z, n⟩ | z
      · exact ⟨.inl ⟨(d x z).1, n⟩, (d x z).2⟩
      · exact ⟨.inr z, fun w => na (tp a (by rw [← w]; exact z) sa)⟩
    · cases q2
  | .i n :: p, _, _, S, .tup (a := a) (S1 := A) ha sa r d, e, rc => by
    obtain ⟨_, vs', u, q1, q2, q3, q4⟩ := rc
    cases q1
    rw [ha] at q2
    rcases q2 with q2 | q2
    · cases q2
    · cases q2
      obtain ⟨tu, e1, e2⟩ := bind_some e
      obtain ⟨S', h1, h2, h3⟩ := TVs.hole r q3 e1 fun S1 tv => TV.hole tv e2 q4
      refine ⟨S', fun x z => (d x (h1 x z)).1, h2, fun G' H' t'' T' g kp tp tv => ?_⟩
      unfold T.pPut
      rw [e1]
      have na : ¬ S' a := fun w => (d a (h1 a w)).2 rfl
      refine .tup (S1 := fun x => (A x ∧ ¬ S' x) ∨ T' x) (kp a _ sa na ha) (.inl ⟨sa, na⟩) (h3 G' H' t'' T' g (fun x o z n q => kp x o (d x z).1 n q) (fun x z w => tp x z (d x w).1) tv) fun x z => ?_
      rcases z with ⟨z, n⟩ | z
      · exact ⟨.inl ⟨(d x z).1, n⟩, (d x z).2⟩
      · exact ⟨.inr z, fun w => na (tp a (by rw [← w]; exact z) sa)⟩
  | .f n :: p, _, _, S, .no, e, _ => by cases e
  | .f n :: p, _, _, S, .dat _, e, _ => by cases e
  | .f n :: p, _, _, S, .tup _ _ _ _, e, _ => by cases e
  | .f n :: p, _, _, S, .lst _ _ _ _, e, _ => by cases e
  | .f n :: p, _, _, S, .dic _ _ _ _, e, _ => by cases e
  | .i n :: p, _, _, S, .no, e, _ => by cases e
  | .i n :: p, _, _, S, .dat _, e, _ => by cases e
  | .i n :: p, _, _, S, .ins _ _ _ _ _ _ _, e, _ => by cases e
  | .i n :: p, _, _, S, .dic _ _ _ _, e, _ => by cases e
end
end L3
/-! L3, part O: methods that change a place, items stored. -/
namespace L3
open PySem PySem.Spec L2
abbrev FQ := Env → Option Pth
def T.ty : T → Option String
  | .lst _ => some "list"
  | .dic _ => some "dict"
  | _ => none
def plc (i : Nat) (q : FQ) (env : Env) : Option (T × Pth × T) := (env[i]?).bind fun t => (q env).bind fun p => (t.pAt p).bind fun t' => if t'.own = true then some (t, p, t') else none
/-- a place: a slot and a path -/
def tQ (X : Cx) (i : Nat) (q : FQ) : TE := fun σ H Q => ∃ env P G S, ES X.K X.mg P σ G H env S ∧ ∃ t p t', plc i q env = some (t, p, t') ∧ ∀ v0 v, σ[i]? = some (some v0) → Rch H p v0 v → Q v H
structure QOk (X : Cx) (e : Expr) (i : Nat) (q : FQ) : Prop where
  pe : PE X e (tQ X i q)
def qV : FQ := fun _ => some []
def qF (cs : List Str) (f : Str) (i : Nat) (q : FQ) : FQ := fun env => (plc i q env).bind fun x => match x.2.2 with
  | .ins c _ => if c ∈ cs then some (x.2.1 ++ [.f f]) else none
  | _ => none
def qI (pj : FP) (i : Nat) (q : FQ) : FQ := fun env => (plc i q env).bind fun x => ((pj env).bind iOf).bind fun k => match x.2.2 with
  | .lst ts => (ixN ts.length k).map fun n => x.2.1 ++ [.i n]
  | _ => none
theorem plc_inv {i : Nat} {q : FQ} {env : Env} {x : T × Pth × T} (h : plc i q env = some x) : env[i]? = some x.1 ∧ q env = some x.2.1 ∧ x.1.pAt x.2.1 = some x.2.2 ∧ x.2.2.own = true := by
  obtain ⟨t, e1, h⟩ := bind_some h
  obtain ⟨p, e2, h⟩ := bind_some h
  obtain ⟨t', e3, h⟩ := bind_some h
  split at h
  · cases h
    exact ⟨e1, e2, e3, by assumption⟩
  · cases h
theorem pAt_append : ∀ {p : Pth} {s : Pst} {t t' : T}, t.pAt (p ++ [s]) = some t' → ∃ u, t.pAt p = some u ∧ u.pAt [s] = some t'
  | [], s, t, t', h => ⟨t, rfl, h⟩
  | .f n :: p, s, .ins c fs, t', h => by
    obtain ⟨u, e, h⟩ := bind_some (show (fs.lookup n).bind (T.pAt (p ++ [s])) = some t' from h)
    obtain ⟨w, e1, e2⟩ := pAt_append h
    exact ⟨w, by show (fs.lookup n).bind (T.pAt p) = some w; rw [e]; exact e1, e2⟩
  | .i n :: p, s, .lst ts, t', h => by
    obtain ⟨u, e, h⟩ := bind_some (show (ts[n]?).bind (T.pAt (p ++ [s])) = some t' from h)
    obtain ⟨w, e1, e2⟩ := pAt_append h
    exact ⟨w, by show (ts[n]?).bind (T.pAt p) = some w; rw [e]; exact e1, e2⟩
  | .i n :: p, s, .tup ts, t', h => by
    obtain ⟨u, e, h⟩ := bind_some (show (ts[n]?).bind (T.pAt (p ++ [s])) = some t' from h)
    obtain ⟨w, e1, e2⟩ := pAt_append h
    exact ⟨w, by show (ts[n]?).bind (T.pAt p) = some w; rw [e]; exact e1, e2⟩
  | .f n :: p, s, .no, _, h => by cases h
  | .f n :: p, s, .vw _, _, h => by cases h
  | .f n :: p, s, .dat _, _, h => by cases h
  | .f n :: p, s, .tup _, _, h => by cases h
  | .f n :: p, s, .lst _, _, h => by cases h
  | .f n :: p, s, .dic _, _, h => by cases h
  | .i n :: p, s, .no, _, h => by cases h
  | .i n :: p, s, .vw _, _, h => by cases h
  | .i n :: p, s, .dat _, _, h => by cases h
  | .i n :: p, s, .ins _ _, _, h => by cases h
  | .i n :: p, s, .dic _, _, h => by cases h
theorem Rch.append {H : Hp} : ∀ {p r : Pth} {v w z : V}, Rch H p v w → Rch H r w z → Rch H (p ++ r) v z
  | [], _, _, _, _, h, k => by cases h; exact k
  | .f n :: p, _, _, _, _, ⟨a, C, dx, vs, u, e1, e2, e3, h⟩, k => ⟨a, C, dx, vs, u, e1, e2, e3, h.append k⟩
  | .i n :: p, _, _, _, _, ⟨a, vs, u, e1, e2, e3, h⟩, k => ⟨a, vs, u, e1, e2, e3, h.append k⟩
/-- the value there, and that the slot's tree is its own -/
theorem slot_own {K : Frg} {mg : MG} {P : AS} {G H : Hp} {v0 : V} {t t' : T} {p : Pth} {S : AS} (vv : VV K mg P G H v0 t S) (ep : t.pAt p = some t') (ow : t'.own = true) : TV K mg G H v0 t S := by
  cases vv with
  | own tv => exact tv
  | vw q d =>
    cases p with
    | nil => cases ep; cases ow
    | cons s p => cases s <;> cases ep
theorem own_no {t t' : T} {p : Pth} (ep : t.pAt p = some t') (ow : t'.own = true) : t ≠ .no := by
  rintro rfl
  cases p with
  | nil => cases ep; cases ow
  | cons s p => cases s <;> cases ep
section
variable {X : Cx} {W : WX} {i : Nat} {q : FQ} {x f : Str} {pos : Pos} {a b : Expr} {cs : List Str} {pj : FP}
theorem q_var (hN : X.N[i]? = some x) (hv : Vis X.env.scope x) (hd : (x == ("__debug__" : Str)) = false := by decide) (hcd : (x == ("__classdict__" : Str)) = false := by decide) : QOk X (.Name x pos) i qV := ⟨peW (pe_var hN hv hd hcd) fun σ H Q q => by
  obtain ⟨env, P, G, S, st, t, p, t', pl, h⟩ := q
  obtain ⟨e1, e2, e3, e4⟩ := plc_inv pl
  cases e2
  obtain ⟨v, e, tv⟩ := st.sl.get e1 (own_no e3 e4)
  exact ⟨v, e, h v v e rfl⟩⟩
theorem q_fld (hF : FldOk X cs f) (ha : QOk X a i q) (hb : attributeBase a f X.env (eval a X.env) = eval a X.env) : QOk X (.Attribute a f pos) i (qF cs f i q) := ⟨peW (pe_fld ha.pe hb) fun σ H Q q => by
  obtain ⟨env, P, G, S, st, t, p, t', pl, h⟩ := q
  obtain ⟨e1, e2, e3, e4⟩ := plc_inv pl
  obtain ⟨⟨t0, p0, u⟩, pl0, e2⟩ := bind_some e2
  obtain ⟨f1, f2, f3, f4⟩ := plc_inv pl0
  simp only at e1 e2 e3 e4 f1 f2 f3 f4
  rw [e1] at f1
  cases f1
  refine ⟨env, P, G, S, st, t, p0, u, pl0, fun v0 v ev rc => ?_⟩
  split at e2
  · rename_i c fs
    split at e2
    · rename_i hc
      cases e2
      obtain ⟨u', g1, g2⟩ := pAt_append e3
      rw [f3] at g1
      cases g1
      obtain ⟨v1, ev1, vv⟩ := st.sl.get e1 (own_no f3 f4)
      rw [ev] at ev1
      cases ev1
      obtain ⟨S', h1, h2, _⟩ := TV.hole (slot_own vv f3 f4) f3 rc
      cases h2 with
      | ins m ha ho sa sd r d =>
        obtain ⟨c1, c2⟩ := hF _ hc _ m
        obtain ⟨tu, g3, g4⟩ := bind_some (show (fs.lookup f).bind (T.pAt []) = some t' from g2)
        obtain ⟨w, g5, _⟩ := r.look g3
        exact ⟨_, _, _, _, w, rfl, ha, c1, c2, g5, h v0 w ev (rc.append ⟨_, _, _, _, w, rfl, ha, g5, rfl⟩)⟩
    · cases e2
  · cases e2⟩
theorem q_ix (ha : QOk X a i q) (hb : POk X b pj) (hs : PlainIx b) : QOk X (.Subscript a b pos) i (qI pj i q) := ⟨peW (pe_ix ix_seq ha.pe hb.pe hs) fun σ H Q q => by
  obtain ⟨env, P, G, S, st, t, p, t', pl, h⟩ := q
  obtain ⟨e1, e2, e3, e4⟩ := plc_inv pl
  obtain ⟨⟨t0, p0, u⟩, pl0, e2⟩ := bind_some e2
  have e5 : ((pj env).bind iOf).bind (fun k => match u with
    | .lst ts => (ixN ts.length k).map fun n => p0 ++ [.i n]
    | _ => none) = some p := e2
  clear e2
  obtain ⟨k, ek, e6⟩ := bind_some e5
  clear e5
  obtain ⟨tk, ek1, ek2⟩ := bind_some ek
  obtain ⟨f1, f2, f3, f4⟩ := plc_inv pl0
  simp only at e1 e2 e3 e4 f1 f2 f3 f4
  rw [e1] at f1
  cases f1
  refine ⟨env, P, G, S, st, t, p0, u, pl0, fun v0 v ev rc => ⟨env, P, G, S, st, tk, ek1, fun vk tvk => ?_⟩⟩
  rw [iOf_inv ek2] at tvk
  cases u with
  | lst ts =>
    have e7 : (ixN ts.length k).map (fun n => p0 ++ [Pst.i n]) = some p := e6
    clear e6
    cases en : ixN ts.length k with
    | none => rw [en] at e7; cases e7
    | some n =>
      rw [en] at e7
      cases e7
      obtain ⟨u', g1, g2⟩ := pAt_append e3
      rw [f3] at g1
      cases g1
      obtain ⟨v1, ev1, vv⟩ := st.sl.get e1 (own_no f3 f4)
      rw [ev] at ev1
      cases ev1
      obtain ⟨S', h1, h2, _⟩ := TV.hole (slot_own vv f3 f4) f3 rc
      cases h2 with
      | lst ha sa r d =>
        obtain ⟨tu, g3, g4⟩ := bind_some (show (ts[n]?).bind (T.pAt []) = some t' from g2)
        obtain ⟨w, g5, _⟩ := r.get g3
        refine .inl ⟨_, _, k, w, rfl, tvk.int_inv, .of ha, ?_, h v0 w ev (rc.append ⟨_, _, w, rfl, .inl ha, g5, rfl⟩)⟩
        unfold atI
        rw [r.length, en]
        exact g5
  | _ => cases e6⟩
end
/-! ### the slot's place is changed -/
section
variable {K : Frg} {mg : MG} {P : AS} {σ : L2.St} {G H G0 H0 : Hp} {S0 S1 Su Sa : AS} {env : Env} {v0 v : V} {t t' : T} {p : Pth} {i : Nat} {us : List V} {ts : List T}
theorem mut_fin (sp : Stp G0 H0 S0 G H (U (U S1 Su) Sa)) (sl : SL K mg P G H σ env Sa) (e0 : σ[i]? = some (some v0)) (tv : TV K mg G H v0 t S1) (ep : t.pAt p = some t') (rc : Rch H p v0 v)
    (ow : Own G H (U (U S1 Su) Sa)) (d1 : Dj S1 Su) (d2 : Dj S1 Sa) (d3 : Dj Su Sa) (ge : Same G H) (pv : ∀ b, P b → ¬ (U (U S1 Su) Sa) b ∧ ∃ o, H b = some o) :
    ∃ S' : AS, (∀ b, S' b → S1 b) ∧ TV K mg G H v t' S' ∧ ∀ (w : V) (H' : Hp) (t'' tr : T) (T' Sr : AS), (∀ b o, ¬ S' b → H b = some o → H' b = some o) → (∀ b o, H b = some o → ∃ o', H' b = some o') → TV K mg G H' v t'' T' → TV K mg G H' w tr Sr →
      (∀ b, T' b → U S' Su b) → (∀ b, Sr b → U S' Su b ∧ ¬ T' b) → Got K mg P σ G0 H0 S0 w tr (env.set i (T.pPut t'' p t)) G H' Sr (U (fun b => (S1 b ∧ ¬ S' b) ∨ T' b) Sa) := by
  obtain ⟨S', h1, h2, h3⟩ := TV.hole tv ep rc
  refine ⟨S', h1, h2, fun w H' t'' tr T' Sr kp hs tv' tr' hT hR => ?_⟩
  have st1 : ∀ b, U S' Su b → U (U S1 Su) Sa b := fun b z => z.elim (fun z => .inl (.inl (h1 b z))) fun z => .inl (.inr z)
  have stF : ∀ b, U (fun b => (S1 b ∧ ¬ S' b) ∨ T' b) Sa b → U (U S1 Su) Sa b := fun b z => by
    rcases z with (z | z) | z
    · exact .inl (.inl z.1)
    · exact st1 b (hT b z)
    · exact .inr z
  have nSa : ∀ b, Sa b → ¬ S' b := fun b z w => d2 b (h1 b w) z
  have nP : ∀ b, P b → ¬ S' b := fun b z w => (pv b z).1 (.inl (.inl (h1 b w)))
  have own' : ∀ b, U (U S1 Su) Sa b → G b = none ∧ ∃ o, H' b = some o := fun b z => by
    obtain ⟨g, o, e⟩ := ow b z
    exact ⟨g, hs b o e⟩
  have new : TV K mg G H' v0 (T.pPut t'' p t) fun b => (S1 b ∧ ¬ S' b) ∨ T' b := h3 G H' t'' T' (Same.refl _) (fun b o _ n e => kp b o n e) (fun b z w => (hT b z).elim id fun q => (d1 b w q).elim) tv'
  refine ⟨tr', ⟨?_, fun b o e => ?_, fun b z => own' b (stF b z), fun b z => ⟨fun w => (pv b z).1 (stF b w), ?_⟩⟩, fun b z => own' b (st1 b (hR b z).1), fun b z w => ?_, ⟨sp.gg, fun b o e n => ?_, fun b z => ?_, sp.new⟩⟩
  · have q := (SL.move (Same.refl _) (S := Sa) (fun b o z e => kp b o (nSa b z) e) (fun b o z e => kp b o (nP b z) e) (fun _ z => z) sl).put (i := i) (s := some v0) (t := T.pPut t'' p t) (S' := fun b => (S1 b ∧ ¬ S' b) ∨ T' b) (.inr ⟨v0, rfl, .own new⟩) fun b z w => by
      rcases z with z | z
      · exact d2 b z.1 w
      · exact (hT b z).elim (fun q => nSa b w q) fun q => d3 b q w
    rw [set_same e0] at q
    exact q
  · refine kp b o (fun z => ?_) (ge b o e)
    rw [(ow b (.inl (.inl (h1 b z)))).1] at e
    cases e
  · obtain ⟨_, o, e⟩ := pv b z
    exact hs b o e
  · obtain ⟨q, n⟩ := hR b z
    rcases w with (w | w) | w
    · exact q.elim w.2 (d1 b w.1)
    · exact n w
    · exact q.elim (nSa b w) fun q => d3 b q w
  · refine kp b o (fun z => ?_) (sp.keep b o e n)
    rcases sp.own b (.inl (.inl (h1 b z))) with q | q
    · exact n q
    · rw [e] at q; cases q
  · exact sp.own b (z.elim (fun z => st1 b (hR b z).1) (stF b))
theorem Rch.move {H1 : Hp} : ∀ {p : Pth} {v0 v : V} {t t' : T} {S : AS}, TV K mg G H v0 t S → t.pAt p = some t' → Rch H p v0 v → (∀ b o, S b → H b = some o → H1 b = some o) → Rch H1 p v0 v
  | [], _, _, _, _, _, _, _, h, _ => h
  | .f n :: p, _, _, _, _, _, .ins m ha ho sa sd r d, e, ⟨a, C, dx, vs, u, e1, e2, e3, h⟩, k => by
    cases e1
    rw [ha] at e2
    cases e2
    obtain ⟨tu, g1, g2⟩ := bind_some e
    obtain ⟨w, g3, tw⟩ := r.look g1
    rw [e3] at g3
    cases g3
    exact ⟨_, _, _, _, u, rfl, k _ _ sa ha, e3, Rch.move tw g2 h fun b o z q => k b o (d b z).1 q⟩
  | .i n :: p, _, _, _, _, _, .lst ha sa r d, e, ⟨a, vs, u, e1, e2, e3, h⟩, k => by
    cases e1
    rw [ha] at e2
    rcases e2 with e2 | e2
    · cases e2
      obtain ⟨tu, g1, g2⟩ := bind_some e
      obtain ⟨w, g3, tw⟩ := r.get g1
      rw [e3] at g3
      cases g3
      exact ⟨_, _, u, rfl, .inl (k _ _ sa ha), e3, Rch.move tw g2 h fun b o z q => k b o (d b z).1 q⟩
    · cases e2
  | .i n :: p, _, _, _, _, _, .tup ha sa r d, e, ⟨a, vs, u, e1, e2, e3, h⟩, k => by
    cases e1
    rw [ha] at e2
    rcases e2 with e2 | e2
    · cases e2
    · cases e2
      obtain ⟨tu, g1, g2⟩ := bind_some e
      obtain ⟨w, g3, tw⟩ := r.get g1
      rw [e3] at g3
      cases g3
      exact ⟨_, _, u, rfl, .inr (k _ _ sa ha), e3, Rch.move tw g2 h fun b o z q => k b o (d b z).1 q⟩
  | .f n :: p, _, _, _, _, _, .no, e, _, _ => by cases e
  | .f n :: p, _, _, _, _, _, .dat _, e, _, _ => by cases e
  | .f n :: p, _, _, _, _, _, .tup _ _ _ _, e, _, _ => by cases e
  | .f n :: p, _, _, _, _, _, .lst _ _ _ _, e, _, _ => by cases e
  | .f n :: p, _, _, _, _, _, .dic _ _ _ _, e, _, _ => by cases e
  | .i n :: p, _, _, _, _, _, .no, e, _, _ => by cases e
  | .i n :: p, _, _, _, _, _, .dat _, e, _, _ => by cases e
  | .i n :: p, _, _, _, _, _, .ins _ _ _ _ _ _ _, e, _, _ => by cases e
  | .i n :: p, _, _, _, _, _, .dic _ _ _ _, e, _, _ => by cases e
/-- views of the slot go, the other views are as they were -/
def mixE : Env → Env → Env
  | a :: as, b :: bs => (match b with
    | .vw _ => (match a with
      | .vw t => .vw t
      | _ => .no)
    | b => b) :: mixE as bs
  | _, _ => []
theorem SL.mix {P' : AS} {G1 H1 : Hp} (gg : Same G G1) (kp : ∀ b o, P b → H b = some o → H1 b = some o) : ∀ {σ : L2.St} {env env1 : Env} {S S1 : AS}, SL K mg P G H σ env S → SL K mg P' G1 H1 σ env1 S1 → SL K mg P G1 H1 σ (mixE env env1) S1
  | _, _, _, _, _, .nil, .nil => .nil
  | s :: σ, a :: as, b :: bs, _, _, .cons (S1 := A) h r d1 d2, .cons (S1 := B) (S2 := C) h' r' d1' d2' => by
    refine .cons (S1 := B) (S2 := C) ?_ (SL.mix gg kp r r') d1' d2'
    cases b with
    | vw tb =>
      cases a with
      | vw ta =>
        rcases h with h | ⟨v, e, hv⟩
        · cases h
        · refine .inr ⟨v, e, ?_⟩
          cases hv with
          | own ho => cases ho
          | vw ho d => exact .vw (ho.move gg (S := P) kp d) d
      | _ => exact .inl rfl
    | _ =>
      rcases h' with h' | ⟨v, e, h'⟩
      · exact .inl h'
      · refine .inr ⟨v, e, ?_⟩
        cases h' with
        | own h' => exact .own h'
theorem SL.wP {P' : AS} (hp : ∀ b, P b → P' b) : ∀ {σ : L2.St} {env : Env} {S : AS}, SL K mg P G H σ env S → SL K mg P' G H σ env S
  | _, _, _, .nil => .nil
  | _, _, _, .cons h r d1 d2 => .cons (h.imp id fun ⟨v, e, hv⟩ => ⟨v, e, by
    cases hv with
    | own ho => exact .own ho
    | vw ho d => exact .vw ho fun b z => hp b (d b z)⟩) (SL.wP hp r) d1 d2
end
end L3
/-! L3, part P: methods of lists, items stored. -/
namespace L3
open PySem PySem.Spec L2
def fMt (ty : String) (i : Nat) (q : FQ) (fa : FA) (g : T → List T → Option (T × T)) : FT := fun env => match plc i q env with
  | some (t, p, t') => if t'.ty = some ty then (match fa (env.set i (.vw t)) with
    | .ok as e1 => (match (tms as).bind (g t') with
      | some (t'', tr) => .ok tr ((mixE (env.set i .no) e1).set i (T.pPut t'' p t))
      | none => .stuck)
    | .exc x e1 => .exc x ((mixE (env.set i .no) e1).set i t)
    | .stuck => .stuck) else .stuck
  | none => .stuck
def LkM (X : Cx) (r : V → List V → Hp → VK → Prop) (g : T → List T → Option (T × T)) : Prop :=
  ∀ (G H : Hp) (v : V) (t' : T) (S' : AS) (us : List V) (tus : List T) (Su : AS) (t'' tr : T) (Q : VK), Same G H → TV X.K X.mg G H v t' S' → TVs X.K X.mg G H us tus Su → Dj S' Su → (∀ b, U S' Su b → G b = none ∧ ∃ o, H b = some o) → g t' tus = some (t'', tr) →
    (∀ (w : V) (H' : Hp) (T' Sr : AS), (∀ b o, ¬ S' b → H b = some o → H' b = some o) → (∀ b o, H b = some o → ∃ o', H' b = some o') → TV X.K X.mg G H' v t'' T' → TV X.K X.mg G H' w tr Sr → (∀ b, T' b → U S' Su b) → (∀ b, Sr b → U S' Su b ∧ ¬ T' b) → Q w H') → r v us H Q
section
variable {K : Frg} {mg : MG} {P : AS} {σ : L2.St} {G H G1 H1 : Hp} {S S1 S2 Su Sa : AS} {env env1 : Env} {v0 v : V} {t t' : T} {p : Pth} {i : Nat} {q : FQ}
/-- the slot is only shown -/
theorem shown (st : ES K mg P σ G H env S) (sl : SL K mg P G H σ (env.set i .no) S2) (tv : TV K mg G H v0 t S1) (e0 : σ[i]? = some (some v0)) (dj : Dj S1 S2) (l1 : ∀ b, S1 b → S b) (l2 : ∀ b, S2 b → S b) : ES K mg (U P S1) σ G H (env.set i (.vw t)) S2 := by
  have q := (SL.wP (P' := U P S1) (fun b z => .inl z) sl).put (i := i) (s := some v0) (t := .vw t) (S' := N0) (.inr ⟨v0, rfl, .vw tv fun b z => .inr z⟩) fun b z => z.elim
  rw [set_same e0, List.set_set] at q
  refine ⟨q.weak fun b z => z.elim (fun z => z.elim) id, st.ge, fun b z => st.ow b (l2 b z), fun b z => ?_⟩
  rcases z with z | z
  · exact ⟨fun w => (st.pv b z).1 (l2 b w), (st.pv b z).2⟩
  · exact ⟨fun w => dj b z w, (st.ow b (l1 b z)).2⟩
/-- what is there after a part was evaluated while the slot was shown -/
theorem back (st : ES K mg P σ G H env S) (sl : SL K mg P G H σ (env.set i .no) S2) (dj : Dj S1 S2) (l1 : ∀ b, S1 b → S b) (l2 : ∀ b, S2 b → S b) (a : Stp G H S2 G1 H1 (U Su Sa)) (es : ES K mg (U P S1) σ G1 H1 env1 Sa) (ow : Own G1 H1 Su) (dja : Dj Su Sa) :
    SL K mg P G1 H1 σ (mixE (env.set i .no) env1) Sa ∧ Own G1 H1 (U (U S1 Su) Sa) ∧ Dj S1 (U Su Sa) ∧ (∀ b, P b → ¬ (U (U S1 Su) Sa) b ∧ ∃ o, H1 b = some o) ∧ (∀ b o, S1 b → H b = some o → H1 b = some o) ∧ Stp G H S G1 H1 (U (U S1 Su) Sa) := by
  have o1 : Own G H S1 := fun b z => st.ow b (l1 b z)
  have d1 : Dj S1 (U Su Sa) := Dj.stp a o1 dj
  have nP : ∀ b, P b → ¬ S2 b := fun b z w => (st.pv b z).1 (l2 b w)
  have kP : ∀ b o, P b → H b = some o → H1 b = some o := fun b o z e => a.keep b o e (nP b z)
  refine ⟨SL.mix a.gg kP sl es.sl, fun b z => ?_, d1, fun b z => ⟨fun w => ?_, ?_⟩, fun b o z e => a.keep b o e (dj b z), ⟨a.gg, fun b o e n => a.keep b o e fun z => n (l2 b z), fun b z => ?_, fun b o e => (a.new b o e).imp id fun z => z.imp (l2 b) id⟩⟩
  · rcases z with (z | z) | z
    · exact (Own.stp a o1 dj) b z
    · exact ow b z
    · exact es.ow b z
  · obtain ⟨n, o, e⟩ := st.pv b z
    have hn : ∀ x, S2 x ∨ H x = none → x = b → False := fun x q e' => by
      rw [e'] at q
      exact q.elim (nP b z) fun q => by rw [e] at q; cases q
    rcases w with (w | w) | w
    · exact n (l1 b w)
    · exact hn b (a.own b (.inl w)) rfl
    · exact hn b (a.own b (.inr w)) rfl
  · obtain ⟨n, o, e⟩ := st.pv b z
    exact ⟨o, kP b o z e⟩
  · rcases z with (z | z) | z
    · exact .inl (l1 b z)
    · exact (a.own b (.inl z)).imp (l2 b) id
    · exact (a.own b (.inr z)).imp (l2 b) id
end
section
variable {X : Cx} {W : WX} {i : Nat} {q : FQ} {fa : FA} {g : T → List T → Option (T × T)} {ty : String} {o e : Expr} {es : List Expr} {r : V → List V → Hp → VK → Prop} {name : Str} {id : String} {apos cpos : Pos}
theorem tyV_of {G H : Hp} {v : V} {t : T} {S : AS} (tv : TV X.K X.mg G H v t S) (h : t.ty = some ty) : tyV X.K ty v H := by
  cases tv with
  | lst ha _ _ _ => cases h; exact .inl ⟨rfl, _, .of ha⟩
  | dic ha _ _ _ => cases h; exact .inr (.inr (.inl ⟨rfl, .inl ⟨_, ha⟩⟩))
  | _ => cases h
theorem mt_run {σ : L2.St} {H : Hp} {Q : VK} (lk : LkM X r g) (h : tT X W (fMt ty i q fa g) σ H Q) : tQ X i q σ H fun x H1 => tyV X.K ty x H1 ∧ tAA X W fa σ H1 fun xs H2 => r x xs H2 Q := by
  obtain ⟨env, P, G, S, st, h⟩ := h
  unfold fMt at h
  split at h
  · rename_i t p t' pl
    split at h
    · rename_i hty
      refine ⟨env, P, G, S, st, t, p, t', pl, fun v0 v ev rc => ?_⟩
      obtain ⟨e1, e2, e3, e4⟩ := plc_inv pl
      simp only at e1 e2 e3 e4
      obtain ⟨v1, S1, S2, ev1, vv, sl, dj, l1, l2⟩ := st.sl.take e1 (own_no e3 e4)
      rw [ev] at ev1
      cases ev1
      have tv := slot_own vv e3 e4
      obtain ⟨S', h1, h2, _⟩ := TV.hole tv e3 rc
      refine ⟨tyV_of h2 hty, env.set i (.vw t), U P S1, G, S2, shown st sl tv ev dj l1 l2, ?_⟩
      cases ea : fa (env.set i (.vw t)) with
      | stuck => rw [ea] at h; exact h
      | exc x e1 =>
        rw [ea] at h
        intro cls dx G' H' Sa vx es' a
        obtain ⟨b1, b2, b3, b4, b5, b6⟩ := back (Su := N0) st sl dj l1 l2 (a.less fun b z => z.elim (fun z => z.elim) fun z => z) es' (fun _ z => z.elim) (fun _ z => z.elim)
        have tv1 : TV X.K X.mg G' H' v0 t S1 := tv.move (S := S1) a.gg b5 fun _ z => z
        have sl1 := b1.put (i := i) (s := some v0) (t := t) (S' := S1) (.inr ⟨v0, rfl, .own tv1⟩) fun b z w => b3 b z (.inr w)
        rw [set_same ev] at sl1
        exact h cls dx G' H' (U S1 Sa) vx ⟨sl1, es'.ge, fun b z => b2 b (z.elim (fun z => .inl (.inl z)) .inr), fun b z => ⟨fun w => (b4 b z).1 (w.elim (fun z => .inl (.inl z)) .inr), (b4 b z).2⟩⟩ (b6.less fun b z => z.elim (fun z => .inl (.inl z)) .inr)
      | ok as e1 =>
        rw [ea] at h
        intro vs G' H' Su Sa a
        obtain ⟨b1, b2, b3, b4, b5, b6⟩ := back st sl dj l1 l2 a.st a.es a.ow a.dj
        have tv1 : TV X.K X.mg G' H' v0 t S1 := tv.move (S := S1) a.st.gg b5 fun _ z => z
        simp only at h
        split at h
        · rename_i x t'' tr ex
          obtain ⟨tus, et, eg⟩ := bind_some ex
          obtain ⟨S3, c1, c2, c3⟩ := mut_fin b6 b1 ev tv1 e3 (Rch.move tv e3 rc b5) b2 (fun b z w => b3 b z (.inl w)) (fun b z w => b3 b z (.inr w)) a.dj a.es.ge b4
          refine lk G' H' v t' S3 vs tus Su t'' tr Q a.es.ge c2 (a.av.tvs et) (fun b z w => b3 b (c1 b z) (.inl w)) (fun b z => b2 b (.inl (z.imp (c1 b) fun z => z))) eg fun w H2 T' Sr k1 k2 k3 k4 k5 k6 => ?_
          exact h w G' H2 Sr _ (c3 w H2 t'' tr T' Sr k1 k2 k3 k4 k5 k6)
        · exact h.elim
    · exact h.elim
  · exact h.elim
theorem t_meth (pa : PlainAttrs ty) (slot : Slot ty name id) (hty : typeOf (.builtin id) = pure (.type "method_descriptor")) (hm : MtR X id r) (lk : LkM X r g) (ho : QOk X o i q) (ha : AAk X W (e :: es) fa)
    (hbase : attributeBase o name X.env (eval o X.env) = eval o X.env := by rfl)
    (hfew : ((backTo cpos (starEach (e :: es) X.env)).all (fun x => !x.1) && (backToKw cpos (keywordEach [] X.env)).all (fun x => x.1.isSome)
      && decide ((e :: es).length + ([] : List Keyword).length + (if ([] : List Keyword).isEmpty then 0 else 1) < 30)) = true := by rfl)
    (hline : (apos.endLine == cpos.line) = true := by rfl) (hs : starEach (e :: es) X.env = (false, eval e X.env) :: starEach es X.env := by rfl) (hplain : (backTo cpos (starEach es X.env)).any (·.1) = false := by rfl) :
    TOk X W (.Call (.Attribute o name apos) (e :: es) [] cpos) (fMt ty i q fa g) := ⟨peW (pe_bm pa slot hty hm ho.pe ha.pa hbase hfew hline hs hplain) fun σ H Q h => mt_run lk h⟩
theorem t_meth0 (pa : PlainAttrs ty) (slot : Slot ty name id) (hty : typeOf (.builtin id) = pure (.type "method_descriptor")) (hm : MtR X id r) (lk : LkM X r g) (ho : QOk X o i q)
    (hbase : attributeBase o name X.env (eval o X.env) = eval o X.env := by rfl) (hline : (apos.endLine == cpos.line) = true := by rfl) :
    TOk X W (.Call (.Attribute o name apos) [] [] cpos) (fMt ty i q fAnil g) := ⟨peW (pe_bm0 pa slot hty hm ho.pe hbase hline) fun σ H Q h => by
  obtain ⟨env, P, G, S, st, t, p, t', pl, h⟩ := mt_run lk h
  refine ⟨env, P, G, S, st, t, p, t', pl, fun v0 v ev rc => ?_⟩
  obtain ⟨h1, env', P', G', S', st', h2⟩ := h v0 v ev rc
  exact ⟨h1, h2 [] G' H N0 S' ⟨.nil, st', fun _ z => z.elim, fun _ z => z.elim, (Stp.refl _ _ _).less fun _ z => z.elim (fun z => z.elim) fun z => z⟩⟩⟩
end
/-! ### the methods -/
def gAppend : T → List T → Option (T × T)
  | .lst ts, [t] => if ts.length < sizeLine then some (.lst (ts ++ [t]), .dat .non) else none
  | _, _ => none
def gClear : T → List T → Option (T × T)
  | .lst _, [] => some (.lst [], .dat .non)
  | _, _ => none
def gReverse : T → List T → Option (T × T)
  | .lst ts, [] => some (.lst ts.reverse, .dat .non)
  | _, _ => none
def gPop : T → List T → Option (T × T)
  | .lst ts, [] => (ts[ts.length - 1]?).map fun t => (.lst ts.dropLast, t)
  | _, _ => none
def gPopAt : T → List T → Option (T × T)
  | .lst ts, [.dat (.int k)] => if -(2 ^ 63) ≤ k ∧ k < 2 ^ 63 then (seqIndex? k ts.length).bind fun j => (ts[j]?).map fun t => (.lst (ts.eraseIdx j), t) else none
  | _, _ => none
def gInsert : T → List T → Option (T × T)
  | .lst ts, [.dat (.int k), t] => if ts.length < sizeLine ∧ 0 ≤ k ∧ k < 2 ^ 63 then some (.lst (ts.take k.toNat ++ [t] ++ ts.drop k.toNat), .dat .non) else none
  | _, _ => none
def gExtend : T → List T → Option (T × T)
  | .lst ts, [.lst us] => if ts.length + us.length ≤ sizeLine then some (.lst (ts ++ us), .dat .non) else none
  | .lst ts, [.dat (.lst us)] => if ts.length + us.length ≤ sizeLine then some (.lst (ts ++ us.map .dat), .dat .non) else none
  | _, _ => none
def gSetL : T → List T → Option (T × T)
  | .lst ts, [.dat (.int k), t] => (ixN ts.length k).map fun n => (.lst (ts.set n t), .dat .non)
  | _, _ => none
section
variable {K : Frg} {mg : MG} {G H : Hp} {v : V} {t : T} {S : AS}
theorem TV.lst_inv {ts : List T} (h : TV K mg G H v (.lst ts) S) : ∃ a vs S1, v = .ref a ∧ H a = some (.lst vs) ∧ S a ∧ TVs K mg G H vs ts S1 ∧ ∀ b, S1 b → S b ∧ b ≠ a := by
  cases h with
  | lst a b c d => exact ⟨_, _, _, rfl, a, b, c, d⟩
theorem TVs.one {vs : List V} (h : TVs K mg G H vs [t] S) : ∃ v S1, vs = [v] ∧ TV K mg G H v t S1 ∧ ∀ b, S1 b → S b := by
  cases h with
  | cons h r d1 d2 => cases r; exact ⟨_, _, rfl, h, fun b z => (d1 b z).1⟩
theorem TVs.two {vs : List V} {u : T} (h : TVs K mg G H vs [t, u] S) : ∃ v w S1 S2, vs = [v, w] ∧ TV K mg G H v t S1 ∧ TV K mg G H w u S2 ∧ (∀ b, S1 b → S b) ∧ (∀ b, S2 b → S b) ∧ Dj S1 S2 := by
  cases h with
  | cons h r d1 d2 =>
    cases r with
    | cons h' r' d1' d2' =>
      cases r'
      exact ⟨_, _, _, _, rfl, h, h', fun b z => (d1 b z).1, fun b z => d2 b (d1' b z).1, fun b z w => (d1 b z).2 (d1' b w).1⟩
theorem TVs.nilv {vs : List V} (h : TVs K mg G H vs [] S) : vs = [] := by cases h; rfl
theorem TVs.rev : ∀ {vs : List V} {ts : List T} {S : AS}, TVs K mg G H vs ts S → TVs K mg G H vs.reverse ts.reverse S
  | _, _, _, .nil => .nil
  | _, _, _, .cons (S1 := A) (S2 := B) h r d1 d2 => by
    rw [List.reverse_cons, List.reverse_cons]
    exact (TVs.snoc (TVs.rev r) h fun b z w => (d1 b w).2 z).weak fun b z => z.elim (d2 b) fun z => (d1 b z).1
/-- one item apart from the others -/
theorem TVs.pick : ∀ {vs : List V} {ts : List T} {S : AS} {n : Nat} {t : T}, TVs K mg G H vs ts S → ts[n]? = some t → ∃ v S1 S2, vs[n]? = some v ∧ TV K mg G H v t S1 ∧ TVs K mg G H (vs.eraseIdx n) (ts.eraseIdx n) S2 ∧ (∀ b, S1 b → S b ∧ ¬ S2 b) ∧ ∀ b, S2 b → S b
  | _, _, _, _, _, .nil, e => by simp at e
  | _, _, _, 0, _, .cons h r d1 d2, e => by simp at e; subst e; exact ⟨_, _, _, rfl, h, r, d1, d2⟩
  | _, _, _, n + 1, _, .cons (S1 := A) (S2 := B) h r d1 d2, e => by
    obtain ⟨v, S1, S2, q1, q2, q3, q4, q5⟩ := TVs.pick (n := n) r (by simpa using e)
    refine ⟨v, S1, U A S2, by simpa using q1, q2, .cons (S1 := A) (S2 := S2) h q3 (fun b z => ⟨.inl z, fun w => (d1 b z).2 (q5 b w)⟩) fun b z => .inr z, fun b z => ⟨d2 b (q4 b z).1, fun w => ?_⟩, fun b z => z.elim (fun z => (d1 b z).1) fun z => d2 b (q5 b z)⟩
    rcases w with w | w
    · exact (d1 b w).2 (q4 b z).1
    · exact (q4 b z).2 w
theorem TVs.app : ∀ {vs ws : List V} {ts us : List T} {S S1 : AS}, TVs K mg G H vs ts S → TVs K mg G H ws us S1 → Dj S S1 → TVs K mg G H (vs ++ ws) (ts ++ us) (U S S1)
  | _, _, _, _, _, _, .nil, q, _ => q.weak fun b z => .inr z
  | _, _, _, _, _, _, .cons (S1 := A) (S2 := B) h r d1 d2, q, d => .cons (S1 := A) h (TVs.app r q fun b z w => d b (d2 b z) w) (fun b z => ⟨.inl (d1 b z).1, fun w => w.elim (d1 b z).2 (d b (d1 b z).1)⟩) fun b z => z.imp (d2 b) id
theorem TVs.split : ∀ (n : Nat) {vs : List V} {ts : List T} {S : AS}, TVs K mg G H vs ts S → ∃ S1 S2, TVs K mg G H (vs.take n) (ts.take n) S1 ∧ TVs K mg G H (vs.drop n) (ts.drop n) S2 ∧ Dj S1 S2 ∧ (∀ b, S1 b → S b) ∧ ∀ b, S2 b → S b
  | 0, _, _, S, h => ⟨N0, S, .nil, h, fun _ z => z.elim, fun _ z => z.elim, fun _ z => z⟩
  | n + 1, _, _, S, .nil => ⟨N0, N0, .nil, .nil, fun _ z => z.elim, fun _ z => z.elim, fun _ z => z.elim⟩
  | n + 1, _, _, S, .cons (S1 := A) (S2 := B) h r d1 d2 => by
    obtain ⟨S1, S2, q1, q2, q3, q4, q5⟩ := TVs.split n r
    exact ⟨U A S1, S2, .cons (S1 := A) (S2 := S1) h q1 (fun b z => ⟨.inl z, fun w => (d1 b z).2 (q4 b w)⟩) fun b z => .inr z, q2, fun b z w => z.elim (fun z => (d1 b z).2 (q5 b w)) fun z => q3 b z w, fun b z => z.elim (fun z => (d1 b z).1) fun z => d2 b (q4 b z), fun b z => d2 b (q5 b z)⟩
theorem DVs.tvs' : ∀ {vs : List V} {ds : List D}, DVs K mg G vs ds → TVs K mg G H vs (ds.map .dat) N0
  | _, _, .nil => .nil
  | _, _, .cons h r => .cons (S1 := N0) (S2 := N0) (.dat h) (DVs.tvs' r) (fun _ z => z.elim) fun _ z => z
/-- a list in its place holds other items -/
theorem lst_upd {a : Addr} {vs vs' : List V} {ts' : List T} {S S1 Su SX : AS} {X : Cx} {Q : VK} {w : V} {tr : T} {Sr : AS} (hv : v = .ref a) (ha : H a = some (.lst vs)) (sa : S a) (d : ∀ b, S1 b → S b ∧ b ≠ a) (dj : Dj S Su) (tv : TVs K mg G H vs' ts' SX) (hX : ∀ b, SX b → S1 b ∨ Su b)
    (tr' : TV K mg G H w tr Sr) (hr : ∀ b, Sr b → (S1 b ∨ Su b) ∧ ¬ SX b)
    (k : ∀ (w : V) (H' : Hp) (T' Sr : AS), (∀ b o, ¬ S b → H b = some o → H' b = some o) → (∀ b o, H b = some o → ∃ o', H' b = some o') → TV K mg G H' v (.lst ts') T' → TV K mg G H' w tr Sr → (∀ b, T' b → U S Su b) → (∀ b, Sr b → U S Su b ∧ ¬ T' b) → Q w H') : Q w (upd H a (.lst vs')) := by
  subst hv
  have ne : ∀ b, S1 b ∨ Su b → b ≠ a := fun b z => z.elim (fun z => (d b z).2) fun z e => dj a sa (by rw [← e]; exact z)
  have kp : ∀ {F : AS}, (∀ b, F b → b ≠ a) → ∀ b o, F b → H b = some o → upd H a (.lst vs') b = some o := fun n b o z q => by rw [upd_ne (n b z)]; exact q
  refine k w _ (U (fun b => b = a) SX) Sr (fun b o n e => ?_) (fun b o e => ?_) (.lst upd_same (.inl rfl) (tv.move (Same.refl _) (S := SX) (kp fun b z => ne b (hX b z)) fun _ z => z) fun b z => ⟨.inr z, ne b (hX b z)⟩) (tr'.move (Same.refl _) (S := Sr) (kp fun b z => ne b (hr b z).1) fun _ z => z) (fun b z => ?_) fun b z => ⟨(hr b z).1.imp (fun z => (d b z).1) fun z => z, fun w => ?_⟩
  · rw [upd_ne fun q => n (by rw [q]; exact sa)]; exact e
  · by_cases q : b = a
    · rw [q]; exact ⟨_, upd_same⟩
    · rw [upd_ne q]; exact ⟨o, e⟩
  · rcases z with z | z
    · rw [z]; exact .inl sa
    · exact (hX b z).imp (fun z => (d b z).1) fun z => z
  · rcases w with w | w
    · exact ne b (hr b z).1 w
    · exact (hr b z).2 w
end
section
variable {X : Cx}
theorem lk_append : LkM X rAppend gAppend := fun G H v t' S' us tus Su t'' tr Q ge tv tu dj ow h k => by
  unfold gAppend at h
  split at h
  · rename_i ts t
    split at h
    · rename_i hz
      cases h
      obtain ⟨a, vs, S1, rfl, ha, sa, r, d⟩ := tv.lst_inv
      obtain ⟨u, S2, rfl, tu1, d2⟩ := tu.one
      exact ⟨a, vs, u, rfl, rfl, ha, by rw [r.length]; exact hz, lst_upd (X := X) rfl ha sa d dj (r.snoc tu1 fun b z w => dj b (d b z).1 (d2 b w)) (fun b z => z.imp id (d2 b)) (Sr := N0) (.dat .non) (fun _ z => z.elim) k⟩
    · cases h
  · cases h
theorem lk_clear : LkM X rClear gClear := fun G H v t' S' us tus Su t'' tr Q ge tv tu dj ow h k => by
  unfold gClear at h
  split at h
  · rename_i ts
    cases h
    obtain ⟨a, vs, S1, rfl, ha, sa, r, d⟩ := tv.lst_inv
    exact ⟨a, vs, rfl, tu.nilv, ha, lst_upd (X := X) (SX := N0) rfl ha sa d dj .nil (fun b z => z.elim) (Sr := N0) (.dat .non) (fun _ z => z.elim) k⟩
  · cases h
theorem lk_reverse : LkM X rReverse gReverse := fun G H v t' S' us tus Su t'' tr Q ge tv tu dj ow h k => by
  unfold gReverse at h
  split at h
  · rename_i ts
    cases h
    obtain ⟨a, vs, S1, rfl, ha, sa, r, d⟩ := tv.lst_inv
    exact ⟨a, vs, rfl, tu.nilv, ha, lst_upd (X := X) rfl ha sa d dj r.rev (fun b z => .inl z) (Sr := N0) (.dat .non) (fun _ z => z.elim) k⟩
  · cases h
theorem eraseIdx_last {α : Type} : ∀ (l : List α), l.eraseIdx (l.length - 1) = l.dropLast
  | [] => rfl
  | [_] => rfl
  | a :: b :: l => by
    show (a :: b :: l).eraseIdx (l.length + 1) = a :: (b :: l).dropLast
    rw [List.eraseIdx_cons_succ]
    exact congrArg (a :: ·) (eraseIdx_last (b :: l))
theorem lk_pop : LkM X rPop gPop := fun G H v t' S' us tus Su t'' tr Q ge tv tu dj ow h k => by
  unfold gPop at h
  split at h
  · rename_i ts
    cases e : ts[ts.length - 1]? with
    | none => rw [e] at h; cases h
    | some t =>
      rw [e] at h
      cases h
      obtain ⟨a, vs, S1, rfl, ha, sa, r, d⟩ := tv.lst_inv
      obtain ⟨y, S2, S3, q1, q2, q3, q4, q5⟩ := r.pick e
      have hl := r.length
      rw [← hl] at q1
      rw [eraseIdx_last, ← hl, eraseIdx_last] at q3
      exact ⟨a, vs, y, rfl, tu.nilv, ha, q1, lst_upd (X := X) rfl ha sa d dj q3 (fun b z => .inl (q5 b z)) q2 (fun b z => ⟨.inl (q4 b z).1, (q4 b z).2⟩) k⟩
  · cases h
theorem lk_popAt : LkM X rPopAt gPopAt := fun G H v t' S' us tus Su t'' tr Q ge tv tu dj ow h k => by
  unfold gPopAt at h
  split at h
  · rename_i ts j
    split at h
    · rename_i hj
      obtain ⟨n, e1, h⟩ := bind_some h
      cases e : ts[n]? with
      | none => rw [e] at h; cases h
      | some t =>
        rw [e] at h
        cases h
        obtain ⟨a, vs, S1, rfl, ha, sa, r, d⟩ := tv.lst_inv
        obtain ⟨u, S4, rfl, tu1, d4⟩ := tu.one
        obtain ⟨y, S2, S3, q1, q2, q3, q4, q5⟩ := r.pick e
        exact ⟨a, vs, j, n, y, rfl, by rw [tu1.int_inv], ha, hj.1, hj.2, by rw [r.length]; exact e1, q1, lst_upd (X := X) rfl ha sa d dj q3 (fun b z => .inl (q5 b z)) q2 (fun b z => ⟨.inl (q4 b z).1, (q4 b z).2⟩) k⟩
    · cases h
  · cases h
abbrev rInsert : V → List V → Hp → VK → Prop := fun x vs H Q => ∃ (l : Addr) (xs : List V) (i : Int) (y : V), x = .ref l ∧ vs = [.int i, y] ∧ H l = some (.lst xs) ∧ xs.length < sizeLine ∧ 0 ≤ i ∧ i < 2 ^ 63 ∧
    Q .non (upd H l (.lst (xs.take i.toNat ++ [y] ++ xs.drop i.toNat)))
theorem lk_insert : LkM X rInsert gInsert := fun G H v t' S' us tus Su t'' tr Q ge tv tu dj ow h k => by
  unfold gInsert at h
  split at h
  · rename_i ts j t
    split at h
    · rename_i hj
      cases h
      obtain ⟨a, vs, S1, rfl, ha, sa, r, d⟩ := tv.lst_inv
      obtain ⟨u, w, S4, S5, rfl, tu1, tu2, d4, d5, d6⟩ := tu.two
      obtain ⟨A, B, q1, q2, q3, q4, q5⟩ := r.split j.toNat
      have n1 : Dj A S5 := fun b z w => dj b (d b (q4 b z)).1 (d5 b w)
      refine ⟨a, vs, j, w, rfl, by rw [tu1.int_inv], ha, by rw [r.length]; exact hj.1, hj.2.1, hj.2.2, lst_upd (X := X) rfl ha sa d dj (((q1.snoc tu2 n1)).app q2 fun b z w => ?_) (fun b z => ?_) (Sr := N0) (.dat .non) (fun _ z => z.elim) k⟩
      · exact z.elim (fun z => q3 b z w) fun z => dj b (d b (q5 b w)).1 (d5 b z)
      · exact z.elim (fun z => z.imp (q4 b) (d5 b)) fun z => .inl (q5 b z)
    · cases h
  · cases h
theorem lk_extend : LkM X rExtend gExtend := fun G H v t' S' us tus Su t'' tr Q ge tv tu dj ow h k => by
  unfold gExtend at h
  split at h
  · rename_i ts us'
    split at h
    · rename_i hz
      cases h
      obtain ⟨a, vs, S1, rfl, ha, sa, r, d⟩ := tv.lst_inv
      obtain ⟨u, S4, rfl, tu1, d4⟩ := tu.one
      obtain ⟨c, ws, S5, rfl, hc, sc, r2, d5⟩ := tu1.lst_inv
      refine ⟨a, c, vs, ws, rfl, rfl, ha, hc, by rw [r.length, r2.length]; exact hz, lst_upd (X := X) rfl ha sa d dj (r.app r2 fun b z w => dj b (d b z).1 (d4 b (d5 b w).1)) (fun b z => z.imp id fun z => d4 b (d5 b z).1) (Sr := N0) (.dat .non) (fun _ z => z.elim) k⟩
    · cases h
  · rename_i ts us'
    split at h
    · rename_i hz
      cases h
      obtain ⟨a, vs, S1, rfl, ha, sa, r, d⟩ := tv.lst_inv
      obtain ⟨u, S4, rfl, tu1, d4⟩ := tu.one
      cases tu1 with
      | dat q =>
        cases q with
        | lst hc r2 =>
          refine ⟨a, _, vs, _, rfl, rfl, ha, ge _ _ hc, by rw [r.length, r2.length]; exact hz, lst_upd (X := X) rfl ha sa d dj (r.app (DVs.tvs' r2) fun b z w => w.elim) (fun b z => z.imp id fun z => z.elim) (Sr := N0) (.dat .non) (fun _ z => z.elim) k⟩
    · cases h
  · cases h
def rSetM : V → List V → Hp → VK → Prop := fun x vs H Q => ∃ i v, vs = [i, v] ∧ rSetL x i v H fun H' => Q .non H'
theorem lk_setL : LkM X rSetM gSetL := fun G H v t' S' us tus Su t'' tr Q ge tv tu dj ow h k => by
  unfold gSetL at h
  split at h
  · rename_i ts j t
    cases e : ixN ts.length j with
    | none => rw [e] at h; cases h
    | some n =>
      rw [e] at h
      cases h
      obtain ⟨a, vs, S1, rfl, ha, sa, r, d⟩ := tv.lst_inv
      obtain ⟨u, w, S4, S5, rfl, tu1, tu2, d4, d5, d6⟩ := tu.two
      refine ⟨u, w, rfl, a, vs, j, n, rfl, tu1.int_inv, ha, by rw [r.length]; exact e, lst_upd (X := X) (Q := Q) (w := .non) rfl ha sa d dj (TVs.set tu2 n r fun b z w => dj b (d b z).1 (d5 b w)) (fun b z => z.imp id (d5 b)) (Sr := N0) (.dat .non) (fun _ z => z.elim) k⟩
  · cases h
end
end L3
/-! L3, part Q: items stored, the head. -/
namespace L3
open PySem PySem.Spec L2
/-! ### o[i] = e -/
def T.datO : T → Option D
  | .dat d => some d
  | _ => none
def fSetIx (i : Nat) (q : FQ) (pj : FP) (fe : FT) (g : T → List T → Option (T × T)) : FS := fun env => (fe env).bindS fun te e1 => match plc i q e1, (pj e1).bind T.datO with
  | some (t, p, t'), some k => (match g t' [.dat k, te] with
    | some (t'', _) => .nx (e1.set i (T.pPut t'' p t))
    | none => .stuck)
  | _, _ => .stuck
theorem datO_inv {t : T} {d : D} (h : t.datO = some d) : t = .dat d := by
  unfold T.datO at h
  split at h
  · cases h; rfl
  · cases h
section
variable {X : Cx} {W : WX} {i : Nat} {q : FQ} {g : T → List T → Option (T × T)} {o e ej : Expr} {fe : FT} {pj : FP} {kp : List Nat} {p1 pos : Pos} {t : TSet}
def setM (t : TSet) : V → List V → Hp → VK → Prop := fun x vs H Q => ∃ i v, vs = [i, v] ∧ t x i v H fun H' => Q .non H'
theorem s_setIx (hset : PSet X t) (lk : LkM X (setM t) g) (ho : QOk X o i q) (he : TOk X W e fe) (hj : POk X ej pj)
    (ha : ∀ v, assign (.Subscript o ej p1) X.env v = (do
      let ov ← holding [v] (eval o X.env)
      let iv ← holding [v, ov] (eval ej X.env)
      standAt p1
      holding [v, ov, iv] (setItem ov iv v)
      release [v, ov, iv] []) := by intro _; rfl)
    (hs : swapsWithSole [.Subscript o ej p1] e pos.line X.env = pure false := by rfl) (hw : swappedStores [.Subscript o ej p1] e X.env = pure none := by rfl) :
    SOk X W kp (.Assign [.Subscript o ej p1] e pos) (fSetIx i q pj fe g) := ⟨psW (ps_asg he.pe (pg_sub ho.pe hj.pe hset ha) hs hw) fun B σ H h => by
  obtain ⟨env, P, G, S, st, h⟩ := h
  refine tT_bindS (k := fun te e1 => match plc i q e1, (pj e1).bind T.datO with
    | some (t, p, t'), some k => (match g t' [.dat k, te] with
      | some (t'', _) => .nx (e1.set i (T.pPut t'' p t))
      | none => .stuck)
    | _, _ => .stuck) st h fun te e1 v G1 H1 Sv S2 gt c => ?_
  split at c
  · rename_i tt p t' k pl ek
    obtain ⟨tk, ek1, ek2⟩ := bind_some ek
    rw [datO_inv ek2] at ek1
    obtain ⟨f1, f2, f3, f4⟩ := plc_inv pl
    simp only at f1 f2 f3 f4
    refine ⟨e1, P, G1, S2, gt.es, tt, p, t', pl, fun v0 ov ev rc => ⟨e1, P, G1, S2, gt.es, _, ek1, fun iv tiv => ?_⟩⟩
    split at c
    · rename_i x t'' tr ex
      obtain ⟨v1, S1, Sa, ev1, vv, sl, dj, l1, l2⟩ := gt.es.sl.take f1 (own_no f3 f4)
      rw [ev] at ev1
      cases ev1
      have tv := slot_own vv f3 f4
      have base : Stp G H S G1 H1 (U (U S1 Sv) Sa) := gt.st.less fun b z => by
        rcases z with (z | z) | z
        · exact .inr (l1 b z)
        · exact .inl z
        · exact .inr (l2 b z)
      have ow : Own G1 H1 (U (U S1 Sv) Sa) := fun b z => by
        rcases z with (z | z) | z
        · exact gt.es.ow b (l1 b z)
        · exact gt.ow b z
        · exact gt.es.ow b (l2 b z)
      have pv : ∀ b, P b → ¬ (U (U S1 Sv) Sa) b ∧ ∃ o, H1 b = some o := fun b z => ⟨fun w => by
        rcases w with (w | w) | w
        · exact (gt.es.pv b z).1 (l1 b w)
        · obtain ⟨n, o, e⟩ := st.pv b z
          rcases gt.st.own b (.inl w) with q | q
          · exact n q
          · rw [e] at q; cases q
        · exact (gt.es.pv b z).1 (l2 b w), (gt.es.pv b z).2⟩
      obtain ⟨S3, c1, c2, c3⟩ := mut_fin base sl ev tv f3 rc ow (fun b z w => gt.dj b w (l1 b z)) dj (fun b z w => gt.dj b z (l2 b w)) gt.es.ge pv
      have args : TVs X.K X.mg G1 H1 [iv, v] [.dat k, te] Sv := .cons (S1 := N0) (S2 := Sv) (.dat tiv.dat_inv) (.cons (S1 := Sv) (S2 := N0) gt.tv .nil (fun b z => ⟨z, id⟩) fun b z => z.elim) (fun b z => z.elim) fun b z => z
      obtain ⟨_, _, e2, h2⟩ := lk G1 H1 ov t' S3 [iv, v] _ Sv t'' tr (fun _ H' => B.nx σ H') gt.es.ge c2 args (fun b z w => gt.dj b w (l1 b (c1 b z))) (fun b z => ow b (.inl (z.imp (c1 b) id))) ex fun w H2 T' Sr k1 k2 k3 k4 k5 k6 => (by
        have gg := c3 w H2 t'' tr T' Sr k1 k2 k3 k4 k5 k6
        have es' := gg.es
        rw [List.set_set] at es'
        exact c σ G1 H2 _ es' (gg.st.less fun b z => .inr z) .refl)
      cases e2
      exact h2
    · exact c.elim
  · exact c.elim⟩
end
/-! ### the head, for promises that ask that no repr is running -/
section
open PyProof.Rows
variable {P : Program} {w : World} {K : Frg} {mg mb : MG} {k : Nat} {fa a : Addr} {fd : FuncData} {x : Str} {sp : Sp} {s₁ : Shared} {vs : List Value} {ns : List Int}
/-- the one object that the law is given -/
def scrOb (vs : List Value) : Obj := { cls := .type "list", data := .seq vs.toArray }
open Classical in
noncomputable def scrH (K : Frg) (a : Addr) (vs : List Value) (ns : List Int) : Hp := fun b => if b = a ∧ K.lookup a = none then some (.frz (scrOb vs) (.lst (ns.map V.int))) else none
theorem scrH_some {b : Addr} {u : HO} (h : scrH K a vs ns b = some u) : b = a ∧ K.lookup a = none ∧ u = .frz (scrOb vs) (.lst (ns.map V.int)) := by
  unfold scrH at h
  split at h
  · rename_i c
    cases h
    exact ⟨c.1, c.2, rfl⟩
  · cases h
theorem scrH_none {b : Addr} (h : ¬ (b = a ∧ K.lookup a = none)) : scrH K a vs ns b = none := by
  unfold scrH
  rw [if_neg h]
theorem scrH_only : Only (scrH K a vs ns) := fun b => by
  cases q : scrH K a vs ns b with
  | none => exact .inl rfl
  | some u =>
    obtain ⟨_, _, e⟩ := scrH_some q
    rw [e]
    exact .inr ⟨_, _, rfl⟩
theorem run_law (inK : K.In s₁.heap) (nG : s₁.heap.Ns mainGlobals mg) (nB : s₁.heap.Ns builtinsNs mb) (bB : ∀ x : Str, x ≠ "__name__" → mb x = bootBuiltins x) (nL : s₁.heap.NoLimit) (noG : s₁.gens = #[])
    (oa : s₁.heap.get? a = some (scrOb vs)) (iv : IntsAre vs ns) (lz : ns.length ≤ sizeLine) (rm : Room k callerA)
    (F : ∀ base : Heap, K.In base → base.Ns mainGlobals mg → FnG P w K mg base k fa fd [x] sp) (bd : ∀ (s : Shared) (u : Value), BindsTo s fd ⟨[u], []⟩ [(x, u)])
    (law : ∀ H : Hp, Only H → SqL K H a (ns.map V.int) → sp [.ref a] H (fun v _ => v = .bl true) fun _ _ _ => False) :
    codeAny (model P w) callerA (.call (.ref fa) ⟨[.ref a], []⟩) (fun r s' => r = .ok (.ret (.bool true)) ∧ OldK s₁.heap s'.heap ∧ s'.os = s₁.os ∧ AllBare s'.gens) s₁ := by
  have vi := vals_ints iv
  have hl := iv.length
  generalize eH : scrH K a vs ns = H
  have only : Only H := by rw [← eH]; exact scrH_only
  have inv : ∀ {b : Addr} {u : HO}, H b = some u → b = a ∧ K.lookup a = none ∧ u = .frz (scrOb vs) (.lst (ns.map V.int)) := fun {b u} h => scrH_some (by rw [eH]; exact h)
  have off : ∀ {b : Addr}, ¬ (b = a ∧ K.lookup a = none) → H b = none := fun {b} h => by rw [← eH]; exact scrH_none h
  have up : ∀ {b : Addr} {o : Obj}, s₁.heap.get? b = some o → ¬ (b = a ∧ K.lookup a = none) → (hidT s₁.heap H).get? b = some o := fun e n => hidT_get e (off n)
  have names : ∀ {b : Addr} {m : MG}, s₁.heap.Ns b m → (hidT s₁.heap H).Ns b m := fun {b m} ⟨o, es, ep, e, d, r⟩ => by
    refine ⟨o, es, ep, up e fun z => ?_, d, r⟩
    rw [z.1, oa] at e
    cases e
    exact (nomatch (show Data.seq vs.toArray _ = Data.dict es ep from d))
  have inB : K.In (hidT s₁.heap H) := fun b o e => up (inK b o e) fun z => by
    have q := z.2
    rw [← z.1, e] at q
    cases q
  have scr : SqL K H a (ns.map V.int) := by
    cases q : K.lookup a with
    | none => exact .inl (.inr ⟨scrOb vs, by rw [← eH]; unfold scrH; rw [if_pos ⟨rfl, q⟩]⟩)
    | some o =>
      have e := inK a o q
      rw [oa] at e
      cases e
      exact .inr ⟨_, vs.toArray, _, q, rfl, rfl, rfl, by rw [List.size_toArray, hl]; exact lz, by simpa using vi⟩
  have good : HOk P w H s₁.heap := fun b u z => by
    obtain ⟨rfl, _, rfl⟩ := inv z
    exact ⟨oa, by rw [List.length_map]; exact lz, vs, _, vi, oa⟩
  have md : Mod K mg (hidT s₁.heap H) := ⟨inB, names nG, ⟨mb, names nB, bB⟩, nL.elim fun mc q => ⟨mc, names q.1, q.2⟩⟩
  have start : Env0 P w K mg (hidT s₁.heap H) callerA [] s₁ H := ⟨rfl, md, fun b o e => of_hidT e, Nat.le_of_eq (hidT_size _ _), trivial, fun b z => (List.not_mem_nil z).elim, good, .of_eq noG⟩
  refine codeAny_mono ((F _ inB (names nG)).run callerA [] s₁ H ⟨[.ref a], []⟩ [.ref a] [.ref a] _ _ rm rfl start (bd s₁ (.ref a)) (.cons rfl .nil) (law H only scr)) ?_
  rintro (e | fl) s' res
  · obtain ⟨_, _, _, _, _, _, _, _, _, _, _, _, z⟩ := res
    exact z.elim
  · cases fl with
    | ret u =>
      obtain ⟨v, H', os, bare, un, good', r', z⟩ := res
      have z : v = V.bl true := z
      rw [z] at r'
      have r' : u = Value.bool true := r'
      refine ⟨by rw [r'], OldK.of_keep fun b o e => ?_, os, bare⟩
      cases q : H b with
      | none => exact un.keep b o e q (List.not_mem_nil) (by simp)
      | some t =>
        obtain ⟨e1, _, e2⟩ := inv q
        rw [e2] at q
        rw [e1, oa] at e
        cases e
        rw [e1]
        rw [e1] at q
        exact (good' a _ (un.frzs a _ _ q)).1
    | _ => exact False.elim res
end
/-- the head's goal from the law's semantic function: true of every script -/
theorem walk_law {l : PySem.W.OpenLaw} {n k : Nat} {q : Program} {loose : List Str} {XP : MG → Heap → Prop} {YP : World → Heap → Prop} {d : DefRec} {g : FT} {x : Str}
    (hn : l.most = some n) (hn2 : n ≤ sizeLine) (hdf : d.params.defaults = []) (rm : Room k callerA)
    (F : ∀ (w : World) (mg : MG) (fa : Addr) (h : Heap), YP w h → h.Ns mainGlobals mg → mg d.name = some (.ref fa) →
      ∃ (K : Frg) (fd : FuncData), K.In h ∧ (∀ (s : Shared) (u : Value), BindsTo s fd ⟨[u], []⟩ [(x, u)]) ∧
        ∀ base : Heap, K.In base → base.Ns mainGlobals mg → FnG l.prog w K mg base k fa fd [x] (spF K mg 1 g))
    (law : ∀ ns : List Int, ns.length ≤ n → ∃ env, g [.dat (.scr (ns.map .int))] = .ok (.dat (.bl true)) env) :
    PySem.W.WalkO q loose XP YP l.row.toRowW d [] (fun f vs => PySem.call f vs) := by
  refine Att.attach_call hn hdf fun w s₀ s₁ mg mb fa o pm cd doc a vs ns G Y ho hd hcd hmg hobj hints hlen hg => ?_
  obtain ⟨K, fd, inH, hb, hF⟩ := F w mg fa _ Y G.T.g hmg
  refine run_law inH G.T.g G.T.b G.T.builtins G.T.nolimit hg hobj hints (Nat.le_trans hlen hn2) rm hF hb fun H hO hS => ⟨rfl, [.dat (.scr (ns.map .int))], N0, H, N0, ?_, ?_⟩
  · refine ⟨.cons (S1 := N0) (S2 := N0) (.inr ⟨_, rfl, .own (.dat (.scr hS ?_))⟩) .nil (fun _ z => z.elim) (fun _ z => z.elim), Same.refl _, fun _ z => z.elim, fun _ z => z.elim⟩
    clear hlen hS hints hobj hO
    induction ns with
    | nil => exact .nil
    | cons n ns ih => exact .cons (.int n) ih
  · obtain ⟨env, e⟩ := law ns hlen
    rw [e]
    intro v G' H' S1 S2 gt
    exact (VV.own (P := N0) gt.tv).dat_inv.bl_inv
end L3
/-! L3, part R: the operators, each with all its kinds. -/
namespace L3
open PySem PySem.Spec L2
/-! ### text * int -/
def repS (x : Str) (n : Nat) : Str := ⟨(List.replicate n x.cps).foldl (· ++ ·) #[]⟩
def cRep (x : Str) (n : Int) : Prop := 1 < n ∧ n < 2 ^ 20 ∧ 0 < x.length ∧ x.length * n.toNat ≤ 2 ^ 20
instance (x : Str) (n : Int) : Decidable (cRep x n) := by unfold cRep; infer_instance
abbrev rMulS : R2 := fun x y H Q => ∃ a n, x = .str a ∧ y = .int n ∧ cRep a n ∧ Q (.str (repS a n.toNat)) H
def gMulS : D → D → Option D
  | .str x, .int n => if cRep x n then some (.str (repS x n.toNat)) else none
  | _, _ => none
section
variable {X : Cx}
theorem op_mulS : OpR X (binaryOp .Mult) rMulS := by
  intro pins s σ H x y v u Q I rx ry h
  obtain ⟨a, n, rfl, rfl, ⟨c1, c2, c3, c4⟩, q⟩ := h
  obtain ⟨t, rfl⟩ := rx
  obtain ⟨t', rfl⟩ := ry
  have hn : ¬ n < 1 := by omega
  have hz : (n == 1 || a.length == 0) = false := by
    have : n ≠ 1 := by omega
    have h0 : a.length ≠ 0 := by omega
    simp [this, h0]
  have hl : a.length * n.toNat ≤ sizeLine := Nat.le_trans c4 (by decide)
  have e : (⟨(List.replicate n.toNat a.cps).foldl (· ++ ·) #[]⟩ : Str) = repS a n.toNat := rfl
  have elen : ∀ (k : Nat) (acc : Array Nat), ((List.replicate k a.cps).foldl (· ++ ·) acc).size = acc.size + k * a.cps.size := by
    intro k
    induction k with
    | zero => intro acc; simp
    | succ k ih =>
      intro acc
      rw [List.replicate_succ, List.foldl_cons, ih, Array.size_append, Nat.succ_mul]
      omega
  refine PySem.P.mul_str (by
      have h1 : ¬ n < -(2 ^ 63 : Int) := by omega
      have h2 : ¬ n ≥ 2 ^ 63 := by omega
      rw [decide_eq_false h1, decide_eq_false h2]; rfl) (fun _ _ => ?_) (fun _ _ => ?_) ?_
  · have h1 : (2 : Int) ^ 43 ≤ (2 ^ 63 - 1) / n := by
      apply Int.le_ediv_of_mul_le (by omega)
      have : n ≤ 2 ^ 20 - 1 := by omega
      calc (2 : Int) ^ 43 * n ≤ 2 ^ 43 * (2 ^ 20 - 1) := Int.mul_le_mul_of_nonneg_left this (by decide)
        _ ≤ 2 ^ 63 - 1 := by decide
    have h2 : a.length ≤ 2 ^ 20 := Nat.le_trans (Nat.le_mul_of_pos_right _ (by omega)) c4
    have h3 : (2 : Int) ^ 20 ≤ 2 ^ 43 := by decide
    omega
  · show decide (_ > sizeLine) = false
    exact decide_eq_false (by omega)
  · rw [if_neg hn, hz, if_neg (by decide)]
    refine ⟨?_, .str (repS a n.toNat), H, I.tok _, ⟨_, rfl⟩, q⟩
    show ((List.replicate n.toNat a.cps).foldl (· ++ ·) #[]).size ≤ sizeLine
    rw [elen]
    have : n.toNat * a.cps.size = a.length * n.toNat := Nat.mul_comm _ _
    simp only [Array.size_empty]
    omega
theorem ls_mulS : LS2 X rMulS gMulS := fun H v u d e d' Q hv hu h k => by
  unfold gMulS at h
  split at h
  · split at h
    · rename_i c
      cases h
      exact ⟨_, _, hv.str_inv, hu.int_inv, c, k _ (.str _)⟩
    · cases h
  · cases h
/-! ### Add, Mult -/
def gAdd := o2 gAddI gAddS
def gMul := o2 gMulI gMulS
theorem opAdd : OpR X (binaryOp .Add) (rO2 (rI0 fun i j => .int (i + j)) rAddS) := opOr op_add op_add_str
theorem lsAdd : LS2 X (rO2 (rI0 fun i j => .int (i + j)) rAddS) gAdd := ls_addI.or ls_addS
theorem opMul : OpR X (binaryOp .Mult) (rO2 (rI CMul fun i j => .int (i * j)) rMulS) := opOr op_mul op_mulS
theorem lsMul : LS2 X (rO2 (rI CMul fun i j => .int (i * j)) rMulS) gMul := ls_mulI.or ls_mulS
/-- lists, tuples + -/
def gCat : D → D → Option T
  | .lst a, .lst b => if a.length + b.length ≤ sizeLine then some (.lst ((a ++ b).map .dat)) else none
  | _, _ => none
def gCatT : D → D → Option T
  | .tup a, .tup b => if a.length + b.length ≤ sizeLine ∧ a.length ≠ 0 then some (.dat (.tup (a ++ b))) else none
  | _, _ => none
def gRep : D → D → Option T
  | .lst a, .int n => if -(2 ^ 63) ≤ n ∧ n < 2 ^ 63 ∧ a.length * n.toNat ≤ sizeLine then some (.lst ((List.replicate n.toNat a).flatten.map .dat)) else none
  | _, _ => none
theorem lk_cat : Lk2 X rCat gCat := fun P G H v u d e t Q ge hv hu h k => by
  unfold gCat at h
  split at h
  · split at h
    · rename_i a b c
      cases h
      cases hv with
      | lst ha ra =>
        cases hu with
        | lst hb rb => exact ⟨_, _, _, _, rfl, rfl, ge _ _ ha, ge _ _ hb, by rw [ra.length, rb.length]; exact c, fun p n => k _ _ _ _ (.lst ge n (ra.append rb))⟩
    · cases h
  · cases h
theorem lk_catT : Lk2 X (rCatT X.K) gCatT := fun P G H v u d e t Q ge hv hu h k => by
  unfold gCatT at h
  split at h
  · split at h
    · rename_i a b c
      cases h
      cases hv with
      | tup ha ra =>
        cases hu with
        | tup hb rb =>
          refine ⟨_, _, _, _, rfl, rfl, sqt_same ge ha, sqt_same ge hb, fun z => c.2 (by rw [← ra.length, z]; rfl), by rw [ra.length, rb.length]; exact c.1, fun z => ?_, fun z p n => k _ _ _ _ (.tup ge n (ra.append rb))⟩
          subst z
          cases rb
          have k := k
          rw [List.append_nil] at k
          exact k _ G H N0 ⟨.refl ge, .dat (.tup ha ra), fun _ z => z.elim⟩
    · cases h
  · cases h
theorem DVs.flat {K : Frg} {mg : MG} {G : Hp} {vs : List V} {ds : List D} (h : DVs K mg G vs ds) : ∀ n : Nat, DVs K mg G (List.replicate n vs).flatten (List.replicate n ds).flatten
  | 0 => .nil
  | n + 1 => by
    rw [List.replicate_succ, List.replicate_succ, List.flatten_cons, List.flatten_cons]
    exact h.append (DVs.flat h n)
theorem lk_rep : Lk2 X rRep gRep := fun P G H v u d e t Q ge hv hu h k => by
  unfold gRep at h
  split at h
  · split at h
    · rename_i a n c
      cases h
      cases hv with
      | lst ha ra => exact ⟨_, _, _, rfl, hu.int_inv, ge _ _ ha, c.1, c.2.1, by rw [ra.length]; exact c.2.2, fun p n => k _ _ _ _ (.lst ge n (ra.flat _))⟩
    · cases h
  · cases h
def gAddT := o2 (dt2 gAdd) (o2 gCat gCatT)
def gMulT := o2 (dt2 gMul) gRep
abbrev rAddT (K : Frg) : R2 := rO2 (rO2 (rI0 fun i j => .int (i + j)) rAddS) (rO2 rCat (rCatT K))
abbrev rMulT : R2 := rO2 (rO2 (rI CMul fun i j => .int (i * j)) rMulS) rRep
theorem opAddT : OpR X (binaryOp .Add) (rAddT X.K) := opOr opAdd (opOr op_cat op_catT)
theorem lkAddT : Lk2 X (rAddT X.K) gAddT := lsAdd.lk.or (lk_cat.or lk_catT)
theorem opMulT : OpR X (binaryOp .Mult) rMulT := opOr opMul op_rep
theorem lkMulT : Lk2 X rMulT gMulT := lsMul.lk.or lk_rep
/-! ### in -/
abbrev rInS : R2 := fun x y H Q => ∃ i j, x = .str i ∧ y = .str j ∧ Q (.bl (!(Builtin.Str.occurrences j i 0 j.length 1).isEmpty)) H
abbrev rNotInS : R2 := fun x y H Q => ∃ i j, x = .str i ∧ y = .str j ∧ Q (.bl (!(!(Builtin.Str.occurrences j i 0 j.length 1).isEmpty))) H
def gInS : D → D → Option D
  | .str x, .str z => some (.bl (!(Builtin.Str.occurrences z x 0 z.length 1).isEmpty))
  | _, _ => none
def gNotInS : D → D → Option D := fun d e => (gInS d e).bind gNot
theorem ls_inS : LS2 X rInS gInS := fun H v u d e d' Q hv hu h k => by
  unfold gInS at h
  split at h
  · cases h
    exact ⟨_, _, hv.str_inv, hu.str_inv, k _ (.bl _)⟩
  · cases h
theorem ls_notInS : LS2 X rNotInS gNotInS := fun H v u d e d' Q hv hu h k => by
  obtain ⟨d1, h1, h2⟩ := bind_some h
  unfold gInS at h1
  split at h1
  · cases h1
    cases h2
    exact ⟨_, _, hv.str_inv, hu.str_inv, k _ (.bl _)⟩
  · cases h1
theorem ls_notInC : LS2 X rNotInC gNotInC := fun H v u d e d' Q hv hu h k => by
  obtain ⟨d1, h1, h2⟩ := bind_some h
  unfold gInC at h1
  split at h1
  · rename_i x z
    split at h1
    · rename_i c ec
      cases h1
      cases h2
      have hx : x = ⟨#[c]⟩ := by
        cases x with
        | mk cps =>
          have : cps = #[c] := by
            simpa using congrArg List.toArray ec
          rw [this]
      subst hx
      exact ⟨c, z, hv.str_inv, hu.str_inv, k _ (.bl _)⟩
    · cases h1
  · cases h1
def gIn := o2 gInC (o2 gInS gInL)
def gNotIn := o2 gNotInC (o2 gNotInS gNotInL)
abbrev rInX (K : Frg) : R2 := rO2 rInC (rO2 rInS (rInD K))
abbrev rNotInX (K : Frg) : R2 := rO2 rNotInC (rO2 rNotInS (rNotInD K))
theorem opIn (hu : X.A.units + 65 < cLine) : OpR X (compareOp .In) (rInX X.K) := opOr op_in_sign (opOr op_in_str (op_inD hu))
theorem lsIn : LS2 X (rInX X.K) gIn := ls_inC.or (ls_inS.or ls_inL)
theorem opNotIn (hu : X.A.units + 65 < cLine) : OpR X (compareOp .NotIn) (rNotInX X.K) := opOr op_notIn_sign (opOr op_notin_str (op_notInD hu))
theorem lsNotIn : LS2 X (rNotInX X.K) gNotIn := ls_notInC.or (ls_notInS.or ls_notInL)
/-! ### order -/
abbrev rS (f : Str → Str → V) : R2 := fun x y H Q => ∃ i j, x = .str i ∧ y = .str j ∧ Q (f i j) H
def gS (f : Str → Str → D) : D → D → Option D
  | .str x, .str y => some (f x y)
  | _, _ => none
theorem lsS {f : Str → Str → V} {f' : Str → Str → D} (hf : ∀ i j, Sc (f i j) (f' i j)) : LS2 X (rS f) (gS f') := fun H v u d e d' Q hv hu h k => by
  unfold gS at h
  split at h
  · cases h
    exact ⟨_, _, hv.str_inv, hu.str_inv, k _ (hf _ _)⟩
  · cases h
def gLtX := o2 gLt (gS fun i j => .bl (decide (i.cps.toList < j.cps.toList)))
def gLeX := o2 gLe (gS fun i j => .bl (!decide (j.cps.toList < i.cps.toList)))
def gGtX := o2 gGt (gS fun i j => .bl (decide (j.cps.toList < i.cps.toList)))
def gGeX := o2 gGe (gS fun i j => .bl (!decide (i.cps.toList < j.cps.toList)))
theorem opLt : OpR X (compareOp .Lt) (rO2 (rI0 fun i j => .bl (decide (i < j))) (rS fun i j => .bl (decide (i.cps.toList < j.cps.toList)))) := opOr op_lt op_lt_str
theorem lsLt : LS2 X (rO2 (rI0 fun i j => .bl (decide (i < j))) (rS fun i j => .bl (decide (i.cps.toList < j.cps.toList)))) gLtX := ls_lt.or (lsS fun _ _ => .bl _)
theorem opLe : OpR X (compareOp .LtE) (rO2 (rI0 fun i j => .bl (decide (i ≤ j))) (rS fun i j => .bl (!decide (j.cps.toList < i.cps.toList)))) := opOr op_le op_le_str
theorem lsLe : LS2 X (rO2 (rI0 fun i j => .bl (decide (i ≤ j))) (rS fun i j => .bl (!decide (j.cps.toList < i.cps.toList)))) gLeX := ls_le.or (lsS fun _ _ => .bl _)
theorem opGt : OpR X (compareOp .Gt) (rO2 (rI0 fun i j => .bl (decide (j < i))) (rS fun i j => .bl (decide (j.cps.toList < i.cps.toList)))) := opOr op_gt op_gt_str
theorem lsGt : LS2 X (rO2 (rI0 fun i j => .bl (decide (j < i))) (rS fun i j => .bl (decide (j.cps.toList < i.cps.toList)))) gGtX := ls_gt.or (lsS fun _ _ => .bl _)
theorem opGe : OpR X (compareOp .GtE) (rO2 (rI0 fun i j => .bl (decide (j ≤ i))) (rS fun i j => .bl (!decide (i.cps.toList < j.cps.toList)))) := opOr op_ge op_ge_str
theorem lsGe : LS2 X (rO2 (rI0 fun i j => .bl (decide (j ≤ i))) (rS fun i j => .bl (!decide (i.cps.toList < j.cps.toList)))) gGeX := ls_ge.or (lsS fun _ _ => .bl _)
/-! ### ==: scalars, data -/
def gScal (f : Bool → Bool) : D → D → Option D
  | .int a, .int b => some (.bl (f (a == b)))
  | .str a, .str b => some (.bl (f (a == b)))
  | .bl a, .bl b => some (.bl (f (a == b)))
  | _, _ => none
theorem ls_eqS : LS2 X rEq (gScal id) := fun H v u d e d' Q hv hu h k => by
  unfold gScal at h
  split at h
  · cases h
    cases hv
    cases hu
    exact ⟨rfl, by rw [dec_int]; exact k _ (.bl _)⟩
  · cases h
    cases hv
    cases hu
    exact ⟨rfl, by rw [dec_str]; exact k _ (.bl _)⟩
  · cases h
    cases hv
    cases hu
    exact ⟨rfl, by rw [dec_bl]; exact k _ (.bl _)⟩
  · cases h
theorem ls_neS : LS2 X rNe (gScal not) := fun H v u d e d' Q hv hu h k => by
  unfold gScal at h
  split at h
  · cases h
    cases hv
    cases hu
    exact ⟨rfl, by rw [dec_int]; exact k _ (.bl _)⟩
  · cases h
    cases hv
    cases hu
    exact ⟨rfl, by rw [dec_str]; exact k _ (.bl _)⟩
  · cases h
    cases hv
    cases hu
    exact ⟨rfl, by rw [dec_bl]; exact k _ (.bl _)⟩
  · cases h
def gEqX := o2 (gScal id) gEq
def gNeX := o2 (gScal not) gNe
theorem opEq (hu : X.A.units + 64 < cLine) : OpR X (compareOp .Eq) (rO2 rEq (rEqD X.K)) := opOr op_eq (op_eqD hu)
theorem lsEq : LS2 X (rO2 rEq (rEqD X.K)) gEqX := ls_eqS.or ls_eq
theorem opNe (hu : X.A.units + 64 < cLine) : OpR X (compareOp .NotEq) (rO2 rNe (rNeD X.K)) := opOr op_ne (op_neD hu)
theorem lsNe : LS2 X (rO2 rNe (rNeD X.K)) gNeX := ls_neS.or ls_ne
end
end L3
/-! L3, part S: a law's facts by names, defs in bundles. -/
namespace L3
open PySem PySem.Spec L2
/-- what the top left, as the head tells it -/
def Ctx (fa : List He.Fa) (fn : List He.DefD) (K : Frg) (mg : MG) : Prop := ∃ h : Heap, K.In h ∧ h.Ns mainGlobals mg ∧ He.SaysD fa fn K
section
variable {fa : List He.Fa} {fn : List He.DefD} {K : Frg} {mg : MG}
theorem Ctx.free (A : Ctx fa fn K mg) (i : Nat) {x : Str} (h : fa[i]? = some (.free x) := by rfl) : mg x = none := by
  obtain ⟨_, X, G, c⟩ := A
  exact He.free_ok X G (c.fact i h)
theorem Ctx.glo (A : Ctx fa fn K mg) (i : Nat) {x : Str} (h : fa[i]? = some (.glo x) := by rfl) : mg x = some (.ref (He.ga K x)) := by
  obtain ⟨_, X, G, c⟩ := A
  exact He.glo_ok X G (c.fact i h)
theorem Ctx.int (A : Ctx fa fn K mg) (i : Nat) {x : Str} {z : Int} (h : fa[i]? = some (.int x z) := by rfl) : ∃ t, mg x = some (.int z t) := by
  obtain ⟨_, X, G, c⟩ := A
  exact He.int_ok X G (c.fact i h)
theorem Ctx.str (A : Ctx fa fn K mg) (i : Nat) {x z : Str} (h : fa[i]? = some (.str x z) := by rfl) : ∃ t, mg x = some (.str z t) := by
  obtain ⟨_, X, G, c⟩ := A
  exact He.str_ok X G (c.fact i h)
theorem Ctx.def_ (A : Ctx fa fn K mg) (i : Nat) {d : He.DefD} (h : fn[i]? = some d := by rfl) : ∃ fd, FunD K d.name d.qual d.params d.body d.scope (d.dvs K) (d.kws K) (He.fAd K d.at_) fd := by
  obtain ⟨_, X, G, c⟩ := A
  exact c.def_ i h
end
/-- a def without defaults keeps its semantic function's promise -/
def FnB (P : Program) (w : World) (K : Frg) (mg : MG) (base : Heap) (k : Nat) (f : Addr) (ps : List Str) (n : Nat) (g : FT) : Prop := ∃ fd, FnG P w K mg base k f fd ps (spF K mg n g) ∧ Binds K fd ps [] ∧ PySem.W.keepIn K (.ref f) = true
section
variable {X : Cx} {W : WX} {k : Nat} {f : Addr} {ps : List Str} {g : FT} {n : Nat} {x : Str} {p pos : Pos} {e : Expr} {es : List Expr} {fa : FA}
theorem c_call (kit : Kit X W k) (F : FnB X.prog X.w X.K X.mg X.base k f ps n g) (hm : X.mg x = some (.ref f)) (ha : AAk X W (e :: es) fa) (hg : Gl X x := by rfl) (hn : (e :: es).length = n := by rfl)
    (hdb : (x == ("__debug__" : Str)) = false := by decide) (he : starEach (e :: es) X.env = (false, eval e X.env) :: starEach es X.env := by rfl)
    (hpl : (backTo pos (starEach es X.env)).any (·.1) = false := by rfl) : TOk X W (.Call (.Name x p) (e :: es) [] pos) (fCall g (fDf [] fa)) := by
  obtain ⟨fd, h1, h2, h3⟩ := F
  exact t_call kit h1 hg hm h3 h2 .nil .nil ha hn hdb he hpl
theorem c_call0 (kit : Kit X W k) (F : FnB X.prog X.w X.K X.mg X.base k f ps 0 g) (hm : X.mg x = some (.ref f)) (hg : Gl X x := by rfl) (hdb : (x == ("__debug__" : Str)) = false := by decide) : TOk X W (.Call (.Name x p) [] [] pos) (fCall g (fDf [] fAnil)) := by
  obtain ⟨fd, h1, h2, h3⟩ := F
  exact t_call0 kit h1 hg hm h3 h2 .nil .nil rfl hdb
theorem p_gstr {z : Str} (h : ∃ t, X.mg x = some (.str z t)) (hg : Gl X x := by rfl) (hd : (x == ("__debug__" : Str)) = false := by decide) : POk X (.Name x pos) (pC (.str z)) := by
  obtain ⟨t, h⟩ := h
  exact p_c (pe_glob (v := .str z) hg h ⟨t, rfl⟩ hd) (.str z)
theorem p_gint {z : Int} (h : ∃ t, X.mg x = some (.int z t)) (hg : Gl X x := by rfl) (hd : (x == ("__debug__" : Str)) = false := by decide) : POk X (.Name x pos) (pC (.int z)) := by
  obtain ⟨t, h⟩ := h
  exact p_c (pe_glob (v := .int z) hg h ⟨t, rfl⟩ hd) (.int z)
end
/-! ### the rules with their own looks -/
section
variable {X : Cx} {W : WX} {k : Nat} {kp : List Nat} {x : Str} {pos pos' : Pos} {e : Expr} {es : List Expr} {r : FA} {fe : FT}
theorem v_p (i : Nat) (hN : X.N[i]? = some x := by rfl) (hv : Vis X.env.scope x := by first | exact .inl rfl | exact .inr (.inl rfl) | exact .inr (.inr rfl)) (hd : (x == ("__debug__" : Str)) = false := by decide) (hcd : (x == ("__classdict__" : Str)) = false := by decide) : POk X (.Name x pos) (pV i) := p_var hN hv hd hcd
theorem v_f (i : Nat) (hN : X.N[i]? = some x := by rfl) (hv : Vis X.env.scope x := by first | exact .inl rfl | exact .inr (.inl rfl) | exact .inr (.inr rfl)) (hd : (x == ("__debug__" : Str)) = false := by decide) (hcd : (x == ("__classdict__" : Str)) = false := by decide) : TOk X W (.Name x pos) (fV i) := t_var hN hv hd hcd
theorem v_t (i : Nat) (hN : X.N[i]? = some x := by rfl) (hv : Vis X.env.scope x := by first | exact .inl rfl | exact .inr (.inl rfl) | exact .inr (.inr rfl)) (hd : (x == ("__debug__" : Str)) = false := by decide) (hcd : (x == ("__classdict__" : Str)) = false := by decide) : TOk X W (.Name x pos) (fTk i) := t_tk hN hv hd hcd
theorem v_q (i : Nat) (hN : X.N[i]? = some x := by rfl) (hv : Vis X.env.scope x := by first | exact .inl rfl | exact .inr (.inl rfl) | exact .inr (.inr rfl)) (hd : (x == ("__debug__" : Str)) = false := by decide) (hcd : (x == ("__classdict__" : Str)) = false := by decide) : QOk X (.Name x pos) i qV := q_var hN hv hd hcd
theorem a_rf (i : Nat) (hr : AAk X W es r) (hN : X.N[i]? = some x := by rfl) (hv : Vis X.env.scope x := by first | exact .inl rfl | exact .inr (.inl rfl) | exact .inr (.inr rfl)) (hd : (x == ("__debug__" : Str)) = false := by decide) (hcd : (x == ("__classdict__" : Str)) = false := by decide)
    (hs : starEach (.Name x pos :: es) X.env = (false, eval (.Name x pos) X.env) :: starEach es X.env := by rfl) : AAk X W (.Name x pos :: es) (fArf i r) := aa_rf hN hv hr hd hcd hs
theorem a_vw (i : Nat) (hr : AAk X W es r) (hN : X.N[i]? = some x := by rfl) (hv : Vis X.env.scope x := by first | exact .inl rfl | exact .inr (.inl rfl) | exact .inr (.inr rfl)) (hd : (x == ("__debug__" : Str)) = false := by decide) (hcd : (x == ("__classdict__" : Str)) = false := by decide)
    (hs : starEach (.Name x pos :: es) X.env = (false, eval (.Name x pos) X.env) :: starEach es X.env := by rfl) : AAk X W (.Name x pos :: es) (fAvw i r) := aa_vw hN hv hr hd hcd hs
theorem s_put (i : Nat) (kit : Kit X W k) (he : TOk X W e fe) (hi : X.N[i]? = some x := by rfl) (hx : Loc X.env.scope x := by first | exact .inl rfl | exact .inr rfl) (hk : i ∉ kp := by decide) (hs : swapsWith e (some (.Name x pos')) pos.line X.env = pure false := by rfl)
    (hf : X.fn x = true ∨ X.env.scope.names.lookup x = some .local := by first | exact .inl rfl | exact .inr rfl) : SOk X W kp (.Assign [.Name x pos'] e pos) (fSet i fe) := s_set kit hi hx he hk hs hf
theorem g_v (i : Nat) (hN : X.N.Nodup) (hi : X.N[i]? = some x := by rfl) (hx : Loc X.env.scope x := by first | exact .inl rfl | exact .inr rfl) (hf : X.fn x = true ∨ X.env.scope.names.lookup x = some .local := by first | exact .inl rfl | exact .inr rfl) : GOk X (.Name x pos) (.nm i) := g_nm hN hi hx hf
theorem bk_of {scope : Scope} {tg elt : Expr} {ifs : List Expr} {t : Tg} {tst : FB} {fe : FT} (kit : Kit X W k)
    (hg : ∀ (s : Shared) (H : Hp) (C : Addr) (cl : List (Str × Addr)) (fp : List Addr), Kit (X.blk s H scope (compEnvC scope cl C X.env) fp) W0 k → GOk (X.blk s H scope (compEnvC scope cl C X.env) fp) tg t)
    (hi : ∀ (s : Shared) (H : Hp) (C : Addr) (cl : List (Str × Addr)) (fp : List Addr), Kit (X.blk s H scope (compEnvC scope cl C X.env) fp) W0 k → IfOk (X.blk s H scope (compEnvC scope cl C X.env) fp) W0 ifs tst)
    (he : ∀ (s : Shared) (H : Hp) (C : Addr) (cl : List (Str × Addr)) (fp : List Addr), Kit (X.blk s H scope (compEnvC scope cl C X.env) fp) W0 k → TOk (X.blk s H scope (compEnvC scope cl C X.env) fp) W0 elt fe) : BkOk X scope tg elt ifs t tst fe :=
  ⟨fun s H C cl fp => hg s H C cl fp (kit.blk s H _ _ fp), fun s H C cl fp => hi s H C cl fp (kit.blk s H _ _ fp), fun s H C cl fp => he s H C cl fp (kit.blk s H _ _ fp)⟩
theorem b_cmp {a b : Expr} {fa fb : FT} {op : CmpOp} {r : R2} {g : D → D → Option T} (ho : OpR X (compareOp op) r) (lk : Lk2 X r g) (ha : TOk X W a fa) (hb : TOk X W b fb) (hm : behindInMarks op b = false) : BOk X W (.Compare a [op] [b] pos) (fB (f2 g fa fb)) :=
  ⟨ptW (pt_cmpR ho ha.pe hb.pe hm) fun σ H Q q => run2 lk (runB q)⟩
theorem runPB {p : FP} {σ : L2.St} {H : Hp} {Q : Bool → Hp → Prop} (q : tB X W (fB (fP p)) σ H Q) : tP X p σ H fun x H1 => ∃ k, x = .bl k ∧ Q k H1 := by
  obtain ⟨env, P, G, S, st, h⟩ := runB q
  unfold fP at h
  split at h
  · rename_i d e1
    exact ⟨env, P, G, S, st, _, e1, fun v tv => okD st h tv.dat_inv⟩
  · exact h.elim
theorem b_cmpP {a b : Expr} {pa pb : FP} {op : CmpOp} {r : R2} {g : D → D → Option D} (ho : OpR X (compareOp op) r) (ls : LS2 X r g) (ha : POk X a pa) (hb : POk X b pb) (hm : behindInMarks op b = false) : BOk X W (.Compare a [op] [b] pos) (fB (fP (p2 g pa pb))) :=
  ⟨ptW (pt_cmpR ho ha.pe hb.pe hm) fun σ H Q q => runP2 ls (runPB q)⟩
end
end L3
/-! L3, part T: semantic functions are evaluated, step by step (names e_*: for simp only). -/
namespace L3
open PySem PySem.Spec L2
/-! ### pure parts -/
def pvO : Option T → Option T
  | some .no => none
  | some t => some t
  | none => none
theorem e_pV {i : Nat} {env : Env} : pV i env = pvO env[i]? := rfl
theorem e_pvO_dat {d : D} : pvO (some (.dat d)) = some (.dat d) := rfl
theorem e_pvO_lst {t : List T} : pvO (some (.lst t)) = some (.lst t) := rfl
theorem e_pvO_tup {t : List T} : pvO (some (.tup t)) = some (.tup t) := rfl
theorem e_pvO_dic {t : List (D × T)} : pvO (some (.dic t)) = some (.dic t) := rfl
theorem e_pvO_ins {c : Str} {t : List (Str × T)} : pvO (some (.ins c t)) = some (.ins c t) := rfl
theorem e_pvO_vw {t : T} : pvO (some (.vw t)) = some (.vw t) := rfl
theorem e_pC {d : D} {env : Env} : pC d env = some (.dat d) := rfl
def qD : Option T → Option D := fun o => o.bind T.dz
def q1 (g : D → Option D) (o : Option D) : Option T := o.bind fun d => (g d).map .dat
def q2 (g : D → D → Option D) (o o' : Option D) : Option T := o.bind fun d => o'.bind fun e => (g d e).map .dat
def dO (o : Option D) : Option T := o.map .dat
theorem e_p1 {g : D → Option D} {pa : FP} {env : Env} : p1 g pa env = q1 g (qD (pa env)) := by
  unfold p1 q1 qD
  cases pa env <;> rfl
theorem e_p2 {g : D → D → Option D} {pa pb : FP} {env : Env} : p2 g pa pb env = q2 g (qD (pa env)) (qD (pb env)) := by
  unfold p2 q2 qD
  cases pa env with
  | none => rfl
  | some t =>
    cases pb env with
    | none =>
      show none = (t.dz).bind fun d => none
      cases t.dz <;> rfl
    | some u => rfl
theorem e_qD_dat {d : D} : qD (some (.dat d)) = some d := rfl
theorem e_qD {t : T} : qD (some t) = t.dz := rfl
theorem e_qD_no : qD none = none := rfl
theorem e_dz_vw {t : T} : (T.vw t).dz = t.dz := rfl
theorem e_dz_dat {d : D} : (T.dat d).dz = some d := rfl
theorem dzs_map : ∀ ds : List D, dzs (ds.map .dat) = some ds
  | [] => rfl
  | d :: ds => by
    show dzs (T.dat d :: ds.map .dat) = some (d :: ds)
    simp only [dzs, T.dz, dzs_map ds]
theorem e_dz_lst {ds : List D} : (T.lst (ds.map .dat)).dz = some (.lst ds) := by
  simp only [T.dz, dzs_map, Option.map_some]
theorem fzs_map : ∀ ds : List D, fzs (ds.map .dat) = some ds
  | [] => rfl
  | d :: ds => by
    show fzs (T.dat d :: ds.map .dat) = some (d :: ds)
    simp only [fzs, T.fz, fzs_map ds]
theorem e_fz_lst {ds : List D} : (T.lst (ds.map .dat)).fz = some (.lst ds) := by
  simp only [T.fz, fzs_map, Option.map_some]
theorem e_q1 {g : D → Option D} {d : D} : q1 g (some d) = dO (g d) := rfl
theorem e_q2 {g : D → D → Option D} {d e : D} : q2 g (some d) (some e) = dO (g d e) := rfl
theorem e_dO {d : D} : dO (some d) = some (.dat d) := rfl
def qIx (o o' : Option T) : Option T := o.bind fun t => o'.bind fun u => (iOf u).bind fun i => t.ix i
theorem e_pIx {pa pb : FP} {env : Env} : pIx pa pb env = qIx (pa env) (pb env) := rfl
theorem e_qIx {t : T} {k : Int} : qIx (some t) (some (.dat (.int k))) = t.ix k := rfl
theorem e_ix_lst {ts : List T} {k : Int} : (T.lst ts).ix k = atI ts k := rfl
theorem e_ix_tup {ts : List T} {k : Int} : (T.tup ts).ix k = atI ts k := rfl
theorem e_ix_dlst {ds : List D} {k : Int} : (T.dat (.lst ds)).ix k = dO (atI ds k) := rfl
theorem e_ix_dtup {ds : List D} {k : Int} : (T.dat (.tup ds)).ix k = dO (atI ds k) := rfl
theorem e_ix_dscr {ds : List D} {k : Int} : (T.dat (.scr ds)).ix k = dO (atI ds k) := rfl
theorem e_ix_vlst {ts : List T} {k : Int} : (T.vw (.lst ts)).ix k = (atI ts k).map T.view := rfl
theorem e_ix_vtup {ts : List T} {k : Int} : (T.vw (.tup ts)).ix k = (atI ts k).map T.view := rfl
theorem ixN_nat' {n j : Nat} : ixN n (j : Int) = if j < n then some j else none := by
  unfold ixN
  rw [if_pos (by omega)]
  by_cases h : j < n
  · rw [if_pos (by omega), if_pos h]; rfl
  · rw [if_neg (by omega), if_neg h]
theorem e_atI {α : Type} {xs : List α} {j : Nat} : atI xs (j : Int) = xs[j]? := by
  unfold atI
  rw [ixN_nat']
  by_cases h : j < xs.length
  · rw [if_pos h]; rfl
  · rw [if_neg h]
    exact (List.getElem?_eq_none (by omega)).symm
theorem e_atI0 {α : Type} {xs : List α} : atI xs 0 = xs[0]? := e_atI (j := 0)
theorem e_atI1 {α : Type} {xs : List α} : atI xs 1 = xs[1]? := e_atI (j := 1)
theorem e_atI2 {α : Type} {xs : List α} : atI xs 2 = xs[2]? := e_atI (j := 2)
theorem e_atI3 {α : Type} {xs : List α} : atI xs 3 = xs[3]? := e_atI (j := 3)
theorem e_atI4 {α : Type} {xs : List α} : atI xs 4 = xs[4]? := e_atI (j := 4)
theorem e_atI5 {α : Type} {xs : List α} : atI xs 5 = xs[5]? := e_atI (j := 5)
theorem e_atI6 {α : Type} {xs : List α} : atI xs 6 = xs[6]? := e_atI (j := 6)
theorem e_atI_in {α : Type} {xs : List α} {k : Int} (h : 0 ≤ k) : atI xs k = xs[k.toNat]? := by
  have := e_atI (xs := xs) (j := k.toNat)
  rwa [Int.toNat_of_nonneg h] at this
def qIf (o : Option T) (a b : FP) (env : Env) : Option T := o.bind fun t => (bOf t).bind fun k => if k = true then a env else b env
theorem e_pIf {c a b : FP} {env : Env} : pIf c a b env = qIf (c env) a b env := rfl
theorem e_qIf {k : Bool} {a b : FP} {env : Env} : qIf (some (.dat (.bl k))) a b env = if k = true then a env else b env := rfl
theorem e_pAnd {a b : FP} {env : Env} : pAnd a b env = qIf (a env) b (pC (.bl false)) env := rfl
theorem e_pOr {a b : FP} {env : Env} : pOr a b env = qIf (a env) (pC (.bl true)) b env := rfl
theorem e_pChain {g g' : D → D → Option D} {a b c : FP} {env : Env} : pChain g g' a b c env = qIf (p2 g a b env) (p2 g' b c) (pC (.bl false)) env := rfl
def qDs (o : Option D) (r : Option (List D)) : Option (List D) := o.bind fun d => r.map (d :: ·)
theorem e_pDs_nil {env : Env} : pDs [] env = some [] := rfl
theorem e_pDs {p : FP} {ps : List FP} {env : Env} : pDs (p :: ps) env = qDs (qD (p env)) (pDs ps env) := by
  show ((p env).bind fun t => t.dz.bind fun d => (pDs ps env).bind fun ds => some (d :: ds)) = _
  unfold qDs qD
  cases p env with
  | none => rfl
  | some t =>
    show (t.dz.bind fun d => (pDs ps env).bind fun ds => some (d :: ds)) = t.dz.bind _
    cases t.dz with
    | none => rfl
    | some d => cases pDs ps env <;> rfl
theorem e_qDs {d : D} {ds : List D} : qDs (some d) (some ds) = some (d :: ds) := rfl
def qBC (g : List D → Option D) (o : Option (List D)) : Option T := o.bind fun ds => (g ds).map .dat
theorem e_pBC {g : List D → Option D} {ps : List FP} {env : Env} : pBC g ps env = qBC g (pDs ps env) := rfl
theorem e_qBC {g : List D → Option D} {ds : List D} : qBC g (some ds) = dO (g ds) := rfl
/-! ### operations -/
theorem e_addI {a b : Int} : gAdd (.int a) (.int b) = some (.int (a + b)) := rfl
theorem e_addS {a b : Str} (h : a.length + b.length ≤ sizeLine) : gAdd (.str a) (.str b) = some (.str (a ++ b)) := by
  show (if a.length + b.length ≤ sizeLine then some (D.str (a ++ b)) else none) = _
  exact if_pos h
theorem e_subI {a b : Int} : gSubI (.int a) (.int b) = some (.int (a - b)) := rfl
theorem e_mulI {a b : Int} (h : CMul a b) : gMul (.int a) (.int b) = some (.int (a * b)) := by
  have e : gMulI (.int a) (.int b) = some (.int (a * b)) := if_pos h
  show o2 gMulI gMulS _ _ = _
  unfold o2
  rw [e]
theorem e_mulI_l {a b : Int} (h : -(2 ^ 64) < a ∧ a < 2 ^ 64) : gMul (.int a) (.int b) = some (.int (a * b)) := e_mulI (.inl h)
theorem e_mulI_r {a b : Int} (h : -(2 ^ 64) < b ∧ b < 2 ^ 64) : gMul (.int a) (.int b) = some (.int (a * b)) := e_mulI (.inr h)
theorem e_mulI_m {a b n : Int} (h : 0 < n ∧ n < 2 ^ 64) : gMul (.int (a % n)) (.int b) = some (.int (a % n * b)) := e_mulI (.inl (by
  have := Int.emod_nonneg a (b := n) (by omega)
  have := Int.emod_lt_of_pos a h.1
  omega))
theorem e_modI {a b : Int} (h : 0 < b) : gModI (.int a) (.int b) = some (.int (a % b)) := if_pos h
theorem e_divI {a b : Int} (h : 0 < b ∧ b < 1073741824) : gDivI (.int a) (.int b) = some (.int (a / b)) := if_pos h
theorem e_pow18 : gPowI (.int 10) (.int 18) = some (.int 1000000000000000000) := by
  have h : CPow 10 18 := ⟨by decide, by decide, by decide⟩
  show (if CPow 10 18 then some (D.int (10 ^ (18 : Int).toNat)) else none) = _
  rw [if_pos h]
  rfl
theorem e_ltI {a b : Int} : gLtX (.int a) (.int b) = some (.bl (decide (a < b))) := rfl
theorem e_leI {a b : Int} : gLeX (.int a) (.int b) = some (.bl (decide (a ≤ b))) := rfl
theorem e_gtI {a b : Int} : gGtX (.int a) (.int b) = some (.bl (decide (b < a))) := rfl
theorem e_geI {a b : Int} : gGeX (.int a) (.int b) = some (.bl (decide (b ≤ a))) := rfl
theorem shp_int (a : Int) : SeqAt.shaped (.int a) = true := by simp [SeqAt.shaped, PyData.canLay0, PyData.depth]
theorem shp_str {a : Str} (h : PyData.strOk a = true) : SeqAt.shaped (.str a) = true := by simp [SeqAt.shaped, PyData.canLay0, PyData.depth, h]
theorem shp_bl (a : Bool) : SeqAt.shaped (.bool a) = true := by simp [SeqAt.shaped, PyData.canLay0, PyData.depth]
theorem gData_of {f : PyData → PyData → D} {d e : D} {p q : PyData} (h1 : d.py = some p) (h2 : e.py = some q) (h3 : SeqAt.shaped p = true) (h4 : SeqAt.shaped q = true) : gData f d e = some (f p q) := by
  unfold gData
  simp only [h1, h2]
  exact if_pos ⟨h3, h4⟩
theorem e_eqI {a b : Int} : gEqX (.int a) (.int b) = some (.bl (a == b)) := rfl
theorem e_neI {a b : Int} : gNeX (.int a) (.int b) = some (.bl (!(a == b))) := rfl
theorem e_eqS {a b : Str} : gEqX (.str a) (.str b) = some (.bl (a == b)) := rfl
theorem e_neS {a b : Str} : gNeX (.str a) (.str b) = some (.bl (!(a == b))) := rfl
theorem e_eqB {a b : Bool} : gEqX (.bl a) (.bl b) = some (.bl (a == b)) := rfl
theorem e_neB {a b : Bool} : gNeX (.bl a) (.bl b) = some (.bl (!(a == b))) := rfl
theorem e_not {b : Bool} : gNot (.bl b) = some (.bl (!b)) := rfl
theorem e_neg {a : Int} : gNeg (.int a) = some (.int (-a)) := rfl
theorem e_int {i : Int} : gInt [.int i] = some (.int i) := rfl
theorem e_len_lst {ds : List D} : gLen [.lst ds] = some (.int ds.length) := rfl
theorem e_len_scr {ds : List D} : gLen [.scr ds] = some (.int ds.length) := rfl
theorem e_len_tup {ds : List D} : gLen [.tup ds] = some (.int ds.length) := rfl
theorem e_len_str {z : Str} (h : z.length ≤ sizeLine) : gLen [.str z] = some (.int z.length) := if_pos h
theorem e_inC {c : Nat} {z : Str} : gIn (.str ⟨#[c]⟩) (.str z) = some (.bl (decide (c ∈ z.cps.toList))) := rfl
theorem e_listOf_l {ds : List D} : gListOf [.lst ds] = some (.lst (ds.map .dat)) := rfl
theorem e_listOf_t {ds : List D} : gListOf [.tup ds] = some (.lst (ds.map .dat)) := rfl
theorem e_dtC {g : List D → Option D} {ds : List D} : dtC g ds = dO (g ds) := rfl
theorem e_dt2 {g : D → D → Option D} {d e : D} : dt2 g d e = dO (g d e) := rfl
theorem e_dt1 {g : D → Option D} {d : D} : dt1 g d = dO (g d) := rfl
theorem e_addT {d e r : D} (h : gAdd d e = some r) : gAddT d e = some (.dat r) := by
  show o2 (dt2 gAdd) _ d e = _
  unfold o2 dt2
  rw [h]
  rfl
theorem e_addTI {a b : Int} : gAddT (.int a) (.int b) = some (.dat (.int (a + b))) := rfl
theorem e_addTS {a b : Str} (h : a.length + b.length ≤ sizeLine) : gAddT (.str a) (.str b) = some (.dat (.str (a ++ b))) := e_addT (e_addS h)
theorem e_mulT {d e r : D} (h : gMul d e = some r) : gMulT d e = some (.dat r) := by
  show o2 (dt2 gMul) _ d e = _
  unfold o2 dt2
  rw [h]
  rfl
/-! ### values -/
def okP (o : Option T) (env : Env) : R T := match o with
  | some (.dat d) => .ok (.dat d) env
  | _ => .stuck
theorem e_fP {p : FP} {env : Env} : fP p env = okP (p env) env := rfl
theorem e_okP {d : D} {env : Env} : okP (some (.dat d)) env = .ok (.dat d) env := rfl
theorem e_fC {d : D} {env : Env} : fC d env = .ok (.dat d) env := rfl
def okV (o : Option T) (i : Nat) (env : Env) : R T := match o with
  | some (.dat d) => .ok (.dat d) env
  | some t => match t.fz with
    | some d => .ok (.dat d) (env.set i (.dat d))
    | none => .stuck
  | none => .stuck
theorem e_fV {i : Nat} {env : Env} : fV i env = okV env[i]? i env := rfl
theorem e_okV {d : D} {i : Nat} {env : Env} : okV (some (.dat d)) i env = .ok (.dat d) env := rfl
theorem e_okV_l {ts : List T} {d : D} {i : Nat} {env : Env} (h : (T.lst ts).fz = some d) : okV (some (.lst ts)) i env = .ok (.dat d) (env.set i (.dat d)) := by
  unfold okV
  simp only [h]
def okT (o : Option T) (i : Nat) (env : Env) : R T := match o with
  | some (.dat d) => .ok (.dat d) env
  | some .no => .stuck
  | some (.vw _) => .stuck
  | some t => .ok t (env.set i .no)
  | none => .stuck
theorem e_fTk {i : Nat} {env : Env} : fTk i env = okT env[i]? i env := rfl
theorem e_okT {d : D} {i : Nat} {env : Env} : okT (some (.dat d)) i env = .ok (.dat d) env := rfl
theorem e_okT_l {ts : List T} {i : Nat} {env : Env} : okT (some (.lst ts)) i env = .ok (.lst ts) (env.set i .no) := rfl
theorem e_okT_t {ts : List T} {i : Nat} {env : Env} : okT (some (.tup ts)) i env = .ok (.tup ts) (env.set i .no) := rfl
/-- frozen, then on -/
def rD {α : Type} (r : R T) (k : D → Env → R α) : R α := (r.bind fzR).bind k
theorem e_rD {α : Type} {d : D} {env : Env} {k : D → Env → R α} : rD (.ok (.dat d) env) k = k d env := rfl
theorem rD_fz {α : Type} {t : T} {d : D} {env : Env} {k : D → Env → R α} (h : t.fz = some d) : rD (.ok t env) k = k d env := by
  unfold rD fzR
  show (match t.fz with
    | some d => R.ok d env
    | none => .stuck).bind k = _
  rw [h]
  rfl
theorem e_rD_lst {α : Type} {ds : List D} {env : Env} {k : D → Env → R α} : rD (.ok (.lst (ds.map .dat)) env) k = k (.lst ds) env := rD_fz e_fz_lst
theorem e_rD_fz {α : Type} {ts : List T} {d : D} {env : Env} {k : D → Env → R α} (h : (T.lst ts).fz = some d) : rD (.ok (.lst ts) env) k = k d env := rD_fz h
def k1 (g : D → Option T) (d : D) (env : Env) : R T := opt (g d) env
def k2b (g : D → D → Option T) (d e : D) (env : Env) : R T := opt (g d e) env
def k2 (g : D → D → Option T) (fb : FT) (d : D) (env : Env) : R T := rD (fb env) (k2b g d)
theorem e_f1 {g : D → Option T} {fa : FT} {env : Env} : f1 g fa env = rD (fa env) (k1 g) := rfl
theorem e_k1 {g : D → Option T} {d : D} {env : Env} : k1 g d env = opt (g d) env := rfl
theorem e_f2 {g : D → D → Option T} {fa fb : FT} {env : Env} : f2 g fa fb env = rD (fa env) (k2 g fb) := rfl
theorem e_k2 {g : D → D → Option T} {fb : FT} {d : D} {env : Env} : k2 g fb d env = rD (fb env) (k2b g d) := rfl
theorem e_k2b {g : D → D → Option T} {d e : D} {env : Env} : k2b g d e env = opt (g d e) env := rfl
theorem e_opt {α : Type} {a : α} {env : Env} : opt (some a) env = .ok a env := rfl
def kDc (d : D) (ds : List D) (env : Env) : R (List D) := .ok (d :: ds) env
def kDs (fs : List FT) (d : D) (env : Env) : R (List D) := (fDs fs env).bind (kDc d)
theorem e_fDs_nil {env : Env} : fDs [] env = .ok [] env := rfl
theorem e_fDs {f : FT} {fs : List FT} {env : Env} : fDs (f :: fs) env = rD (f env) (kDs fs) := rfl
theorem e_kDs {fs : List FT} {d : D} {env : Env} : kDs fs d env = (fDs fs env).bind (kDc d) := rfl
theorem e_kDc {d : D} {ds : List D} {env : Env} : kDc d ds env = .ok (d :: ds) env := rfl
theorem e_bind {α β : Type} {a : α} {env : Env} {k : α → Env → R β} : (R.ok a env).bind k = k a env := rfl
def kBC (g : List D → Option T) (ds : List D) (env : Env) : R T := opt (g ds) env
theorem e_fBC {g : List D → Option T} {fs : List FT} {env : Env} : fBC g fs env = (fDs fs env).bind (kBC g) := rfl
theorem e_kBC {g : List D → Option T} {ds : List D} {env : Env} : kBC g ds env = opt (g ds) env := rfl
def kIf {α : Type} (a b : Env → R α) (k : Bool) (env : Env) : R α := if k = true then a env else b env
theorem e_fIf {c : FB} {a b : FT} {env : Env} : fIf c a b env = (c env).bind (kIf a b) := rfl
theorem e_kIf {α : Type} {a b : Env → R α} {k : Bool} {env : Env} : kIf a b k env = if k = true then a env else b env := rfl
def kFls (env : Env) : R Bool := .ok false env
def kTru (env : Env) : R Bool := .ok true env
theorem e_kFls {env : Env} : kFls env = .ok false env := rfl
theorem e_kTru {env : Env} : kTru env = .ok true env := rfl
theorem e_fAnd {a b : FB} {env : Env} : fAnd a b env = (a env).bind (kIf b kFls) := rfl
theorem e_fOr {a b : FB} {env : Env} : fOr a b env = (a env).bind (kIf kTru b) := rfl
def kNot (k : Bool) (env : Env) : R Bool := .ok (!k) env
theorem e_fNot {a : FB} {env : Env} : fNot a env = (a env).bind kNot := rfl
theorem e_kNot {k : Bool} {env : Env} : kNot k env = .ok (!k) env := rfl
def kBv (k : Bool) (env : Env) : R T := .ok (.dat (.bl k)) env
theorem e_fBv {c : FB} {env : Env} : fBv c env = (c env).bind kBv := rfl
theorem e_kBv {k : Bool} {env : Env} : kBv k env = .ok (.dat (.bl k)) env := rfl
def kB (t : T) (env : Env) : R Bool := match t with
  | .dat (.bl b) => .ok b env
  | _ => .stuck
theorem e_fB {f : FT} {env : Env} : fB f env = (f env).bind kB := rfl
theorem e_kB {b : Bool} {env : Env} : kB (.dat (.bl b)) env = .ok b env := rfl
/-! slices -/
def kSl3 (g : D → Option Int → Option Int → Option T) (d : D) (l u : Option Int) (env : Env) : R T := opt (g d l u) env
def kSl2 (g : D → Option Int → Option Int → Option T) (hi : Option FT) (d : D) (l : Option Int) (env : Env) : R T := (oI hi env).bind (kSl3 g d l)
def kSl1 (g : D → Option Int → Option Int → Option T) (lo hi : Option FT) (d : D) (env : Env) : R T := (oI lo env).bind (kSl2 g hi d)
theorem e_fSl {g : D → Option Int → Option Int → Option T} {fa : FT} {lo hi : Option FT} {env : Env} : fSl g fa lo hi env = rD (fa env) (kSl1 g lo hi) := rfl
theorem e_kSl1 {g : D → Option Int → Option Int → Option T} {lo hi : Option FT} {d : D} {env : Env} : kSl1 g lo hi d env = (oI lo env).bind (kSl2 g hi d) := rfl
theorem e_kSl2 {g : D → Option Int → Option Int → Option T} {hi : Option FT} {d : D} {l : Option Int} {env : Env} : kSl2 g hi d l env = (oI hi env).bind (kSl3 g d l) := rfl
theorem e_kSl3 {g : D → Option Int → Option Int → Option T} {d : D} {l u : Option Int} {env : Env} : kSl3 g d l u env = opt (g d l u) env := rfl
theorem e_oI_none {env : Env} : oI none env = .ok none env := rfl
theorem e_oI {f : FT} {env : Env} : oI (some f) env = (f env).bind iR := rfl
theorem e_iR {i : Int} {env : Env} : iR (.dat (.int i)) env = .ok (some i) env := rfl
theorem e_gSl_str {z : Str} {l u : Option Int} (h : z.length ≤ sizeLine) : gSl (.str z) l u = some (.dat (.str (cutS z l u))) := if_pos h
theorem e_gSl_lst {ds : List D} {l u : Option Int} : gSl (.lst ds) l u = some (.lst ((cutD ds l u).map .dat)) := rfl
theorem e_gSl_scr {ds : List D} {l u : Option Int} : gSl (.scr ds) l u = some (.lst ((cutD ds l u).map .dat)) := rfl
/-! texts -/
def kSm2 (g : Str → D → Option T) (a : Str) (e : D) (env : Env) : R T := opt (g a e) env
def kSm (g : Str → D → Option T) (fb : FT) (d : D) (env : Env) : R T := match d with
  | .str a => rD (fb env) (kSm2 g a)
  | _ => .stuck
theorem e_fSm {g : Str → D → Option T} {fa fb : FT} {env : Env} : fSm g fa fb env = rD (fa env) (kSm g fb) := rfl
theorem e_kSm {g : Str → D → Option T} {fb : FT} {a : Str} {env : Env} : kSm g fb (.str a) env = rD (fb env) (kSm2 g a) := rfl
theorem e_kSm2 {g : Str → D → Option T} {a : Str} {e : D} {env : Env} : kSm2 g a e env = opt (g a e) env := rfl
/-! ### arguments, displays, calls -/
def kAc (t : T) (as : List Ag) (env : Env) : R (List Ag) := .ok (.tm t :: as) env
def kAt (r : FA) (t : T) (env : Env) : R (List Ag) := (r env).bind (kAc t)
theorem e_fAnil {env : Env} : fAnil env = .ok [] env := rfl
theorem e_fAt {f : FT} {r : FA} {env : Env} : fAt f r env = (f env).bind (kAt r) := rfl
theorem e_kAt {r : FA} {t : T} {env : Env} : kAt r t env = (r env).bind (kAc t) := rfl
theorem e_kAc {t : T} {as : List Ag} {env : Env} : kAc t as env = .ok (.tm t :: as) env := rfl
def kAg (g : Ag) (as : List Ag) (env : Env) : R (List Ag) := .ok (g :: as) env
def okA (o : Option T) (g : Ag) (r : FA) (env : Env) : R (List Ag) := match o with
  | some _ => (r env).bind (kAg g)
  | none => .stuck
theorem e_fArf {i : Nat} {r : FA} {env : Env} : fArf i r env = okA (pV i env) (.rf i) r env := rfl
theorem e_fAvw {i : Nat} {r : FA} {env : Env} : fAvw i r env = okA (pV i env) (.vw i) r env := rfl
theorem e_okA {t : T} {g : Ag} {r : FA} {env : Env} : okA (some t) g r env = (r env).bind (kAg g) := rfl
theorem e_kAg {g : Ag} {as : List Ag} {env : Env} : kAg g as env = .ok (g :: as) env := rfl
def dispT (mk : List T → T) (o : Option (List T)) (env : Env) : R T := opt (o.bind fun ts => if ts.length ≤ sizeLine then some (mk ts) else none) env
def kDsp (mk : List T → T) (as : List Ag) (env : Env) : R T := dispT mk (tms as) env
theorem e_fLst {f : FA} {env : Env} : fLst f env = (f env).bind (kDsp .lst) := rfl
theorem e_fTup {f : FA} {env : Env} : fTup f env = (f env).bind (kDsp .tup) := rfl
theorem e_kDsp {mk : List T → T} {as : List Ag} {env : Env} : kDsp mk as env = dispT mk (tms as) env := rfl
theorem e_tms_nil : tms [] = some [] := rfl
def tmO (t : T) (o : Option (List T)) : Option (List T) := o.map (t :: ·)
theorem e_tms {t : T} {as : List Ag} : tms (.tm t :: as) = tmO t (tms as) := rfl
theorem e_tmO {t : T} {ts : List T} : tmO t (some ts) = some (t :: ts) := rfl
theorem e_dispT {mk : List T → T} {ts : List T} {env : Env} (h : ts.length ≤ 1000) : dispT mk (some ts) env = .ok (mk ts) env := by
  unfold dispT
  show opt (if ts.length ≤ sizeLine then some (mk ts) else none) env = _
  rw [if_pos (Nat.le_trans h (by decide))]
  rfl
def kDf (dd : List D) (as : List Ag) (env : Env) : R (List Ag) := .ok (as ++ dfA dd) env
theorem e_fDf {dd : List D} {fa : FA} {env : Env} : fDf dd fa env = (fa env).bind (kDf dd) := rfl
theorem e_kDf {as : List Ag} {env : Env} : kDf [] as env = .ok as env := by
  unfold kDf dfA
  rw [List.map_nil, List.append_nil]
theorem e_fCall {g : FT} {fa : FA} {env : Env} : fCall g fa env = (fa env).bind (callF g) := rfl
def callT (g : FT) (as : List Ag) (env : Env) (o : Option (List T × Env)) : R T := match o with
  | none => .stuck
  | some (ts, env2) => match g ts with
    | .ok t ts' => .ok t (putA as env ts' env2)
    | .exc x ts' => .exc x (putA as env ts' env2)
    | .stuck => .stuck
theorem e_callF {g : FT} {as : List Ag} {env : Env} : callF g as env = callT g as env (takeA as env) := rfl
def callR (r : R T) (as : List Ag) (env env2 : Env) : R T := match r with
  | .ok t ts' => .ok t (putA as env ts' env2)
  | .exc x ts' => .exc x (putA as env ts' env2)
  | .stuck => .stuck
theorem e_callT {g : FT} {as : List Ag} {env env2 : Env} {ts : List T} : callT g as env (some (ts, env2)) = callR (g ts) as env env2 := rfl
theorem e_callR {t : T} {ts' : List T} {as : List Ag} {env env2 : Env} : callR (.ok t ts') as env env2 = .ok t (putA as env ts' env2) := rfl
/-- what is taken -/
def tkM (o : Option (List T × Env)) (t : T) : Option (List T × Env) := o.map fun p => (t :: p.1, p.2)
theorem e_tkM {ts : List T} {env : Env} {t : T} : tkM (some (ts, env)) t = some (t :: ts, env) := rfl
theorem e_take_nil {env : Env} : takeA [] env = some ([], env) := rfl
theorem e_take_tm {t : T} {as : List Ag} {env : Env} : takeA (.tm t :: as) env = tkM (takeA as env) t := rfl
def tkR (o : Option T) (i : Nat) (as : List Ag) (env : Env) : Option (List T × Env) := match o with
  | some (.dat d) => tkM (takeA as env) (.dat d)
  | some (.vw t) => tkM (takeA as env) (.vw t)
  | some .no => none
  | some t => tkM (takeA as (env.set i .no)) t
  | none => none
def tkV (o : Option T) (i : Nat) (as : List Ag) (env : Env) : Option (List T × Env) := match o with
  | some (.dat d) => tkM (takeA as env) (.dat d)
  | some (.vw t) => tkM (takeA as env) (.vw t)
  | some .no => none
  | some t => tkM (takeA as (env.set i .no)) (.vw t)
  | none => none
theorem e_take_rf {i : Nat} {as : List Ag} {env : Env} : takeA (.rf i :: as) env = tkR env[i]? i as env := by
  simp only [takeA, tkR, tkM]
  all_goals
    cases env[i]? with
    | none => rfl
    | some t => cases t <;> rfl
theorem e_take_vw {i : Nat} {as : List Ag} {env : Env} : takeA (.vw i :: as) env = tkV env[i]? i as env := by
  simp only [takeA, tkV, tkM]
  all_goals
    cases env[i]? with
    | none => rfl
    | some t => cases t <;> rfl
theorem e_tkR_d {d : D} {i : Nat} {as : List Ag} {env : Env} : tkR (some (.dat d)) i as env = tkM (takeA as env) (.dat d) := rfl
theorem e_tkR_v {t : T} {i : Nat} {as : List Ag} {env : Env} : tkR (some (.vw t)) i as env = tkM (takeA as env) (.vw t) := rfl
theorem e_tkR_l {t : List T} {i : Nat} {as : List Ag} {env : Env} : tkR (some (.lst t)) i as env = tkM (takeA as (env.set i .no)) (.lst t) := rfl
theorem e_tkR_i {c : Str} {t : List (Str × T)} {i : Nat} {as : List Ag} {env : Env} : tkR (some (.ins c t)) i as env = tkM (takeA as (env.set i .no)) (.ins c t) := rfl
theorem e_tkV_d {d : D} {i : Nat} {as : List Ag} {env : Env} : tkV (some (.dat d)) i as env = tkM (takeA as env) (.dat d) := rfl
theorem e_tkV_v {t : T} {i : Nat} {as : List Ag} {env : Env} : tkV (some (.vw t)) i as env = tkM (takeA as env) (.vw t) := rfl
theorem e_tkV_l {t : List T} {i : Nat} {as : List Ag} {env : Env} : tkV (some (.lst t)) i as env = tkM (takeA as (env.set i .no)) (.vw (.lst t)) := rfl
theorem e_tkV_i {c : Str} {t : List (Str × T)} {i : Nat} {as : List Ag} {env : Env} : tkV (some (.ins c t)) i as env = tkM (takeA as (env.set i .no)) (.vw (.ins c t)) := rfl
theorem e_put_nil {o ts env : Env} : putA [] o ts env = env := rfl
theorem e_put_tm {t u : T} {as : List Ag} {o ts env : Env} : putA (.tm t :: as) o (u :: ts) env = putA as o ts env := rfl
def ptR (x : Option T) (i : Nat) (as : List Ag) (o : Env) (t : T) (ts env : Env) : Env := match x with
  | some (.dat _) => putA as o ts env
  | some (.vw _) => putA as o ts env
  | _ => putA as (o.set i .no) ts (env.set i t.ow)
def ptV (x : Option T) (i : Nat) (as : List Ag) (o ts env : Env) : Env := match x with
  | some (.dat _) => putA as o ts env
  | some (.vw _) => putA as o ts env
  | some t => putA as (o.set i .no) ts (env.set i t)
  | none => env
theorem e_put_rf {i : Nat} {t : T} {as : List Ag} {o ts env : Env} : putA (.rf i :: as) o (t :: ts) env = ptR o[i]? i as o t ts env := by
  simp only [putA, ptR]
  all_goals
    cases o[i]? with
    | none => rfl
    | some t => cases t <;> rfl
theorem e_put_vw {i : Nat} {t : T} {as : List Ag} {o ts env : Env} : putA (.vw i :: as) o (t :: ts) env = ptV o[i]? i as o ts env := by
  simp only [putA, ptV]
  all_goals
    cases o[i]? with
    | none => rfl
    | some t => cases t <;> rfl
theorem e_ptR_d {d : D} {i : Nat} {t : T} {as : List Ag} {o ts env : Env} : ptR (some (.dat d)) i as o t ts env = putA as o ts env := rfl
theorem e_ptR_v {u : T} {i : Nat} {t : T} {as : List Ag} {o ts env : Env} : ptR (some (.vw u)) i as o t ts env = putA as o ts env := rfl
theorem e_ptR_l {u : List T} {i : Nat} {t : T} {as : List Ag} {o ts env : Env} : ptR (some (.lst u)) i as o t ts env = putA as (o.set i .no) ts (env.set i t.ow) := rfl
theorem e_ptR_i {c : Str} {u : List (Str × T)} {i : Nat} {t : T} {as : List Ag} {o ts env : Env} : ptR (some (.ins c u)) i as o t ts env = putA as (o.set i .no) ts (env.set i t.ow) := rfl
theorem e_ptV_d {d : D} {i : Nat} {as : List Ag} {o ts env : Env} : ptV (some (.dat d)) i as o ts env = putA as o ts env := rfl
theorem e_ptV_v {u : T} {i : Nat} {as : List Ag} {o ts env : Env} : ptV (some (.vw u)) i as o ts env = putA as o ts env := rfl
theorem e_ptV_l {u : List T} {i : Nat} {as : List Ag} {o ts env : Env} : ptV (some (.lst u)) i as o ts env = putA as (o.set i .no) ts (env.set i (.lst u)) := rfl
theorem e_ptV_i {c : Str} {u : List (Str × T)} {i : Nat} {as : List Ag} {o ts env : Env} : ptV (some (.ins c u)) i as o ts env = putA as (o.set i .no) ts (env.set i (.ins c u)) := rfl
theorem e_ow_l {u : List T} : (T.lst u).ow = .lst u := rfl
theorem e_ow_i {c : Str} {u : List (Str × T)} : (T.ins c u).ow = .ins c u := rfl
theorem e_ow_d {d : D} : (T.dat d).ow = .dat d := rfl
/-! ### statements -/
def sq (r : RS) (b : FS) : RS := match r with
  | .nx e => b e
  | r => r
theorem e_fSeq {a b : FS} {env : Env} : fSeq a b env = sq (a env) b := rfl
theorem e_sq {b : FS} {env : Env} : sq (.nx env) b = b env := rfl
theorem e_sq_r {b : FS} {t : T} {env : Env} : sq (.ret t env) b = .ret t env := rfl
theorem e_sq_b {b : FS} {env : Env} : sq (.bk env) b = .bk env := rfl
theorem e_sq_c {b : FS} {env : Env} : sq (.ct env) b = .ct env := rfl
theorem e_sq_x {b : FS} {x : Exc} {env : Env} : sq (.exc x env) b = .exc x env := rfl
theorem e_sq_if {p : Prop} [Decidable p] {x y : RS} {b : FS} : sq (if p then x else y) b = if p then sq x b else sq y b := by split <;> rfl
theorem e_bindS {α : Type} {a : α} {env : Env} {k : α → Env → RS} : (R.ok a env).bindS k = k a env := rfl
theorem e_bindS_if {α : Type} {p : Prop} [Decidable p] {x y : R α} {k : α → Env → RS} : (if p then x else y).bindS k = if p then x.bindS k else y.bindS k := by split <;> rfl
theorem e_bind_if {α β : Type} {p : Prop} [Decidable p] {x y : R α} {k : α → Env → R β} : (if p then x else y).bind k = if p then x.bind k else y.bind k := by split <;> rfl
theorem e_rD_if {α : Type} {p : Prop} [Decidable p] {x y : R T} {k : D → Env → R α} : rD (if p then x else y) k = if p then rD x k else rD y k := by split <;> rfl
def kSet (i : Nat) (t : T) (env : Env) : RS := .nx (env.set i t)
def kRet (t : T) (env : Env) : RS := .ret t env
def kExp (t : T) (env : Env) : RS := .nx env
def kIfS (a b : FS) (k : Bool) (env : Env) : RS := if k = true then a env else b env
theorem e_fSet {i : Nat} {f : FT} {env : Env} : fSet i f env = (f env).bindS (kSet i) := rfl
theorem e_kSet {i : Nat} {t : T} {env : Env} : kSet i t env = .nx (env.set i t) := rfl
theorem e_fRet {f : FT} {env : Env} : fRet f env = (f env).bindS kRet := rfl
theorem e_kRet {t : T} {env : Env} : kRet t env = .ret t env := rfl
theorem e_fExp {f : FT} {env : Env} : fExp f env = (f env).bindS kExp := rfl
theorem e_kExp {t : T} {env : Env} : kExp t env = .nx env := rfl
theorem e_fIfS {c : FB} {a b : FS} {env : Env} : fIfS c a b env = (c env).bindS (kIfS a b) := rfl
theorem e_kIfS {a b : FS} {k : Bool} {env : Env} : kIfS a b k env = if k = true then a env else b env := rfl
theorem e_fNx {env : Env} : fNx env = .nx env := rfl
theorem e_fRetN {env : Env} : fRetN env = .ret (.dat .non) env := rfl
def stIx (i : Nat) (te : T) (e1 : Env) (g : T → List T → Option (T × T)) (o : Option (T × Pth × T)) (k : Option D) : RS := match o, k with
  | some (t, p, t'), some k => (match g t' [.dat k, te] with
    | some (t'', _) => .nx (e1.set i (T.pPut t'' p t))
    | none => .stuck)
  | _, _ => .stuck
def kSetIx (i : Nat) (q : FQ) (pj : FP) (g : T → List T → Option (T × T)) (te : T) (e1 : Env) : RS := stIx i te e1 g (plc i q e1) ((pj e1).bind T.datO)
theorem e_fSetIx {i : Nat} {q : FQ} {pj : FP} {fe : FT} {g : T → List T → Option (T × T)} {env : Env} : fSetIx i q pj fe g env = (fe env).bindS (kSetIx i q pj g) := rfl
theorem e_kSetIx {i : Nat} {q : FQ} {pj : FP} {g : T → List T → Option (T × T)} {te : T} {e1 : Env} : kSetIx i q pj g te e1 = stIx i te e1 g (plc i q e1) ((pj e1).bind T.datO) := rfl
def stR (i : Nat) (e1 : Env) (t : T) (p : Pth) (o : Option (T × T)) : RS := match o with
  | some (t'', _) => .nx (e1.set i (T.pPut t'' p t))
  | none => .stuck
theorem e_stIx {i : Nat} {te : T} {e1 : Env} {g : T → List T → Option (T × T)} {t t' : T} {p : Pth} {k : D} : stIx i te e1 g (some (t, p, t')) (some k) = stR i e1 t p (g t' [.dat k, te]) := rfl
theorem e_stR {i : Nat} {e1 : Env} {t t'' r : T} {p : Pth} : stR i e1 t p (some (t'', r)) = .nx (e1.set i (T.pPut t'' p t)) := rfl
theorem e_plcV {i : Nat} {env : Env} {t : T} (h : env[i]? = some t) (ho : t.own = true) : plc i qV env = some (t, [], t) := by
  unfold plc
  rw [h]
  show (if t.own = true then some (t, ([] : Pth), t) else none) = _
  rw [if_pos ho]
def plcO (o : Option T) (o' : Option Pth) : Option (T × Pth × T) := o.bind fun t => o'.bind fun p => (t.pAt p).bind fun t' => if t'.own = true then some (t, p, t') else none
theorem e_plc {i : Nat} {q : FQ} {env : Env} : plc i q env = plcO env[i]? (q env) := rfl
theorem e_qV {env : Env} : qV env = some [] := rfl
theorem e_plcO_l {ts : List T} : plcO (some (.lst ts)) (some []) = some (.lst ts, [], .lst ts) := rfl
theorem e_plcO_i {c : Str} {ts : List (Str × T)} : plcO (some (.ins c ts)) (some []) = some (.ins c ts, [], .ins c ts) := rfl
theorem e_put0 {x t : T} : T.pPut x [] t = x := rfl
def stO (ts : List T) (t : T) (o : Option Nat) : Option (T × T) := o.map fun n => (.lst (ts.set n t), .dat .non)
theorem e_setL {ts : List T} {k : Int} {t : T} : gSetL (.lst ts) [.dat (.int k), t] = stO ts t (ixN ts.length k) := rfl
theorem e_stO {ts : List T} {n : Nat} {t : T} : stO ts t (some n) = some (.lst (ts.set n t), .dat .non) := rfl
theorem e_ixN0 {n : Nat} : ixN n 0 = if 0 < n then some 0 else none := ixN_nat' (j := 0)
theorem e_ixN1 {n : Nat} : ixN n 1 = if 1 < n then some 1 else none := ixN_nat' (j := 1)
theorem e_ixN2 {n : Nat} : ixN n 2 = if 2 < n then some 2 else none := ixN_nat' (j := 2)
theorem e_ixN3 {n : Nat} : ixN n 3 = if 3 < n then some 3 else none := ixN_nat' (j := 3)
theorem e_ixN4 {n : Nat} : ixN n 4 = if 4 < n then some 4 else none := ixN_nat' (j := 4)
theorem e_ixN5 {n : Nat} : ixN n 5 = if 5 < n then some 5 else none := ixN_nat' (j := 5)
theorem e_datO {d : D} : (T.dat d).datO = some d := rfl
theorem run_ret {kp : List Nat} {n m : Nat} {b : FS} {ts : List T} {t : T} {env : Env} (h : b (ts ++ List.replicate m .no) = .ret t env) : runF kp n m b ts = .ok t (keepE kp n env) := by
  unfold runF
  rw [h]
theorem run_nx {kp : List Nat} {n m : Nat} {b : FS} {ts : List T} {env : Env} (h : b (ts ++ List.replicate m .no) = .nx env) : runF kp n m b ts = .ok (.dat .non) (keepE kp n env) := by
  unfold runF
  rw [h]
/-! ### loops -/
def kIt (d : D) (env : Env) : R (List D) := opt (itD d) env
theorem e_fIt {f : FT} {env : Env} : fIt f env = rD (f env) kIt := rfl
theorem e_kIt {d : D} {env : Env} : kIt d env = opt (itD d) env := rfl
theorem e_itD_l {ds : List D} : itD (.lst ds) = some ds := rfl
theorem e_itD_s {ds : List D} : itD (.scr ds) = some ds := rfl
theorem e_itD_t {ds : List D} : itD (.tup ds) = some ds := rfl
theorem e_itD_z {z : Str} : itD (.str z) = some (z.cps.toList.map fun c => .str ⟨#[c]⟩) := rfl
def kRg1 (d : D) (env : Env) : R (List D) := match d with
  | .int j => if -(2 ^ 62) ≤ j ∧ j < 2 ^ 62 then .ok (rngD 0 j.toNat) env else .stuck
  | _ => .stuck
theorem e_fRg1 {f : FT} {env : Env} : fRg1 f env = rD (f env) kRg1 := rfl
theorem e_kRg1 {j : Int} {env : Env} (h : -(2 ^ 62) ≤ j ∧ j < 2 ^ 62) : kRg1 (.int j) env = .ok (rngD 0 j.toNat) env := if_pos h
def kFor (t : Tg) (b : FS) (ds : List D) (env : Env) : RS := forL t b ds env
theorem e_fFor {fi : FI} {t : Tg} {b : FS} {env : Env} : fFor fi t b env = (fi env).bindS (kFor t b) := rfl
theorem e_kFor {t : Tg} {b : FS} {ds : List D} {env : Env} : kFor t b ds env = forL t b ds env := rfl
def kLc2 (vs : List Nat) (e1 : Env) (ts : List T) (e2 : Env) : R T := .ok (.lst ts) (restE e1 e2 vs)
def kLc (vs : List Nat) (t : Tg) (tst : FB) (elt : FT) (ds : List D) (e1 : Env) : R T := if okW vs e1 = true then (lcL t tst elt vs ds [] (wipeE e1 vs)).bind (kLc2 vs e1) else .stuck
theorem e_fLc {vs : List Nat} {fi : FI} {t : Tg} {tst : FB} {elt : FT} {env : Env} : fLc vs fi t tst elt env = (fi env).bind (kLc vs t tst elt) := rfl
theorem e_kLc {vs : List Nat} {t : Tg} {tst : FB} {elt : FT} {ds : List D} {e1 : Env} (h : okW vs e1 = true) : kLc vs t tst elt ds e1 = (lcL t tst elt vs ds [] (wipeE e1 vs)).bind (kLc2 vs e1) := if_pos h
theorem e_kLc2 {vs : List Nat} {e1 : Env} {ts : List T} {e2 : Env} : kLc2 vs e1 ts e2 = .ok (.lst ts) (restE e1 e2 vs) := rfl
theorem e_wipe0 {env : Env} : wipeE env [] = env := rfl
theorem e_wipe {env : Env} {v : Nat} {vs : List Nat} : wipeE env (v :: vs) = (wipeE env vs).set v .no := rfl
def rstO (o : Env) (env : Env) (v : Nat) (vs : List Nat) (x : Option T) : Env := restE o (match x with
  | some t => env.set v t
  | none => env) vs
theorem e_rest0 {o env : Env} : restE o env [] = env := rfl
theorem e_rest {o env : Env} {v : Nat} {vs : List Nat} : restE o env (v :: vs) = rstO o env v vs o[v]? := rfl
theorem e_rstO {o env : Env} {v : Nat} {vs : List Nat} {t : T} : rstO o env v vs (some t) = restE o (env.set v t) vs := rfl
theorem e_put_nm {i : Nat} {d : D} {env : Env} : Tg.put (.nm i) d env = some (env.set i (.dat d)) := rfl
theorem e_okW0 {env : Env} : okW [] env = true := rfl
theorem e_okW {v : Nat} {vs : List Nat} {env : Env} : okW (v :: vs) env = (slotOk env[v]? && okW vs env) := rfl
theorem e_slotOk {d : D} : slotOk (some (.dat d)) = true := rfl
theorem e_slotOkN : slotOk (some .no) = true := rfl
theorem mem_cutD {ds : List D} {l u : Option Int} {d : D} (h : d ∈ cutD ds l u) : d ∈ ds := List.mem_of_mem_drop (List.mem_of_mem_take h)
theorem cutD_map {α : Type} {f : α → D} {xs : List α} {l u : Option Int} : cutD (xs.map f) l u = ((xs.drop (HT.sIx xs.length 0 l)).take (HT.sIx xs.length xs.length u - HT.sIx xs.length 0 l)).map f := by
  unfold cutD
  rw [List.length_map, ← List.map_drop, ← List.map_take]
theorem for_inv {I : Env → Prop} {t : Tg} {b : FS} : ∀ {ds : List D} {env : Env}, (∀ d, d ∈ ds → ∀ e, I e → ∃ e1 e2, t.put d e = some e1 ∧ (b e1 = .nx e2 ∨ b e1 = .ct e2) ∧ I e2) → I env → ∃ e', forL t b ds env = .nx e' ∧ I e'
  | [], env, _, h => ⟨env, rfl, h⟩
  | d :: ds, env, k, h => by
    obtain ⟨e1, e2, h1, h2, h3⟩ := k d List.mem_cons_self env h
    obtain ⟨e', h4, h5⟩ := for_inv (fun d z => k d (List.mem_cons_of_mem _ z)) h3
    refine ⟨e', ?_, h5⟩
    unfold forL
    rw [h1]
    rcases h2 with h2 | h2
    · simp only [h2]; exact h4
    · simp only [h2]; exact h4
theorem lc_map {t : Tg} {elt : FT} {vs : List Nat} {env : Env} {F : D → T} : ∀ {ds : List D} {acc : List T}, (∀ d, d ∈ ds → ∃ e1 e2, t.put d env = some e1 ∧ elt e1 = .ok (F d) e2 ∧ wipeE e2 vs = env) → acc.length + ds.length ≤ sizeLine →
    lcL t fYes elt vs ds acc env = .ok (acc ++ ds.map F) env
  | [], acc, _, _ => by
    show R.ok acc env = _
    simp
  | d :: ds, acc, k, hl => by
    obtain ⟨e1, e2, h1, h2, h3⟩ := k d List.mem_cons_self
    have hl' : acc.length < sizeLine := by rw [List.length_cons] at hl; omega
    show (match t.put d env with
      | none => R.stuck
      | some e => (fYes e).bindN fun k e => if k = true then (elt e).bindN fun t' e => if acc.length < sizeLine then lcL t fYes elt vs ds (acc ++ [t']) (wipeE e vs) else .stuck
        else lcL t fYes elt vs ds acc (wipeE e vs)) = _
    rw [h1]
    show ((elt e1).bindN fun t' e => if acc.length < sizeLine then lcL t fYes elt vs ds (acc ++ [t']) (wipeE e vs) else .stuck) = _
    rw [h2]
    show (if acc.length < sizeLine then lcL t fYes elt vs ds (acc ++ [F d]) (wipeE e2 vs) else .stuck) = _
    rw [if_pos hl', h3, lc_map (fun d z => k d (List.mem_cons_of_mem _ z)) (by rw [List.length_append, List.length_singleton]; rw [List.length_cons] at hl; omega)]
    simp
theorem lc_inv {I : Env → Prop} {C : T → Prop} {t : Tg} {elt : FT} {vs : List Nat} : ∀ {ds : List D} {acc : List T} {env : Env}, (∀ d, d ∈ ds → ∀ e, I e → ∃ e1 e2 u, t.put d e = some e1 ∧ elt e1 = .ok u e2 ∧ C u ∧ I (wipeE e2 vs)) → I env → acc.length + ds.length ≤ sizeLine →
    ∃ us e', lcL t fYes elt vs ds acc env = .ok (acc ++ us) e' ∧ us.length = ds.length ∧ (∀ u, u ∈ us → C u) ∧ I e'
  | [], acc, env, _, h, _ => ⟨[], env, by rw [List.append_nil]; rfl, rfl, (fun _ z => (List.not_mem_nil z).elim), h⟩
  | d :: ds, acc, env, k, h, hl => by
    obtain ⟨e1, e2, u, h1, h2, hc, h3⟩ := k d List.mem_cons_self env h
    have hl' : acc.length < sizeLine := by rw [List.length_cons] at hl; omega
    obtain ⟨us, e', q1, q2, q3, q4⟩ := lc_inv (acc := acc ++ [u]) (fun d z => k d (List.mem_cons_of_mem _ z)) h3 (by rw [List.length_append, List.length_singleton]; rw [List.length_cons] at hl; omega)
    refine ⟨u :: us, e', ?_, by rw [List.length_cons, List.length_cons, q2], fun x z => ?_, q4⟩
    · show (match t.put d env with
        | none => R.stuck
        | some e => (fYes e).bindN fun k e => if k = true then (elt e).bindN fun t' e => if acc.length < sizeLine then lcL t fYes elt vs ds (acc ++ [t']) (wipeE e vs) else .stuck
          else lcL t fYes elt vs ds acc (wipeE e vs)) = _
      rw [h1]
      show ((elt e1).bindN fun t' e => if acc.length < sizeLine then lcL t fYes elt vs ds (acc ++ [t']) (wipeE e vs) else .stuck) = _
      rw [h2]
      show (if acc.length < sizeLine then lcL t fYes elt vs ds (acc ++ [u]) (wipeE e2 vs) else .stuck) = _
      rw [if_pos hl', q1, List.append_assoc]
      rfl
    · rcases List.mem_cons.mp z with z | z
      · rw [z]; exact hc
      · exact q3 x z
theorem lc_gen {α : Type} {i : Nat} {elt : FT} {env : Env} {inj : α → D} {h : α → T} : ∀ {xs : List α} {acc : List T}, (∀ x, x ∈ xs → ∃ e2, elt (env.set i (.dat (inj x))) = .ok (h x) e2 ∧ e2.set i .no = env) → acc.length + xs.length ≤ sizeLine →
    lcL (.nm i) fYes elt [i] (xs.map inj) acc env = .ok (acc ++ xs.map h) env
  | [], acc, _, _ => by
    show R.ok acc env = _
    simp
  | x :: xs, acc, k, hl => by
    obtain ⟨e2, h2, h3⟩ := k x List.mem_cons_self
    have hl' : acc.length < sizeLine := by rw [List.length_cons] at hl; omega
    show ((elt (env.set i (.dat (inj x)))).bindN fun t' e => if acc.length < sizeLine then lcL (.nm i) fYes elt [i] (xs.map inj) (acc ++ [t']) (wipeE e [i]) else .stuck) = _
    rw [h2]
    show (if acc.length < sizeLine then lcL (.nm i) fYes elt [i] (xs.map inj) (acc ++ [h x]) (e2.set i .no) else .stuck) = _
    rw [if_pos hl', h3, lc_gen (fun y z => k y (List.mem_cons_of_mem _ z)) (by rw [List.length_append, List.length_singleton]; rw [List.length_cons] at hl; omega)]
    simp
theorem lc_txt {i : Nat} {elt : FT} {env : Env} {h : Nat → D} {z : Str} (k : ∀ c, c ∈ z.cps.toList → ∃ e2, elt (env.set i (.dat (.str ⟨#[c]⟩))) = .ok (.dat (h c)) e2 ∧ e2.set i .no = env) (hl : z.length ≤ sizeLine) :
    lcL (.nm i) fYes elt [i] (z.cps.toList.map fun c => .str ⟨#[c]⟩) [] env = .ok ((z.cps.toList.map h).map .dat) env := by
  have := lc_gen (acc := []) (inj := fun c => D.str ⟨#[c]⟩) (h := fun c => T.dat (h c)) (xs := z.cps.toList) k (by
    rw [List.length_nil, Nat.zero_add]
    exact hl)
  rw [this, List.map_map]
  rfl
theorem bls_map {α : Type} {p : α → Bool} : ∀ xs : List α, bls (xs.map fun c => D.bl (p c)) = some (xs.map p)
  | [] => rfl
  | x :: xs => by
    show (bls (xs.map fun c => D.bl (p c))).map _ = _
    rw [bls_map xs]
    rfl
theorem e_gAll {α : Type} {p : α → Bool} {xs : List α} : gAll [.lst (xs.map fun c => .bl (p c))] = some (.bl (xs.all p)) := by
  show (bls _).map _ = _
  rw [bls_map]
  show some (D.bl ((xs.map p).all id)) = _
  rw [List.all_map]
  rfl
theorem e_gAny {α : Type} {p : α → Bool} {xs : List α} : gAny [.lst (xs.map fun c => .bl (p c))] = some (.bl (xs.any p)) := by
  show (bls _).map _ = _
  rw [bls_map]
  show some (D.bl ((xs.map p).any id)) = _
  rw [List.any_map]
  rfl
theorem repr_of {d : D} {p : PyData} (h1 : d.py = some p) (h2 : SeqAt.shaped p = true ∧ p.showable = true ∧ p.shown.length ≤ sizeLine) : gRepr [d] = some (.str p.shown) := by
  show (match d.py with
    | some p => if SeqAt.shaped p = true ∧ p.showable = true ∧ p.shown.length ≤ sizeLine then some (D.str p.shown) else none
    | none => none) = _
  rw [h1]
  exact if_pos h2
theorem txs_map : ∀ zs : List Str, txs (zs.map .str) = some zs
  | [] => rfl
  | z :: zs => by
    show (txs (zs.map .str)).map _ = _
    rw [txs_map zs]
    rfl
theorem e_join {a : Str} {zs : List Str} (h : (zs.map (·.length)).sum + zs.length * a.length ≤ 16777216) : gJoin a (.lst (zs.map .str)) = some (.dat (.str (Txt.join a zs))) := by
  unfold gJoin
  simp only [txs_map]
  exact if_pos h
theorem cutS_len {z : Str} {l u : Option Int} : (cutS z l u).length ≤ z.length := by
  show ((z.cps.toList.drop _).take _).toArray.size ≤ z.cps.size
  rw [List.size_toArray, List.length_take, List.length_drop, Array.length_toList]
  omega
theorem rng_len {lo : Int} {n : Nat} : (rngD lo n).length = n := by
  unfold rngD
  rw [List.length_map, List.length_range]
end L3
namespace K01
open PySem PySem.Spec L2 L3
def top (i : Nat) : Stmt := PySem.Challenge.pw_lostways_k01_names_of_letters.main.body.getD i (.Pass ⟨0, 0, 0, 0⟩)
abbrev s_is_name : Stmt := top 3
abbrev s_law_source : Stmt := top 5
abbrev s_law_draw : Stmt := top 6
abbrev s_law_same : Stmt := top 8
abbrev s_law_is_name : Stmt := top 10
abbrev s_law_of : Stmt := top 7
abbrev s_law_word : Stmt := top 9
abbrev s_law_bad_name : Stmt := top 11
abbrev s_law : Stmt := top 12
def d_is_name : He.DefD := ⟨(("is_name" : Str), none), ("is_name" : Str), ("is_name" : Str), defArgs s_is_name, defBody s_is_name, defScope s_is_name, [], []⟩
def d_law_source : He.DefD := ⟨(("_law_source" : Str), none), ("_law_source" : Str), ("_law_source" : Str), defArgs s_law_source, defBody s_law_source, defScope s_law_source, [], []⟩
def d_law_draw : He.DefD := ⟨(("_law_draw" : Str), none), ("_law_draw" : Str), ("_law_draw" : Str), defArgs s_law_draw, defBody s_law_draw, defScope s_law_draw, [], []⟩
def d_law_same : He.DefD := ⟨(("_law_same" : Str), none), ("_law_same" : Str), ("_law_same" : Str), defArgs s_law_same, defBody s_law_same, defScope s_law_same, [], []⟩
def d_law_is_name : He.DefD := ⟨(("_law_is_name" : Str), none), ("_law_is_name" : Str), ("_law_is_name" : Str), defArgs s_law_is_name, defBody s_law_is_name, defScope s_law_is_name, [], []⟩
def d_law_of : He.DefD := ⟨(("_law_of" : Str), none), ("_law_of" : Str), ("_law_of" : Str), defArgs s_law_of, defBody s_law_of, defScope s_law_of, [], []⟩
def d_law_word : He.DefD := ⟨(("_law_word" : Str), none), ("_law_word" : Str), ("_law_word" : Str), defArgs s_law_word, defBody s_law_word, defScope s_law_word, [], []⟩
def d_law_bad_name : He.DefD := ⟨(("_law_bad_name" : Str), none), ("_law_bad_name" : Str), ("_law_bad_name" : Str), defArgs s_law_bad_name, defBody s_law_bad_name, defScope s_law_bad_name, [], []⟩
def d_law : He.DefD := ⟨(("law" : Str), none), ("law" : Str), ("law" : Str), defArgs s_law, defBody s_law, defScope s_law, [], []⟩
def defs : List He.DefD := [d_is_name, d_law_source, d_law_draw, d_law_same, d_law_is_name, d_law_of, d_law_word, d_law_bad_name, d_law]
def facts : List He.Fa := [.free ("len" : Str), .int ("LONGEST" : Str) (8), .str ("LETTERS" : Str) ("abcdefghijklmnopqrstuvwxyz" : Str), .free ("all" : Str), .free ("int" : Str), .free ("list" : Str), .free ("repr" : Str), .glo ("_law_draw" : Str), .free ("range" : Str), .glo ("_law_of" : Str), .glo ("_law_source" : Str), .glo ("_law_word" : Str), .glo ("_law_bad_name" : Str), .glo ("_law_same" : Str), .glo ("is_name" : Str), .glo ("_law_is_name" : Str), .glo ("law" : Str)]
/-! ### is_name -/
def c_is_name_1 : FT := fP (p2 gIn (pV 1) (pC (.str ("abcdefghijklmnopqrstuvwxyz" : Str))))
def b_is_name : FS := fRet (fIf (fB (fP (pChain gLeX gLeX (pC (.int (1))) (pBC gLen [pV 0]) (pC (.int (8)))))) (fBC (dtC gAll) [fLc [1] (fIt (fV 0)) (.nm 1) fYes c_is_name_1]) (fC (.bl false)))
def g_is_name : FT := runF [0] 1 1 b_is_name
theorem sc_is_name : FnScope [("text" : Str), ("sign" : Str)] [("text" : Str)] (defScope s_is_name) := ⟨rfl, rfl, rfl, by decide +kernel, rfl, by decide +kernel, by decide +kernel⟩
theorem fn_is_name {P : Program} {w : World} {K : Frg} {mg : MG} {base : Heap} {fd : FuncData} (A : Ctx facts defs K mg) (F : FunD K d_is_name.name d_is_name.qual d_is_name.params d_is_name.body d_is_name.scope (d_is_name.dvs K) (d_is_name.kws K) (He.fAd K d_is_name.at_) fd) : FnG P w K mg base 1 (He.fAd K (("is_name" : Str), none)) fd [("text" : Str)] (spF K mg 1 g_is_name) := by
  refine fn_ok (k := 0) F sc_is_name rfl rfl (by decide) fun cdv AA outer s H E kit => ?_
  exact ss_one (s_ret (t_and (t_p (p_chain opLe opLe lsLe lsLe (p_int) (p_callB call_len3 ls_len rfl (A.free 0) boot_len (ap_cons (v_p 0) (ap_nil))) (p_gint (A.int 1)))) (t_one (t_callB (cr_all kit.calm) ls_all.lk rfl (A.free 3) (by decide +kernel) (a_cons (t_lc (own := [(("sign" : Str), 1)]) kit (i_t (v_f 0)) (by rfl) (bk_of kit (fun _ _ _ _ _ kit => g_v 1 kit.nd) (fun _ _ _ _ _ kit => if_nil) (fun _ _ _ _ _ kit => t_p (p_cmp (opIn kit.hu65) lsIn (v_p 1) (p_gstr (A.str 2)) (by with_unfolding_all rfl))))) (a_nil))))))
theorem ok_is_name {P : Program} {w : World} {K : Frg} {mg : MG} {base : Heap} (A : Ctx facts defs K mg) : FnB P w K mg base 1 (He.fAd K (("is_name" : Str), none)) [("text" : Str)] 1 g_is_name := by
  obtain ⟨fd, F⟩ := A.def_ 0 (d := d_is_name)
  exact ⟨fd, fn_is_name A F, FunD.bindsN (ps := [("text" : Str)]) F fun _ _ _ _ _ _ us hl => match us, hl with | [_], _ => rfl, F.kp⟩
/-! ### _law_source -/
def l_law_source_1 : FS := fSet 1 (fP (p2 gModI (pBC gInt [p2 gAdd (p2 gAdd (p2 gMul (pV 1) (pC (.int (50111)))) (p2 gModI (pBC gInt [pV 2]) (pC (.int (2147483563))))) (pC (.int (31)))]) (pC (.int (2147483629)))))
def b_law_source : FS := fSeq (fSet 1 (fP (pC (.int (5758)))))
  (fSeq (fFor (fIt (fSl gSl (fV 0) (none) (some (fP (pC (.int (63))))))) (.nm 2) l_law_source_1)
  (fRet (fLst (fAt (fBC gListOf [fSl gSl (fV 0) (none) (some (fP (pC (.int (63)))))]) (fAt (fP (pC (.int (0)))) (fAt (fP (pC (.int (0)))) (fAt (fV 1) (fAt (fP (pC (.int (0)))) (fAnil)))))))))
def g_law_source : FT := runF [0] 1 2 b_law_source
theorem sc_law_source : FnScope [("_law_script" : Str), ("_law_seed" : Str), ("_law_cell" : Str)] [("_law_script" : Str)] (defScope s_law_source) := ⟨rfl, rfl, rfl, by decide +kernel, rfl, by decide +kernel, by decide +kernel⟩
theorem fn_law_source {P : Program} {w : World} {K : Frg} {mg : MG} {base : Heap} {fd : FuncData} (A : Ctx facts defs K mg) (F : FunD K d_law_source.name d_law_source.qual d_law_source.params d_law_source.body d_law_source.scope (d_law_source.dvs K) (d_law_source.kws K) (He.fAd K d_law_source.at_) fd) : FnG P w K mg base 1 (He.fAd K (("_law_source" : Str), none)) fd [("_law_script" : Str)] (spF K mg 1 g_law_source) := by
  refine fn_ok (k := 0) F sc_law_source rfl rfl (by decide) fun cdv AA outer s H E kit => ?_
  exact ss_cons (s_put 1 kit (t_p (p_int)))
    (ss_cons (s_for kit (i_t (t_slice (v_f 0) o_none (o_some (t_p (p_int))))) (g_v 2 kit.nd)
    (ss_one (s_put 1 kit (t_p (p_op op_mod ls_modI (p_callTy call_int1 ls_int rfl (A.free 4) (by decide +kernel) (ap_cons (p_op opAdd lsAdd (p_op opAdd lsAdd (p_op opMul lsMul (v_p 1) (p_int)) (p_op op_mod ls_modI (p_callTy call_int1 ls_int rfl (A.free 4) (by decide +kernel) (ap_cons (v_p 2) (ap_nil))) (p_int))) (p_int)) (ap_nil))) (p_int))))))
    (ss_one (s_ret (t_lst (aa_t (t_callTy call_list_of lk_list rfl (A.free 5) (by decide +kernel) (a_cons (t_slice (v_f 0) o_none (o_some (t_p (p_int)))) (a_nil))) (aa_t (t_p (p_int)) (aa_t (t_p (p_int)) (aa_t (v_f 1) (aa_t (t_p (p_int)) (aa_nil))))))))))
theorem ok_law_source {P : Program} {w : World} {K : Frg} {mg : MG} {base : Heap} (A : Ctx facts defs K mg) : FnB P w K mg base 1 (He.fAd K (("_law_source" : Str), none)) [("_law_script" : Str)] 1 g_law_source := by
  obtain ⟨fd, F⟩ := A.def_ 1 (d := d_law_source)
  exact ⟨fd, fn_law_source A F, FunD.bindsN (ps := [("_law_script" : Str)]) F fun _ _ _ _ _ _ us hl => match us, hl with | [_], _ => rfl, F.kp⟩
/-! ### _law_draw -/
def i_law_draw_1 : FS := fIfS (fAnd (fB (fP (p2 gLtX (pIx (pV 0) (pC (.int (2)))) (pV 1)))) (fB (fP (p2 gLtX (pIx (pV 0) (pC (.int (1)))) (pBC gLen [pIx (pV 0) (pC (.int (0)))])))))
  (fSeq (fSet 2 (fP (pIx (pIx (pV 0) (pC (.int (0)))) (pIx (pV 0) (pC (.int (1)))))))
  (fSeq (fSetIx 0 (qV) (pC (.int (1))) (fP (p2 gAdd (pIx (pV 0) (pC (.int (1)))) (pC (.int (1))))) gSetL)
  (fSeq (fSetIx 0 (qV) (pC (.int (3))) (fP (p2 gModI (pBC gInt [p2 gAdd (p2 gAdd (p2 gMul (pIx (pV 0) (pC (.int (3)))) (pC (.int (48299)))) (p2 gModI (pBC gInt [pV 2]) (pC (.int (2147483549))))) (pC (.int (19)))]) (pC (.int (2147483587))))) gSetL)
  (fSetIx 0 (qV) (pC (.int (2))) (fIf (fB (fP (p2 gGeX (pV 2) (p2 gPowI (pC (.int (10))) (pC (.int (18))))))) (fV 2) (fP (pC (.int (0))))) gSetL))))
  (fNx)
def i_law_draw_2 : FS := fIfS (fB (fP (p2 gGeX (pIx (pV 0) (pC (.int (2)))) (pV 1))))
  (fSeq (fSet 3 (fP (p2 gModI (pBC gInt [pIx (pV 0) (pC (.int (2)))]) (pV 1))))
  (fSeq (fSetIx 0 (qV) (pC (.int (2))) (fP (p2 gDivI (pIx (pV 0) (pC (.int (2)))) (pV 1))) gSetL)
  (fRet (fTk 3))))
  (fNx)
def b_law_draw : FS := fSeq (i_law_draw_1)
  (fSeq (i_law_draw_2)
  (fSeq (fSetIx 0 (qV) (pC (.int (4))) (fP (p2 gAdd (pIx (pV 0) (pC (.int (4)))) (pC (.int (1))))) gSetL)
  (fSeq (fSet 4 (fP (p2 gModI (pBC gInt [p2 gAdd (pIx (pV 0) (pC (.int (3)))) (p2 gMul (pIx (pV 0) (pC (.int (4)))) (pC (.int (7919))))]) (pC (.int (2147483629))))))
  (fSeq (fSet 5 (fP (p2 gMul (p2 gModI (pBC gInt [p2 gMul (pV 4) (pV 4)]) (pC (.int (2147483579)))) (p2 gAdd (p2 gModI (pBC gInt [pV 4]) (pC (.int (40013)))) (pC (.int (3)))))))
  (fSeq (fSetIx 0 (qV) (pC (.int (3))) (fP (p2 gModI (pBC gInt [p2 gAdd (p2 gAdd (pV 5) (p2 gMul (pC (.int (31039))) (pV 4))) (pC (.int (907)))]) (pC (.int (2147483587))))) gSetL)
  (fRet (fP (p2 gModI (pBC gInt [p2 gAdd (p2 gDivI (pIx (pV 0) (pC (.int (3)))) (pC (.int (71)))) (p2 gMul (p2 gModI (pBC gInt [pIx (pV 0) (pC (.int (3)))]) (pC (.int (9007)))) (pC (.int (41))))]) (pV 1)))))))))
def g_law_draw : FT := runF [0, 1] 2 4 b_law_draw
theorem sc_law_draw : FnScope [("_law_src" : Str), ("_law_many" : Str), ("_law_cell" : Str), ("_law_digit" : Str), ("_law_base8" : Str), ("_law_later8" : Str)] [("_law_src" : Str), ("_law_many" : Str)] (defScope s_law_draw) := ⟨rfl, rfl, rfl, by decide +kernel, rfl, by decide +kernel, by decide +kernel⟩
theorem fn_law_draw {P : Program} {w : World} {K : Frg} {mg : MG} {base : Heap} {fd : FuncData} (A : Ctx facts defs K mg) (F : FunD K d_law_draw.name d_law_draw.qual d_law_draw.params d_law_draw.body d_law_draw.scope (d_law_draw.dvs K) (d_law_draw.kws K) (He.fAd K d_law_draw.at_) fd) : FnG P w K mg base 1 (He.fAd K (("_law_draw" : Str), none)) fd [("_law_src" : Str), ("_law_many" : Str)] (spF K mg 2 g_law_draw) := by
  refine fn_ok (k := 0) F sc_law_draw rfl rfl (by decide) fun cdv AA outer s H E kit => ?_
  exact ss_cons (s_if (b_w (w_and (b_cmpP opLt lsLt (p_ix (v_p 0) (p_int) (fun _ _ => rfl)) (v_p 1) (nomark _)) (w_and1 (b_cmpP opLt lsLt (p_ix (v_p 0) (p_int) (fun _ _ => rfl)) (p_callB call_len3 ls_len rfl (A.free 0) boot_len (ap_cons (p_ix (v_p 0) (p_int) (fun _ _ => rfl)) (ap_nil))) (nomark _)))))
    (ss_cons (s_put 2 kit (t_p (p_ix (p_ix (v_p 0) (p_int) (fun _ _ => rfl)) (p_ix (v_p 0) (p_int) (fun _ _ => rfl)) (fun _ _ => rfl))))
    (ss_cons (s_setIx set_list lk_setL (v_q 0) (t_p (p_op opAdd lsAdd (p_ix (v_p 0) (p_int) (fun _ _ => rfl)) (p_int))) (p_int))
    (ss_cons (s_setIx set_list lk_setL (v_q 0) (t_p (p_op op_mod ls_modI (p_callTy call_int1 ls_int rfl (A.free 4) (by decide +kernel) (ap_cons (p_op opAdd lsAdd (p_op opAdd lsAdd (p_op opMul lsMul (p_ix (v_p 0) (p_int) (fun _ _ => rfl)) (p_int)) (p_op op_mod ls_modI (p_callTy call_int1 ls_int rfl (A.free 4) (by decide +kernel) (ap_cons (v_p 2) (ap_nil))) (p_int))) (p_int)) (ap_nil))) (p_int))) (p_int))
    (ss_one (s_setIx set_list lk_setL (v_q 0) (t_ifExp (b_cmpP opGe lsGe (v_p 2) (p_op op_pow ls_powI (p_int) (p_int)) (nomark _)) (v_f 2) (t_p (p_int))) (p_int))))))
    (ss_nil))
    (ss_cons (s_if (b_cmpP opGe lsGe (p_ix (v_p 0) (p_int) (fun _ _ => rfl)) (v_p 1) (nomark _))
    (ss_cons (s_put 3 kit (t_p (p_op op_mod ls_modI (p_callTy call_int1 ls_int rfl (A.free 4) (by decide +kernel) (ap_cons (p_ix (v_p 0) (p_int) (fun _ _ => rfl)) (ap_nil))) (v_p 1))))
    (ss_cons (s_setIx set_list lk_setL (v_q 0) (t_p (p_op op_fdiv ls_divI (p_ix (v_p 0) (p_int) (fun _ _ => rfl)) (v_p 1))) (p_int))
    (ss_one (s_ret (v_t 3)))))
    (ss_nil))
    (ss_cons (s_setIx set_list lk_setL (v_q 0) (t_p (p_op opAdd lsAdd (p_ix (v_p 0) (p_int) (fun _ _ => rfl)) (p_int))) (p_int))
    (ss_cons (s_put 4 kit (t_p (p_op op_mod ls_modI (p_callTy call_int1 ls_int rfl (A.free 4) (by decide +kernel) (ap_cons (p_op opAdd lsAdd (p_ix (v_p 0) (p_int) (fun _ _ => rfl)) (p_op opMul lsMul (p_ix (v_p 0) (p_int) (fun _ _ => rfl)) (p_int))) (ap_nil))) (p_int))))
    (ss_cons (s_put 5 kit (t_p (p_op opMul lsMul (p_op op_mod ls_modI (p_callTy call_int1 ls_int rfl (A.free 4) (by decide +kernel) (ap_cons (p_op opMul lsMul (v_p 4) (v_p 4)) (ap_nil))) (p_int)) (p_op opAdd lsAdd (p_op op_mod ls_modI (p_callTy call_int1 ls_int rfl (A.free 4) (by decide +kernel) (ap_cons (v_p 4) (ap_nil))) (p_int)) (p_int)))))
    (ss_cons (s_setIx set_list lk_setL (v_q 0) (t_p (p_op op_mod ls_modI (p_callTy call_int1 ls_int rfl (A.free 4) (by decide +kernel) (ap_cons (p_op opAdd lsAdd (p_op opAdd lsAdd (v_p 5) (p_op opMul lsMul (p_int) (v_p 4))) (p_int)) (ap_nil))) (p_int))) (p_int))
    (ss_one (s_ret (t_p (p_op op_mod ls_modI (p_callTy call_int1 ls_int rfl (A.free 4) (by decide +kernel) (ap_cons (p_op opAdd lsAdd (p_op op_fdiv ls_divI (p_ix (v_p 0) (p_int) (fun _ _ => rfl)) (p_int)) (p_op opMul lsMul (p_op op_mod ls_modI (p_callTy call_int1 ls_int rfl (A.free 4) (by decide +kernel) (ap_cons (p_ix (v_p 0) (p_int) (fun _ _ => rfl)) (ap_nil))) (p_int)) (p_int))) (ap_nil))) (v_p 1))))))))))
theorem ok_law_draw {P : Program} {w : World} {K : Frg} {mg : MG} {base : Heap} (A : Ctx facts defs K mg) : FnB P w K mg base 1 (He.fAd K (("_law_draw" : Str), none)) [("_law_src" : Str), ("_law_many" : Str)] 2 g_law_draw := by
  obtain ⟨fd, F⟩ := A.def_ 2 (d := d_law_draw)
  exact ⟨fd, fn_law_draw A F, FunD.bindsN (ps := [("_law_src" : Str), ("_law_many" : Str)]) F fun _ _ _ _ _ _ us hl => match us, hl with | [_, _], _ => rfl, F.kp⟩
/-! ### _law_same -/
def b_law_same : FS := fRet (f2 (dt2 gEqX) (fBC (dtC gRepr) [fV 0]) (fBC (dtC gRepr) [fV 1]))
def g_law_same : FT := runF [0, 1] 2 0 b_law_same
theorem sc_law_same : FnScope [("_law_found" : Str), ("_law_due" : Str)] [("_law_found" : Str), ("_law_due" : Str)] (defScope s_law_same) := ⟨rfl, rfl, rfl, by decide +kernel, rfl, by decide +kernel, by decide +kernel⟩
theorem fn_law_same {P : Program} {w : World} {K : Frg} {mg : MG} {base : Heap} {fd : FuncData} (A : Ctx facts defs K mg) (F : FunD K d_law_same.name d_law_same.qual d_law_same.params d_law_same.body d_law_same.scope (d_law_same.dvs K) (d_law_same.kws K) (He.fAd K d_law_same.at_) fd) : FnG P w K mg base 1 (He.fAd K (("_law_same" : Str), none)) fd [("_law_found" : Str), ("_law_due" : Str)] (spF K mg 2 g_law_same) := by
  refine fn_ok (k := 0) F sc_law_same rfl rfl (by decide) fun cdv AA outer s H E kit => ?_
  exact ss_one (s_ret (t_cmp (opEq kit.hu64) lsEq.lk (t_callB (call_repr kit) ls_repr.lk rfl (A.free 6) (by decide +kernel) (a_cons (v_f 0) (a_nil))) (t_callB (call_repr kit) ls_repr.lk rfl (A.free 6) (by decide +kernel) (a_cons (v_f 1) (a_nil))) (nomark _)))
theorem ok_law_same {P : Program} {w : World} {K : Frg} {mg : MG} {base : Heap} (A : Ctx facts defs K mg) : FnB P w K mg base 1 (He.fAd K (("_law_same" : Str), none)) [("_law_found" : Str), ("_law_due" : Str)] 2 g_law_same := by
  obtain ⟨fd, F⟩ := A.def_ 3 (d := d_law_same)
  exact ⟨fd, fn_law_same A F, FunD.bindsN (ps := [("_law_found" : Str), ("_law_due" : Str)]) F fun _ _ _ _ _ _ us hl => match us, hl with | [_, _], _ => rfl, F.kp⟩
/-! ### _law_is_name -/
def c_law_is_name_1 : FT := fP (p2 gIn (pV 1) (pC (.str ("abcdefghijklmnopqrstuvwxyz" : Str))))
def b_law_is_name : FS := fRet (fIf (fB (fP (pChain gLeX gLeX (pC (.int (1))) (pBC gLen [pV 0]) (pC (.int (8)))))) (fBC (dtC gAll) [fLc [1] (fIt (fV 0)) (.nm 1) fYes c_law_is_name_1]) (fC (.bl false)))
def g_law_is_name : FT := runF [0] 1 1 b_law_is_name
theorem sc_law_is_name : FnScope [("_law_text" : Str), ("_law_sign" : Str)] [("_law_text" : Str)] (defScope s_law_is_name) := ⟨rfl, rfl, rfl, by decide +kernel, rfl, by decide +kernel, by decide +kernel⟩
theorem fn_law_is_name {P : Program} {w : World} {K : Frg} {mg : MG} {base : Heap} {fd : FuncData} (A : Ctx facts defs K mg) (F : FunD K d_law_is_name.name d_law_is_name.qual d_law_is_name.params d_law_is_name.body d_law_is_name.scope (d_law_is_name.dvs K) (d_law_is_name.kws K) (He.fAd K d_law_is_name.at_) fd) : FnG P w K mg base 1 (He.fAd K (("_law_is_name" : Str), none)) fd [("_law_text" : Str)] (spF K mg 1 g_law_is_name) := by
  refine fn_ok (k := 0) F sc_law_is_name rfl rfl (by decide) fun cdv AA outer s H E kit => ?_
  exact ss_one (s_ret (t_and (t_p (p_chain opLe opLe lsLe lsLe (p_int) (p_callB call_len3 ls_len rfl (A.free 0) boot_len (ap_cons (v_p 0) (ap_nil))) (p_int))) (t_one (t_callB (cr_all kit.calm) ls_all.lk rfl (A.free 3) (by decide +kernel) (a_cons (t_lc (own := [(("_law_sign" : Str), 1)]) kit (i_t (v_f 0)) (by rfl) (bk_of kit (fun _ _ _ _ _ kit => g_v 1 kit.nd) (fun _ _ _ _ _ kit => if_nil) (fun _ _ _ _ _ kit => t_p (p_cmp (opIn kit.hu65) lsIn (v_p 1) (p_str) (by with_unfolding_all rfl))))) (a_nil))))))
theorem ok_law_is_name {P : Program} {w : World} {K : Frg} {mg : MG} {base : Heap} (A : Ctx facts defs K mg) : FnB P w K mg base 1 (He.fAd K (("_law_is_name" : Str), none)) [("_law_text" : Str)] 1 g_law_is_name := by
  obtain ⟨fd, F⟩ := A.def_ 4 (d := d_law_is_name)
  exact ⟨fd, fn_law_is_name A F, FunD.bindsN (ps := [("_law_text" : Str)]) F fun _ _ _ _ _ _ us hl => match us, hl with | [_], _ => rfl, F.kp⟩
/-! ### _law_of -/
def b_law_of : FS := fRet (f2 gIx (fV 1) (fCall g_law_draw (fDf [] (fArf 0 (fAt (fP (pBC gLen [pV 1])) (fAnil))))))
def g_law_of : FT := runF [0, 1] 2 0 b_law_of
theorem sc_law_of : FnScope [("_law_src" : Str), ("_law_some" : Str)] [("_law_src" : Str), ("_law_some" : Str)] (defScope s_law_of) := ⟨rfl, rfl, rfl, by decide +kernel, rfl, by decide +kernel, by decide +kernel⟩
theorem fn_law_of {P : Program} {w : World} {K : Frg} {mg : MG} {base : Heap} {fd : FuncData} (A : Ctx facts defs K mg) (F : FunD K d_law_of.name d_law_of.qual d_law_of.params d_law_of.body d_law_of.scope (d_law_of.dvs K) (d_law_of.kws K) (He.fAd K d_law_of.at_) fd) : FnG P w K mg base 2 (He.fAd K (("_law_of" : Str), none)) fd [("_law_src" : Str), ("_law_some" : Str)] (spF K mg 2 g_law_of) := by
  refine fn_ok (k := 1) F sc_law_of rfl rfl (by decide) fun cdv AA outer s H E kit => ?_
  exact ss_one (s_ret (t_ix (v_f 1) (c_call (kit.mono (by decide)) (ok_law_draw A) (A.glo 7) (a_rf 0 (aa_t (t_p (p_callB call_len3 ls_len rfl (A.free 0) boot_len (ap_cons (v_p 1) (ap_nil)))) (aa_nil)))) (fun _ _ => rfl)))
theorem ok_law_of {P : Program} {w : World} {K : Frg} {mg : MG} {base : Heap} (A : Ctx facts defs K mg) : FnB P w K mg base 2 (He.fAd K (("_law_of" : Str), none)) [("_law_src" : Str), ("_law_some" : Str)] 2 g_law_of := by
  obtain ⟨fd, F⟩ := A.def_ 5 (d := d_law_of)
  exact ⟨fd, fn_law_of A F, FunD.bindsN (ps := [("_law_src" : Str), ("_law_some" : Str)]) F fun _ _ _ _ _ _ us hl => match us, hl with | [_, _], _ => rfl, F.kp⟩
/-! ### _law_word -/
def c_law_word_1 : FT := f2 gIx (fV 2) (fCall g_law_draw (fDf [] (fArf 0 (fAt (fP (pC (.int (26)))) (fAnil)))))
def b_law_word : FS := fSeq (fSet 2 (fP (pC (.str ("abcdefghijklmnopqrstuvwxyz" : Str)))))
  (fRet (fSm gJoin (fP (pC (.str ("" : Str)))) (fLc [3] (fRg1 (fV 1)) (.nm 3) fYes c_law_word_1)))
def g_law_word : FT := runF [0, 1] 2 2 b_law_word
theorem sc_law_word : FnScope [("_law_src" : Str), ("_law_many" : Str), ("_law_letters" : Str), ("_law_k" : Str)] [("_law_src" : Str), ("_law_many" : Str)] (defScope s_law_word) := ⟨rfl, rfl, rfl, by decide +kernel, rfl, by decide +kernel, by decide +kernel⟩
theorem fn_law_word {P : Program} {w : World} {K : Frg} {mg : MG} {base : Heap} {fd : FuncData} (A : Ctx facts defs K mg) (F : FunD K d_law_word.name d_law_word.qual d_law_word.params d_law_word.body d_law_word.scope (d_law_word.dvs K) (d_law_word.kws K) (He.fAd K d_law_word.at_) fd) : FnG P w K mg base 2 (He.fAd K (("_law_word" : Str), none)) fd [("_law_src" : Str), ("_law_many" : Str)] (spF K mg 2 g_law_word) := by
  refine fn_ok (k := 1) F sc_law_word rfl rfl (by decide) fun cdv AA outer s H E kit => ?_
  exact ss_cons (s_put 2 kit (t_p (p_str)))
    (ss_one (s_ret (t_join (t_p (p_str)) (t_lc (own := [(("_law_k" : Str), 3)]) kit (i_rng1 rfl (A.free 8) (v_f 1)) (by rfl) (bk_of kit (fun _ _ _ _ _ kit => g_v 3 kit.nd) (fun _ _ _ _ _ kit => if_nil) (fun _ _ _ _ _ kit => t_ix (v_f 2) (c_call (kit.mono (by decide)) (ok_law_draw A) (A.glo 7) (a_rf 0 (aa_t (t_p (p_int)) (aa_nil)))) (fun _ _ => rfl)))))))
theorem ok_law_word {P : Program} {w : World} {K : Frg} {mg : MG} {base : Heap} (A : Ctx facts defs K mg) : FnB P w K mg base 2 (He.fAd K (("_law_word" : Str), none)) [("_law_src" : Str), ("_law_many" : Str)] 2 g_law_word := by
  obtain ⟨fd, F⟩ := A.def_ 6 (d := d_law_word)
  exact ⟨fd, fn_law_word A F, FunD.bindsN (ps := [("_law_src" : Str), ("_law_many" : Str)]) F fun _ _ _ _ _ _ us hl => match us, hl with | [_, _], _ => rfl, F.kp⟩
/-! ### _law_bad_name -/
def b_law_bad_name : FS := fRet (fCall g_law_of (fDf [] (fArf 0 (fAt (fLst (fAt (fP (pC (.str ("" : Str)))) (fAt (fP (pC (.str ("A" : Str)))) (fAt (fP (pC (.str ("a b" : Str)))) (fAt (fP (pC (.str ("abcdefghi" : Str)))) (fAt (fP (pC (.str ("a1" : Str)))) (fAt (fP (pC (.str ("-" : Str)))) (fAt (fP (pC (.str ("none " : Str)))) (fAt (fP (p2 gMul (pC (.str ("z" : Str))) (pC (.int (9))))) (fAt (fP (pC (.str ("x_" : Str)))) (fAt (fP (pC (.str ("a\n" : Str)))) (fAnil)))))))))))) (fAnil)))))
def g_law_bad_name : FT := runF [0] 1 0 b_law_bad_name
theorem sc_law_bad_name : FnScope [("_law_src" : Str)] [("_law_src" : Str)] (defScope s_law_bad_name) := ⟨rfl, rfl, rfl, by decide +kernel, rfl, by decide +kernel, by decide +kernel⟩
theorem fn_law_bad_name {P : Program} {w : World} {K : Frg} {mg : MG} {base : Heap} {fd : FuncData} (A : Ctx facts defs K mg) (F : FunD K d_law_bad_name.name d_law_bad_name.qual d_law_bad_name.params d_law_bad_name.body d_law_bad_name.scope (d_law_bad_name.dvs K) (d_law_bad_name.kws K) (He.fAd K d_law_bad_name.at_) fd) : FnG P w K mg base 3 (He.fAd K (("_law_bad_name" : Str), none)) fd [("_law_src" : Str)] (spF K mg 1 g_law_bad_name) := by
  refine fn_ok (k := 2) F sc_law_bad_name rfl rfl (by decide) fun cdv AA outer s H E kit => ?_
  exact ss_one (s_ret (c_call (kit.mono (by decide)) (ok_law_of A) (A.glo 9) (a_rf 0 (aa_t (t_lst (aa_t (t_p (p_str)) (aa_t (t_p (p_str)) (aa_t (t_p (p_str)) (aa_t (t_p (p_str)) (aa_t (t_p (p_str)) (aa_t (t_p (p_str)) (aa_t (t_p (p_str)) (aa_t (t_p (p_op opMul lsMul (p_str) (p_int))) (aa_t (t_p (p_str)) (aa_t (t_p (p_str)) (aa_nil)))))))))))) (aa_nil)))))
theorem ok_law_bad_name {P : Program} {w : World} {K : Frg} {mg : MG} {base : Heap} (A : Ctx facts defs K mg) : FnB P w K mg base 3 (He.fAd K (("_law_bad_name" : Str), none)) [("_law_src" : Str)] 1 g_law_bad_name := by
  obtain ⟨fd, F⟩ := A.def_ 7 (d := d_law_bad_name)
  exact ⟨fd, fn_law_bad_name A F, FunD.bindsN (ps := [("_law_src" : Str)]) F fun _ _ _ _ _ _ us hl => match us, hl with | [_], _ => rfl, F.kp⟩
/-! ### law -/
def i_law_1 : FS := fIfS (fB (f2 (dt2 gEqX) (fCall g_law_draw (fDf [] (fArf 1 (fAt (fP (pC (.int (2)))) (fAnil))))) (fP (pC (.int (0))))))
  (fSeq (fSet 4 (fCall g_law_draw (fDf [] (fArf 1 (fAt (fP (p2 gAdd (pBC gLen [pV 3]) (pC (.int (1))))) (fAnil))))))
  (fSet 3 (f2 gAddT (f2 gAddT (fSl gSl (fV 3) (none) (some (fV 4))) (fCall g_law_of (fDf [] (fArf 1 (fAt (fLst (fAt (fP (pC (.str ("A" : Str)))) (fAt (fP (pC (.str ("Z" : Str)))) (fAt (fP (pC (.str (" " : Str)))) (fAt (fP (pC (.str ("0" : Str)))) (fAt (fP (pC (.str ("-" : Str)))) (fAt (fP (pC (.str ("_" : Str)))) (fAt (fP (pC (.str ("\n" : Str)))) (fAt (fP (pC (.str ("" : Str)))) (fAt (fP (pC (.str ("=" : Str)))) (fAt (fP (pC (.str ("+" : Str)))) (fAnil)))))))))))) (fAnil)))))) (fSl gSl (fV 3) (some (fV 4)) (none)))))
  (fNx)
def i_law_2 : FS := fIfS (fB (f2 (dt2 gEqX) (fCall g_law_draw (fDf [] (fArf 1 (fAt (fP (pC (.int (4)))) (fAnil))))) (fP (pC (.int (0))))))
  (fSet 3 (fCall g_law_bad_name (fDf [] (fArf 1 (fAnil)))))
  (fNx)
def i_law_3 : FS := fIfS (fNot (fB (fCall g_law_same (fDf [] (fAt (fCall g_is_name (fDf [] (fAvw 3 (fAnil)))) (fAt (fCall g_law_is_name (fDf [] (fAvw 3 (fAnil)))) (fAnil)))))))
  (fRet (fP (pC (.bl false))))
  (fNx)
def l_law_1 : FS := fSeq (fSet 3 (fCall g_law_word (fDf [] (fArf 1 (fAt (fCall g_law_draw (fDf [] (fArf 1 (fAt (fP (pC (.int (13)))) (fAnil))))) (fAnil))))))
  (fSeq (i_law_1)
  (fSeq (i_law_2)
  (i_law_3)))
def b_law : FS := fSeq (fSet 1 (fCall g_law_source (fDf [] (fAvw 0 (fAnil)))))
  (fSeq (fFor (fRg1 (fP (pC (.int (12))))) (.nm 2) l_law_1)
  (fRet (fCall g_law_same (fDf [] (fAt (fLst (fAt (fCall g_is_name (fDf [] (fAt (fP (pC (.str ("a" : Str)))) (fAnil)))) (fAt (fCall g_is_name (fDf [] (fAt (fP (pC (.str ("abcdefgh" : Str)))) (fAnil)))) (fAt (fCall g_is_name (fDf [] (fAt (fP (pC (.str ("abcdefghi" : Str)))) (fAnil)))) (fAt (fCall g_is_name (fDf [] (fAt (fP (pC (.str ("" : Str)))) (fAnil)))) (fAnil)))))) (fAt (fLst (fAt (fP (pC (.bl true))) (fAt (fP (pC (.bl true))) (fAt (fP (pC (.bl false))) (fAt (fP (pC (.bl false))) (fAnil)))))) (fAnil)))))))
def g_law : FT := runF [0] 1 4 b_law
theorem sc_law : FnScope [("_law_script" : Str), ("_law_src" : Str), ("_law_turn" : Str), ("_law_word_here" : Str), ("_law_at" : Str)] [("_law_script" : Str)] (defScope s_law) := ⟨rfl, rfl, rfl, by decide +kernel, rfl, by decide +kernel, by decide +kernel⟩
theorem fn_law {P : Program} {w : World} {K : Frg} {mg : MG} {base : Heap} {fd : FuncData} (A : Ctx facts defs K mg) (F : FunD K d_law.name d_law.qual d_law.params d_law.body d_law.scope (d_law.dvs K) (d_law.kws K) (He.fAd K d_law.at_) fd) : FnG P w K mg base 4 (He.fAd K (("law" : Str), none)) fd [("_law_script" : Str)] (spF K mg 1 g_law) := by
  refine fn_ok (k := 3) F sc_law rfl rfl (by decide) fun cdv AA outer s H E kit => ?_
  exact ss_cons (s_put 1 kit (c_call (kit.mono (by decide)) (ok_law_source A) (A.glo 10) (a_vw 0 (aa_nil))))
    (ss_cons (s_for kit (i_rng1 rfl (A.free 8) (t_p (p_int))) (g_v 2 kit.nd)
    (ss_cons (s_put 3 kit (c_call (kit.mono (by decide)) (ok_law_word A) (A.glo 11) (a_rf 1 (aa_t (c_call (kit.mono (by decide)) (ok_law_draw A) (A.glo 7) (a_rf 1 (aa_t (t_p (p_int)) (aa_nil)))) (aa_nil)))))
    (ss_cons (s_if (b_cmp (opEq kit.hu64) lsEq.lk (c_call (kit.mono (by decide)) (ok_law_draw A) (A.glo 7) (a_rf 1 (aa_t (t_p (p_int)) (aa_nil)))) (t_p (p_int)) (nomark _))
    (ss_cons (s_put 4 kit (c_call (kit.mono (by decide)) (ok_law_draw A) (A.glo 7) (a_rf 1 (aa_t (t_p (p_op opAdd lsAdd (p_callB call_len3 ls_len rfl (A.free 0) boot_len (ap_cons (v_p 3) (ap_nil))) (p_int))) (aa_nil)))))
    (ss_one (s_put 3 kit (t_op opAddT lkAddT (t_op opAddT lkAddT (t_slice (v_f 3) o_none (o_some (v_f 4))) (c_call (kit.mono (by decide)) (ok_law_of A) (A.glo 9) (a_rf 1 (aa_t (t_lst (aa_t (t_p (p_str)) (aa_t (t_p (p_str)) (aa_t (t_p (p_str)) (aa_t (t_p (p_str)) (aa_t (t_p (p_str)) (aa_t (t_p (p_str)) (aa_t (t_p (p_str)) (aa_t (t_p (p_str)) (aa_t (t_p (p_str)) (aa_t (t_p (p_str)) (aa_nil)))))))))))) (aa_nil))))) (t_slice (v_f 3) (o_some (v_f 4)) o_none)))))
    (ss_nil))
    (ss_cons (s_if (b_cmp (opEq kit.hu64) lsEq.lk (c_call (kit.mono (by decide)) (ok_law_draw A) (A.glo 7) (a_rf 1 (aa_t (t_p (p_int)) (aa_nil)))) (t_p (p_int)) (nomark _))
    (ss_one (s_put 3 kit (c_call (kit.mono (by decide)) (ok_law_bad_name A) (A.glo 12) (a_rf 1 (aa_nil)))))
    (ss_nil))
    (ss_one (s_if (b_not (b_t (c_call (kit.mono (by decide)) (ok_law_same A) (A.glo 13) (aa_t (c_call (kit.mono (by decide)) (ok_is_name A) (A.glo 14) (a_vw 3 (aa_nil))) (aa_t (c_call (kit.mono (by decide)) (ok_law_is_name A) (A.glo 15) (a_vw 3 (aa_nil))) (aa_nil))))))
    (ss_one (s_ret (t_p (p_bl))))
    (ss_nil)))))))
    (ss_one (s_ret (c_call (kit.mono (by decide)) (ok_law_same A) (A.glo 13) (aa_t (t_lst (aa_t (c_call (kit.mono (by decide)) (ok_is_name A) (A.glo 14) (aa_t (t_p (p_str)) (aa_nil))) (aa_t (c_call (kit.mono (by decide)) (ok_is_name A) (A.glo 14) (aa_t (t_p (p_str)) (aa_nil))) (aa_t (c_call (kit.mono (by decide)) (ok_is_name A) (A.glo 14) (aa_t (t_p (p_str)) (aa_nil))) (aa_t (c_call (kit.mono (by decide)) (ok_is_name A) (A.glo 14) (aa_t (t_p (p_str)) (aa_nil))) (aa_nil)))))) (aa_t (t_lst (aa_t (t_p (p_bl)) (aa_t (t_p (p_bl)) (aa_t (t_p (p_bl)) (aa_t (t_p (p_bl)) (aa_nil)))))) (aa_nil)))))))
theorem ok_law {P : Program} {w : World} {K : Frg} {mg : MG} {base : Heap} (A : Ctx facts defs K mg) : FnB P w K mg base 4 (He.fAd K (("law" : Str), none)) [("_law_script" : Str)] 1 g_law := by
  obtain ⟨fd, F⟩ := A.def_ 8 (d := d_law)
  exact ⟨fd, fn_law A F, FunD.bindsN (ps := [("_law_script" : Str)]) F fun _ _ _ _ _ _ us hl => match us, hl with | [_], _ => rfl, F.kp⟩
/-! ### the head -/
abbrev hk : PySem.W.Hook := He.hookD 4 facts defs
def ob (s : PySem.W.SharedT) : He.AlD := He.obsDG 4 facts defs (HandSHeadRun.getT s)
theorem ob_eq (s : PySem.W.SharedT) : ob s = hk.obs s.abs := He.obsDG_eq (HandSHeadRun.getT_eq s)
def loose : List PySem.Str := [("__name__" : Str), ("LETTERS" : Str), ("LONGEST" : Str), ("is_name" : Str), ("_law_source" : Str), ("_law_draw" : Str), ("_law_of" : Str), ("_law_same" : Str), ("_law_word" : Str), ("_law_is_name" : Str), ("_law_bad_name" : Str)]
theorem run (w : World) : HandSHeadRun.RunEq (PySem.W.OpenLaw.row PySem.Challenge.rw_lostways_k01_names_of_letters) (PySem.W.view (PySem.W.OpenLaw.row PySem.Challenge.rw_lostways_k01_names_of_letters).prog [12]) hk ob 400 loose w := by
  intro os
  kernel_rfl
end K01
namespace K01
open PySem PySem.Spec L2 L3
structure Src where
  cs : List Int
  i : Nat
  a : Int
  s : Int
  k : Int
def Src.t (x : Src) : T := .lst [.lst ((x.cs.map D.int).map .dat), .dat (.int (x.i : Int)), .dat (.int x.a), .dat (.int x.s), .dat (.int x.k)]
theorem draw_b (x : Src) (m : Int) (hm : 0 < m) (hm2 : m < 1073741824) : ∃ (r : Int) (x' : Src) (c d e f : T), 0 ≤ r ∧ r < m ∧ b_law_draw ([x.t, .dat (.int m)] ++ List.replicate 4 .no) = .ret (.dat (.int r)) [x'.t, .dat (.int m), c, d, e, f] := by
  obtain ⟨cs, i, a, s, k⟩ := x
  have b1 : ∀ z : Int, 0 ≤ z % m := fun z => Int.emod_nonneg z (by omega)
  have b2 : ∀ z : Int, z % m < m := fun z => Int.emod_lt_of_pos z hm
  unfold b_law_draw i_law_draw_1 i_law_draw_2 Src.t
  by_cases h1 : a < m
  · have h6 : ¬ m ≤ a := by omega
    by_cases h2 : i < cs.length
    · have h3 : cs[i]? = some cs[i] := List.getElem?_eq_getElem h2
      by_cases h4 : (1000000000000000000 : Int) ≤ cs[i]
      · have h5 : m ≤ cs[i] := by omega
        simp only [e_pV, e_pvO_dat, e_pvO_lst, e_pvO_tup, e_pvO_dic, e_pvO_ins, e_pvO_vw, e_pC, e_p1, e_p2, e_qD_dat, e_qD, e_qD_no, e_dz_vw, e_dz_dat, e_dz_lst, e_fz_lst, e_q1, e_q2, e_dO, e_pIx, e_qIx, e_ix_lst, e_ix_tup, e_ix_dlst, e_ix_dtup, e_ix_dscr, e_ix_vlst, e_ix_vtup, e_atI, e_atI0, e_atI1, e_atI2, e_atI3, e_atI4, e_atI5, e_atI6, e_pIf, e_qIf, e_pAnd, e_pOr, e_pChain, e_pDs_nil, e_pDs, e_qDs, e_pBC, e_qBC, e_addI, e_addS, e_subI, e_mulI_l, e_mulI_r, e_mulI_m, e_modI, e_divI, e_pow18, e_ltI, e_leI, e_gtI, e_geI, e_eqI, e_neI, e_eqS, e_neS, e_eqB, e_neB, e_not, e_neg, e_int, e_len_lst, e_len_scr, e_len_tup, e_len_str, e_inC, e_listOf_l, e_listOf_t, e_dtC, e_dt2, e_dt1, e_addT, e_addTI, e_addTS, e_mulT, e_fP, e_okP, e_fC, e_fV, e_okV, e_okV_l, e_fTk, e_okT, e_okT_l, e_okT_t, e_rD, e_rD_lst, e_rD_fz, e_f1, e_k1, e_f2, e_k2, e_k2b, e_opt, e_fDs_nil, e_fDs, e_kDs, e_kDc, e_bind, e_fBC, e_kBC, e_fIf, e_kIf, e_kFls, e_kTru, e_fAnd, e_fOr, e_fNot, e_kNot, e_fBv, e_kBv, e_fB, e_kB, e_fSl, e_kSl1, e_kSl2, e_kSl3, e_oI_none, e_oI, e_iR, e_gSl_str, e_gSl_lst, e_gSl_scr, e_fSm, e_kSm, e_kSm2, e_fAnil, e_fAt, e_kAt, e_kAc, e_fArf, e_fAvw, e_okA, e_kAg, e_fLst, e_fTup, e_kDsp, e_tms_nil, e_tms, e_tmO, e_dispT, e_fDf, e_kDf, e_fCall, e_callF, e_callT, e_callR, e_tkM, e_take_nil, e_take_tm, e_take_rf, e_take_vw, e_tkR_d, e_tkR_v, e_tkR_l, e_tkR_i, e_tkV_d, e_tkV_v, e_tkV_l, e_tkV_i, e_put_nil, e_put_tm, e_put_rf, e_put_vw, e_ptR_d, e_ptR_v, e_ptR_l, e_ptR_i, e_ptV_d, e_ptV_v, e_ptV_l, e_ptV_i, e_ow_l, e_ow_i, e_ow_d, e_fSeq, e_sq, e_sq_r, e_sq_b, e_sq_c, e_sq_x, e_sq_if, e_bindS, e_bindS_if, e_bind_if, e_rD_if, e_fSet, e_kSet, e_fRet, e_kRet, e_fExp, e_kExp, e_fIfS, e_kIfS, e_fNx, e_fRetN, e_fSetIx, e_kSetIx, e_stIx, e_stR, e_plc, e_qV, e_plcO_l, e_plcO_i, e_put0, e_setL, e_stO, e_ixN0, e_ixN1, e_ixN2, e_ixN3, e_ixN4, e_ixN5, e_datO, e_fIt, e_kIt, e_itD_l, e_itD_s, e_itD_t, e_itD_z, e_fRg1, e_kRg1, e_fFor, e_kFor, e_fLc, e_kLc, e_kLc2, e_wipe0, e_wipe, e_rest0, e_rest, e_rstO, e_put_nm, e_okW0, e_okW, e_slotOk, e_slotOkN, e_gAll, e_gAny, List.getElem?_cons_zero, List.getElem?_cons_succ, List.set_cons_zero, List.set_cons_succ, List.cons_append, List.nil_append, List.replicate, Option.map_some, Option.bind_some, decide_eq_true_eq, Bool.false_eq_true, if_true, if_false, and_true, true_and, and_self, List.length_map, List.length_cons, List.length_nil, List.getElem?_map, true_or, or_true, decide_true, decide_false, Bool.not_true, Bool.not_false, Bool.not_eq_true, Bool.true_and, Bool.and_true, Bool.false_and, Bool.and_false, reduceIte, Nat.reduceAdd, Nat.reduceSub, Nat.reduceMul, Nat.reduceLT, Nat.reduceLeDiff, Nat.reduceEqDiff, Int.reduceLT, Int.reduceLE, Int.reducePow, Int.reduceNeg, Int.reduceAdd, Int.reduceSub, Int.reduceMul, Int.reduceMod, Int.reduceDiv, Int.reduceToNat, h1, h2, h3, h4, h5, Int.ofNat_lt, hm, hm2]
        exact ⟨_, ⟨_, i + 1, _, _, _⟩, _, _, _, _, b1 _, b2 _, rfl⟩
      · have h5 : ¬ m ≤ 0 := by omega
        simp only [e_pV, e_pvO_dat, e_pvO_lst, e_pvO_tup, e_pvO_dic, e_pvO_ins, e_pvO_vw, e_pC, e_p1, e_p2, e_qD_dat, e_qD, e_qD_no, e_dz_vw, e_dz_dat, e_dz_lst, e_fz_lst, e_q1, e_q2, e_dO, e_pIx, e_qIx, e_ix_lst, e_ix_tup, e_ix_dlst, e_ix_dtup, e_ix_dscr, e_ix_vlst, e_ix_vtup, e_atI, e_atI0, e_atI1, e_atI2, e_atI3, e_atI4, e_atI5, e_atI6, e_pIf, e_qIf, e_pAnd, e_pOr, e_pChain, e_pDs_nil, e_pDs, e_qDs, e_pBC, e_qBC, e_addI, e_addS, e_subI, e_mulI_l, e_mulI_r, e_mulI_m, e_modI, e_divI, e_pow18, e_ltI, e_leI, e_gtI, e_geI, e_eqI, e_neI, e_eqS, e_neS, e_eqB, e_neB, e_not, e_neg, e_int, e_len_lst, e_len_scr, e_len_tup, e_len_str, e_inC, e_listOf_l, e_listOf_t, e_dtC, e_dt2, e_dt1, e_addT, e_addTI, e_addTS, e_mulT, e_fP, e_okP, e_fC, e_fV, e_okV, e_okV_l, e_fTk, e_okT, e_okT_l, e_okT_t, e_rD, e_rD_lst, e_rD_fz, e_f1, e_k1, e_f2, e_k2, e_k2b, e_opt, e_fDs_nil, e_fDs, e_kDs, e_kDc, e_bind, e_fBC, e_kBC, e_fIf, e_kIf, e_kFls, e_kTru, e_fAnd, e_fOr, e_fNot, e_kNot, e_fBv, e_kBv, e_fB, e_kB, e_fSl, e_kSl1, e_kSl2, e_kSl3, e_oI_none, e_oI, e_iR, e_gSl_str, e_gSl_lst, e_gSl_scr, e_fSm, e_kSm, e_kSm2, e_fAnil, e_fAt, e_kAt, e_kAc, e_fArf, e_fAvw, e_okA, e_kAg, e_fLst, e_fTup, e_kDsp, e_tms_nil, e_tms, e_tmO, e_dispT, e_fDf, e_kDf, e_fCall, e_callF, e_callT, e_callR, e_tkM, e_take_nil, e_take_tm, e_take_rf, e_take_vw, e_tkR_d, e_tkR_v, e_tkR_l, e_tkR_i, e_tkV_d, e_tkV_v, e_tkV_l, e_tkV_i, e_put_nil, e_put_tm, e_put_rf, e_put_vw, e_ptR_d, e_ptR_v, e_ptR_l, e_ptR_i, e_ptV_d, e_ptV_v, e_ptV_l, e_ptV_i, e_ow_l, e_ow_i, e_ow_d, e_fSeq, e_sq, e_sq_r, e_sq_b, e_sq_c, e_sq_x, e_sq_if, e_bindS, e_bindS_if, e_bind_if, e_rD_if, e_fSet, e_kSet, e_fRet, e_kRet, e_fExp, e_kExp, e_fIfS, e_kIfS, e_fNx, e_fRetN, e_fSetIx, e_kSetIx, e_stIx, e_stR, e_plc, e_qV, e_plcO_l, e_plcO_i, e_put0, e_setL, e_stO, e_ixN0, e_ixN1, e_ixN2, e_ixN3, e_ixN4, e_ixN5, e_datO, e_fIt, e_kIt, e_itD_l, e_itD_s, e_itD_t, e_itD_z, e_fRg1, e_kRg1, e_fFor, e_kFor, e_fLc, e_kLc, e_kLc2, e_wipe0, e_wipe, e_rest0, e_rest, e_rstO, e_put_nm, e_okW0, e_okW, e_slotOk, e_slotOkN, e_gAll, e_gAny, List.getElem?_cons_zero, List.getElem?_cons_succ, List.set_cons_zero, List.set_cons_succ, List.cons_append, List.nil_append, List.replicate, Option.map_some, Option.bind_some, decide_eq_true_eq, Bool.false_eq_true, if_true, if_false, and_true, true_and, and_self, List.length_map, List.length_cons, List.length_nil, List.getElem?_map, true_or, or_true, decide_true, decide_false, Bool.not_true, Bool.not_false, Bool.not_eq_true, Bool.true_and, Bool.and_true, Bool.false_and, Bool.and_false, reduceIte, Nat.reduceAdd, Nat.reduceSub, Nat.reduceMul, Nat.reduceLT, Nat.reduceLeDiff, Nat.reduceEqDiff, Int.reduceLT, Int.reduceLE, Int.reducePow, Int.reduceNeg, Int.reduceAdd, Int.reduceSub, Int.reduceMul, Int.reduceMod, Int.reduceDiv, Int.reduceToNat, h1, h2, h3, h4, h5, Int.ofNat_lt, hm, hm2]
        exact ⟨_, ⟨_, i + 1, _, _, _⟩, _, _, _, _, b1 _, b2 _, rfl⟩
    · simp only [e_pV, e_pvO_dat, e_pvO_lst, e_pvO_tup, e_pvO_dic, e_pvO_ins, e_pvO_vw, e_pC, e_p1, e_p2, e_qD_dat, e_qD, e_qD_no, e_dz_vw, e_dz_dat, e_dz_lst, e_fz_lst, e_q1, e_q2, e_dO, e_pIx, e_qIx, e_ix_lst, e_ix_tup, e_ix_dlst, e_ix_dtup, e_ix_dscr, e_ix_vlst, e_ix_vtup, e_atI, e_atI0, e_atI1, e_atI2, e_atI3, e_atI4, e_atI5, e_atI6, e_pIf, e_qIf, e_pAnd, e_pOr, e_pChain, e_pDs_nil, e_pDs, e_qDs, e_pBC, e_qBC, e_addI, e_addS, e_subI, e_mulI_l, e_mulI_r, e_mulI_m, e_modI, e_divI, e_pow18, e_ltI, e_leI, e_gtI, e_geI, e_eqI, e_neI, e_eqS, e_neS, e_eqB, e_neB, e_not, e_neg, e_int, e_len_lst, e_len_scr, e_len_tup, e_len_str, e_inC, e_listOf_l, e_listOf_t, e_dtC, e_dt2, e_dt1, e_addT, e_addTI, e_addTS, e_mulT, e_fP, e_okP, e_fC, e_fV, e_okV, e_okV_l, e_fTk, e_okT, e_okT_l, e_okT_t, e_rD, e_rD_lst, e_rD_fz, e_f1, e_k1, e_f2, e_k2, e_k2b, e_opt, e_fDs_nil, e_fDs, e_kDs, e_kDc, e_bind, e_fBC, e_kBC, e_fIf, e_kIf, e_kFls, e_kTru, e_fAnd, e_fOr, e_fNot, e_kNot, e_fBv, e_kBv, e_fB, e_kB, e_fSl, e_kSl1, e_kSl2, e_kSl3, e_oI_none, e_oI, e_iR, e_gSl_str, e_gSl_lst, e_gSl_scr, e_fSm, e_kSm, e_kSm2, e_fAnil, e_fAt, e_kAt, e_kAc, e_fArf, e_fAvw, e_okA, e_kAg, e_fLst, e_fTup, e_kDsp, e_tms_nil, e_tms, e_tmO, e_dispT, e_fDf, e_kDf, e_fCall, e_callF, e_callT, e_callR, e_tkM, e_take_nil, e_take_tm, e_take_rf, e_take_vw, e_tkR_d, e_tkR_v, e_tkR_l, e_tkR_i, e_tkV_d, e_tkV_v, e_tkV_l, e_tkV_i, e_put_nil, e_put_tm, e_put_rf, e_put_vw, e_ptR_d, e_ptR_v, e_ptR_l, e_ptR_i, e_ptV_d, e_ptV_v, e_ptV_l, e_ptV_i, e_ow_l, e_ow_i, e_ow_d, e_fSeq, e_sq, e_sq_r, e_sq_b, e_sq_c, e_sq_x, e_sq_if, e_bindS, e_bindS_if, e_bind_if, e_rD_if, e_fSet, e_kSet, e_fRet, e_kRet, e_fExp, e_kExp, e_fIfS, e_kIfS, e_fNx, e_fRetN, e_fSetIx, e_kSetIx, e_stIx, e_stR, e_plc, e_qV, e_plcO_l, e_plcO_i, e_put0, e_setL, e_stO, e_ixN0, e_ixN1, e_ixN2, e_ixN3, e_ixN4, e_ixN5, e_datO, e_fIt, e_kIt, e_itD_l, e_itD_s, e_itD_t, e_itD_z, e_fRg1, e_kRg1, e_fFor, e_kFor, e_fLc, e_kLc, e_kLc2, e_wipe0, e_wipe, e_rest0, e_rest, e_rstO, e_put_nm, e_okW0, e_okW, e_slotOk, e_slotOkN, e_gAll, e_gAny, List.getElem?_cons_zero, List.getElem?_cons_succ, List.set_cons_zero, List.set_cons_succ, List.cons_append, List.nil_append, List.replicate, Option.map_some, Option.bind_some, decide_eq_true_eq, Bool.false_eq_true, if_true, if_false, and_true, true_and, and_self, List.length_map, List.length_cons, List.length_nil, List.getElem?_map, true_or, or_true, decide_true, decide_false, Bool.not_true, Bool.not_false, Bool.not_eq_true, Bool.true_and, Bool.and_true, Bool.false_and, Bool.and_false, reduceIte, Nat.reduceAdd, Nat.reduceSub, Nat.reduceMul, Nat.reduceLT, Nat.reduceLeDiff, Nat.reduceEqDiff, Int.reduceLT, Int.reduceLE, Int.reducePow, Int.reduceNeg, Int.reduceAdd, Int.reduceSub, Int.reduceMul, Int.reduceMod, Int.reduceDiv, Int.reduceToNat, h1, h2, h6, Int.ofNat_lt, hm, hm2]
      exact ⟨_, ⟨_, i, _, _, _⟩, _, _, _, _, b1 _, b2 _, rfl⟩
  · have h6 : m ≤ a := by omega
    simp only [e_pV, e_pvO_dat, e_pvO_lst, e_pvO_tup, e_pvO_dic, e_pvO_ins, e_pvO_vw, e_pC, e_p1, e_p2, e_qD_dat, e_qD, e_qD_no, e_dz_vw, e_dz_dat, e_dz_lst, e_fz_lst, e_q1, e_q2, e_dO, e_pIx, e_qIx, e_ix_lst, e_ix_tup, e_ix_dlst, e_ix_dtup, e_ix_dscr, e_ix_vlst, e_ix_vtup, e_atI, e_atI0, e_atI1, e_atI2, e_atI3, e_atI4, e_atI5, e_atI6, e_pIf, e_qIf, e_pAnd, e_pOr, e_pChain, e_pDs_nil, e_pDs, e_qDs, e_pBC, e_qBC, e_addI, e_addS, e_subI, e_mulI_l, e_mulI_r, e_mulI_m, e_modI, e_divI, e_pow18, e_ltI, e_leI, e_gtI, e_geI, e_eqI, e_neI, e_eqS, e_neS, e_eqB, e_neB, e_not, e_neg, e_int, e_len_lst, e_len_scr, e_len_tup, e_len_str, e_inC, e_listOf_l, e_listOf_t, e_dtC, e_dt2, e_dt1, e_addT, e_addTI, e_addTS, e_mulT, e_fP, e_okP, e_fC, e_fV, e_okV, e_okV_l, e_fTk, e_okT, e_okT_l, e_okT_t, e_rD, e_rD_lst, e_rD_fz, e_f1, e_k1, e_f2, e_k2, e_k2b, e_opt, e_fDs_nil, e_fDs, e_kDs, e_kDc, e_bind, e_fBC, e_kBC, e_fIf, e_kIf, e_kFls, e_kTru, e_fAnd, e_fOr, e_fNot, e_kNot, e_fBv, e_kBv, e_fB, e_kB, e_fSl, e_kSl1, e_kSl2, e_kSl3, e_oI_none, e_oI, e_iR, e_gSl_str, e_gSl_lst, e_gSl_scr, e_fSm, e_kSm, e_kSm2, e_fAnil, e_fAt, e_kAt, e_kAc, e_fArf, e_fAvw, e_okA, e_kAg, e_fLst, e_fTup, e_kDsp, e_tms_nil, e_tms, e_tmO, e_dispT, e_fDf, e_kDf, e_fCall, e_callF, e_callT, e_callR, e_tkM, e_take_nil, e_take_tm, e_take_rf, e_take_vw, e_tkR_d, e_tkR_v, e_tkR_l, e_tkR_i, e_tkV_d, e_tkV_v, e_tkV_l, e_tkV_i, e_put_nil, e_put_tm, e_put_rf, e_put_vw, e_ptR_d, e_ptR_v, e_ptR_l, e_ptR_i, e_ptV_d, e_ptV_v, e_ptV_l, e_ptV_i, e_ow_l, e_ow_i, e_ow_d, e_fSeq, e_sq, e_sq_r, e_sq_b, e_sq_c, e_sq_x, e_sq_if, e_bindS, e_bindS_if, e_bind_if, e_rD_if, e_fSet, e_kSet, e_fRet, e_kRet, e_fExp, e_kExp, e_fIfS, e_kIfS, e_fNx, e_fRetN, e_fSetIx, e_kSetIx, e_stIx, e_stR, e_plc, e_qV, e_plcO_l, e_plcO_i, e_put0, e_setL, e_stO, e_ixN0, e_ixN1, e_ixN2, e_ixN3, e_ixN4, e_ixN5, e_datO, e_fIt, e_kIt, e_itD_l, e_itD_s, e_itD_t, e_itD_z, e_fRg1, e_kRg1, e_fFor, e_kFor, e_fLc, e_kLc, e_kLc2, e_wipe0, e_wipe, e_rest0, e_rest, e_rstO, e_put_nm, e_okW0, e_okW, e_slotOk, e_slotOkN, e_gAll, e_gAny, List.getElem?_cons_zero, List.getElem?_cons_succ, List.set_cons_zero, List.set_cons_succ, List.cons_append, List.nil_append, List.replicate, Option.map_some, Option.bind_some, decide_eq_true_eq, Bool.false_eq_true, if_true, if_false, and_true, true_and, and_self, List.length_map, List.length_cons, List.length_nil, List.getElem?_map, true_or, or_true, decide_true, decide_false, Bool.not_true, Bool.not_false, Bool.not_eq_true, Bool.true_and, Bool.and_true, Bool.false_and, Bool.and_false, reduceIte, Nat.reduceAdd, Nat.reduceSub, Nat.reduceMul, Nat.reduceLT, Nat.reduceLeDiff, Nat.reduceEqDiff, Int.reduceLT, Int.reduceLE, Int.reducePow, Int.reduceNeg, Int.reduceAdd, Int.reduceSub, Int.reduceMul, Int.reduceMod, Int.reduceDiv, Int.reduceToNat, h1, h6, hm, hm2]
    exact ⟨_, ⟨_, i, _, _, _⟩, _, _, _, _, b1 _, b2 _, rfl⟩
theorem draw_ok (x : Src) (m : Int) (hm : 0 < m ∧ m < 1073741824) : ∃ p : Int × Src, (0 ≤ p.1 ∧ p.1 < m) ∧ g_law_draw [x.t, .dat (.int m)] = .ok (.dat (.int p.1)) [p.2.t, .dat (.int m)] := by
  obtain ⟨r, x', c, d, e, f, h1, h2, h3⟩ := draw_b x m hm.1 hm.2
  exact ⟨(r, x'), ⟨h1, h2⟩, run_ret h3⟩
open Classical in
noncomputable def dr (x : Src) (m : Int) : Int × Src := if h : 0 < m ∧ m < 1073741824 then (draw_ok x m h).choose else (0, x)
theorem dr_eq {x : Src} {m : Int} (h : 0 < m ∧ m < 1073741824) : g_law_draw [x.t, .dat (.int m)] = .ok (.dat (.int (dr x m).1)) [(dr x m).2.t, .dat (.int m)] := by
  unfold dr
  rw [dif_pos h]
  exact (draw_ok x m h).choose_spec.2
theorem dr_in {x : Src} {m : Int} (h : 0 < m ∧ m < 1073741824) : 0 ≤ (dr x m).1 ∧ (dr x m).1 < m := by
  unfold dr
  rw [dif_pos h]
  exact (draw_ok x m h).choose_spec.1
end K01
namespace K01
open PySem PySem.Spec L2 L3
theorem source_ok (ns : List Int) : ∃ x : Src, g_law_source [.dat (.scr (ns.map .int))] = .ok x.t [.dat (.scr (ns.map .int))] := by
  obtain ⟨e', h1, s, c, rfl⟩ := for_inv (t := .nm 2) (b := l_law_source_1)
    (I := fun e => ∃ (s : Int) (c : T), e = [.dat (.scr (ns.map .int)), .dat (.int s), c]) (ds := cutD (ns.map .int) none (some 63)) (env := [.dat (.scr (ns.map .int)), .dat (.int 5758), .no]) (fun d hd e he => by
      obtain ⟨s, c, rfl⟩ := he
      obtain ⟨z, _, rfl⟩ := List.mem_map.mp (mem_cutD hd)
      refine ⟨_, [.dat (.scr (ns.map .int)), .dat (.int ((s * 50111 + z % 2147483563 + 31) % 2147483629)), .dat (.int z)], rfl, .inl ?_, _, _, rfl⟩
      unfold l_law_source_1
      simp only [e_pV, e_pvO_dat, e_pvO_lst, e_pvO_tup, e_pvO_dic, e_pvO_ins, e_pvO_vw, e_pC, e_p1, e_p2, e_qD_dat, e_qD, e_qD_no, e_dz_vw, e_dz_dat, e_dz_lst, e_fz_lst, e_q1, e_q2, e_dO, e_pIx, e_qIx, e_ix_lst, e_ix_tup, e_ix_dlst, e_ix_dtup, e_ix_dscr, e_ix_vlst, e_ix_vtup, e_atI, e_atI0, e_atI1, e_atI2, e_atI3, e_atI4, e_atI5, e_atI6, e_pIf, e_qIf, e_pAnd, e_pOr, e_pChain, e_pDs_nil, e_pDs, e_qDs, e_pBC, e_qBC, e_addI, e_addS, e_subI, e_mulI_l, e_mulI_r, e_mulI_m, e_modI, e_divI, e_pow18, e_ltI, e_leI, e_gtI, e_geI, e_eqI, e_neI, e_eqS, e_neS, e_eqB, e_neB, e_not, e_neg, e_int, e_len_lst, e_len_scr, e_len_tup, e_len_str, e_inC, e_listOf_l, e_listOf_t, e_dtC, e_dt2, e_dt1, e_addT, e_addTI, e_addTS, e_mulT, e_fP, e_okP, e_fC, e_fV, e_okV, e_okV_l, e_fTk, e_okT, e_okT_l, e_okT_t, e_rD, e_rD_lst, e_rD_fz, e_f1, e_k1, e_f2, e_k2, e_k2b, e_opt, e_fDs_nil, e_fDs, e_kDs, e_kDc, e_bind, e_fBC, e_kBC, e_fIf, e_kIf, e_kFls, e_kTru, e_fAnd, e_fOr, e_fNot, e_kNot, e_fBv, e_kBv, e_fB, e_kB, e_fSl, e_kSl1, e_kSl2, e_kSl3, e_oI_none, e_oI, e_iR, e_gSl_str, e_gSl_lst, e_gSl_scr, e_fSm, e_kSm, e_kSm2, e_fAnil, e_fAt, e_kAt, e_kAc, e_fArf, e_fAvw, e_okA, e_kAg, e_fLst, e_fTup, e_kDsp, e_tms_nil, e_tms, e_tmO, e_dispT, e_fDf, e_kDf, e_fCall, e_callF, e_callT, e_callR, e_tkM, e_take_nil, e_take_tm, e_take_rf, e_take_vw, e_tkR_d, e_tkR_v, e_tkR_l, e_tkR_i, e_tkV_d, e_tkV_v, e_tkV_l, e_tkV_i, e_put_nil, e_put_tm, e_put_rf, e_put_vw, e_ptR_d, e_ptR_v, e_ptR_l, e_ptR_i, e_ptV_d, e_ptV_v, e_ptV_l, e_ptV_i, e_ow_l, e_ow_i, e_ow_d, e_fSeq, e_sq, e_sq_r, e_sq_b, e_sq_c, e_sq_x, e_sq_if, e_bindS, e_bindS_if, e_bind_if, e_rD_if, e_fSet, e_kSet, e_fRet, e_kRet, e_fExp, e_kExp, e_fIfS, e_kIfS, e_fNx, e_fRetN, e_fSetIx, e_kSetIx, e_stIx, e_stR, e_plc, e_qV, e_plcO_l, e_plcO_i, e_put0, e_setL, e_stO, e_ixN0, e_ixN1, e_ixN2, e_ixN3, e_ixN4, e_ixN5, e_datO, e_fIt, e_kIt, e_itD_l, e_itD_s, e_itD_t, e_itD_z, e_fRg1, e_kRg1, e_fFor, e_kFor, e_fLc, e_kLc, e_kLc2, e_wipe0, e_wipe, e_rest0, e_rest, e_rstO, e_put_nm, e_okW0, e_okW, e_slotOk, e_slotOkN, e_gAll, e_gAny, List.getElem?_cons_zero, List.getElem?_cons_succ, List.set_cons_zero, List.set_cons_succ, List.cons_append, List.nil_append, List.replicate, Option.map_some, Option.bind_some, decide_eq_true_eq, Bool.false_eq_true, if_true, if_false, and_true, true_and, and_self, List.length_map, List.length_cons, List.length_nil, List.getElem?_map, true_or, or_true, decide_true, decide_false, Bool.not_true, Bool.not_false, Bool.not_eq_true, Bool.true_and, Bool.and_true, Bool.false_and, Bool.and_false, reduceIte, Nat.reduceAdd, Nat.reduceSub, Nat.reduceMul, Nat.reduceLT, Nat.reduceLeDiff, Nat.reduceEqDiff, Int.reduceLT, Int.reduceLE, Int.reducePow, Int.reduceNeg, Int.reduceAdd, Int.reduceSub, Int.reduceMul, Int.reduceMod, Int.reduceDiv, Int.reduceToNat]) ⟨5758, .no, rfl⟩
  refine ⟨⟨(ns.drop (HT.sIx ns.length 0 none)).take (HT.sIx ns.length ns.length (some 63) - HT.sIx ns.length 0 none), 0, 0, s, 0⟩, run_ret (env := [.dat (.scr (ns.map .int)), .dat (.int s), c]) ?_⟩
  unfold b_law_source Src.t
  rw [cutD_map] at h1
  simp only [e_pV, e_pvO_dat, e_pvO_lst, e_pvO_tup, e_pvO_dic, e_pvO_ins, e_pvO_vw, e_pC, e_p1, e_p2, e_qD_dat, e_qD, e_qD_no, e_dz_vw, e_dz_dat, e_dz_lst, e_fz_lst, e_q1, e_q2, e_dO, e_pIx, e_qIx, e_ix_lst, e_ix_tup, e_ix_dlst, e_ix_dtup, e_ix_dscr, e_ix_vlst, e_ix_vtup, e_atI, e_atI0, e_atI1, e_atI2, e_atI3, e_atI4, e_atI5, e_atI6, e_pIf, e_qIf, e_pAnd, e_pOr, e_pChain, e_pDs_nil, e_pDs, e_qDs, e_pBC, e_qBC, e_addI, e_addS, e_subI, e_mulI_l, e_mulI_r, e_mulI_m, e_modI, e_divI, e_pow18, e_ltI, e_leI, e_gtI, e_geI, e_eqI, e_neI, e_eqS, e_neS, e_eqB, e_neB, e_not, e_neg, e_int, e_len_lst, e_len_scr, e_len_tup, e_len_str, e_inC, e_listOf_l, e_listOf_t, e_dtC, e_dt2, e_dt1, e_addT, e_addTI, e_addTS, e_mulT, e_fP, e_okP, e_fC, e_fV, e_okV, e_okV_l, e_fTk, e_okT, e_okT_l, e_okT_t, e_rD, e_rD_lst, e_rD_fz, e_f1, e_k1, e_f2, e_k2, e_k2b, e_opt, e_fDs_nil, e_fDs, e_kDs, e_kDc, e_bind, e_fBC, e_kBC, e_fIf, e_kIf, e_kFls, e_kTru, e_fAnd, e_fOr, e_fNot, e_kNot, e_fBv, e_kBv, e_fB, e_kB, e_fSl, e_kSl1, e_kSl2, e_kSl3, e_oI_none, e_oI, e_iR, e_gSl_str, e_gSl_lst, e_gSl_scr, e_fSm, e_kSm, e_kSm2, e_fAnil, e_fAt, e_kAt, e_kAc, e_fArf, e_fAvw, e_okA, e_kAg, e_fLst, e_fTup, e_kDsp, e_tms_nil, e_tms, e_tmO, e_dispT, e_fDf, e_kDf, e_fCall, e_callF, e_callT, e_callR, e_tkM, e_take_nil, e_take_tm, e_take_rf, e_take_vw, e_tkR_d, e_tkR_v, e_tkR_l, e_tkR_i, e_tkV_d, e_tkV_v, e_tkV_l, e_tkV_i, e_put_nil, e_put_tm, e_put_rf, e_put_vw, e_ptR_d, e_ptR_v, e_ptR_l, e_ptR_i, e_ptV_d, e_ptV_v, e_ptV_l, e_ptV_i, e_ow_l, e_ow_i, e_ow_d, e_fSeq, e_sq, e_sq_r, e_sq_b, e_sq_c, e_sq_x, e_sq_if, e_bindS, e_bindS_if, e_bind_if, e_rD_if, e_fSet, e_kSet, e_fRet, e_kRet, e_fExp, e_kExp, e_fIfS, e_kIfS, e_fNx, e_fRetN, e_fSetIx, e_kSetIx, e_stIx, e_stR, e_plc, e_qV, e_plcO_l, e_plcO_i, e_put0, e_setL, e_stO, e_ixN0, e_ixN1, e_ixN2, e_ixN3, e_ixN4, e_ixN5, e_datO, e_fIt, e_kIt, e_itD_l, e_itD_s, e_itD_t, e_itD_z, e_fRg1, e_kRg1, e_fFor, e_kFor, e_fLc, e_kLc, e_kLc2, e_wipe0, e_wipe, e_rest0, e_rest, e_rstO, e_put_nm, e_okW0, e_okW, e_slotOk, e_slotOkN, e_gAll, e_gAny, List.getElem?_cons_zero, List.getElem?_cons_succ, List.set_cons_zero, List.set_cons_succ, List.cons_append, List.nil_append, List.replicate, Option.map_some, Option.bind_some, decide_eq_true_eq, Bool.false_eq_true, if_true, if_false, and_true, true_and, and_self, List.length_map, List.length_cons, List.length_nil, List.getElem?_map, true_or, or_true, decide_true, decide_false, Bool.not_true, Bool.not_false, Bool.not_eq_true, Bool.true_and, Bool.and_true, Bool.false_and, Bool.and_false, reduceIte, Nat.reduceAdd, Nat.reduceSub, Nat.reduceMul, Nat.reduceLT, Nat.reduceLeDiff, Nat.reduceEqDiff, Int.reduceLT, Int.reduceLE, Int.reducePow, Int.reduceNeg, Int.reduceAdd, Int.reduceSub, Int.reduceMul, Int.reduceMod, Int.reduceDiv, Int.reduceToNat, cutD_map, h1]
  rfl
/-! ### what passes the source on -/
theorem t_tkR {x : Src} {i : Nat} {as : List Ag} {env : L3.Env} : tkR (some x.t) i as env = tkM (takeA as (env.set i .no)) x.t := rfl
theorem t_ptR {x : Src} {i : Nat} {t : T} {as : List Ag} {o ts env : L3.Env} : ptR (some x.t) i as o t ts env = putA as (o.set i .no) ts (env.set i t.ow) := rfl
theorem t_pvO {x : Src} : pvO (some x.t) = some x.t := rfl
theorem t_ow {x : Src} : x.t.ow = x.t := rfl
def L : Str := "abcdefghijklmnopqrstuvwxyz"
def isN (z : Str) : Bool := decide (1 ≤ (z.length : Int)) && (decide ((z.length : Int) ≤ 8) && z.cps.toList.all fun c => decide (c ∈ L.cps.toList))
theorem is_name_eq {z : Str} (hz : z.length ≤ sizeLine) : g_is_name [.dat (.str z)] = .ok (.dat (.bl (isN z))) [.dat (.str z)] := by
  unfold g_is_name
  refine run_ret (env := [.dat (.str z), .no]) ?_
  have hl := lc_txt (i := 1) (elt := c_is_name_1) (env := [.dat (.str z), .no]) (z := z) (h := fun c => .bl (decide (c ∈ L.cps.toList))) (fun c _ => ⟨_, by unfold c_is_name_1; simp only [e_pV, e_pvO_dat, e_pvO_lst, e_pvO_tup, e_pvO_dic, e_pvO_ins, e_pvO_vw, e_pC, e_p1, e_p2, e_qD_dat, e_qD, e_qD_no, e_dz_vw, e_dz_dat, e_dz_lst, e_fz_lst, e_q1, e_q2, e_dO, e_pIx, e_qIx, e_ix_lst, e_ix_tup, e_ix_dlst, e_ix_dtup, e_ix_dscr, e_ix_vlst, e_ix_vtup, e_atI, e_atI0, e_atI1, e_atI2, e_atI3, e_atI4, e_atI5, e_atI6, e_pIf, e_qIf, e_pAnd, e_pOr, e_pChain, e_pDs_nil, e_pDs, e_qDs, e_pBC, e_qBC, e_addI, e_addS, e_subI, e_mulI_l, e_mulI_r, e_mulI_m, e_modI, e_divI, e_pow18, e_ltI, e_leI, e_gtI, e_geI, e_eqI, e_neI, e_eqS, e_neS, e_eqB, e_neB, e_not, e_neg, e_int, e_len_lst, e_len_scr, e_len_tup, e_len_str, e_inC, e_listOf_l, e_listOf_t, e_dtC, e_dt2, e_dt1, e_addT, e_addTI, e_addTS, e_mulT, e_fP, e_okP, e_fC, e_fV, e_okV, e_okV_l, e_fTk, e_okT, e_okT_l, e_okT_t, e_rD, e_rD_lst, e_rD_fz, e_f1, e_k1, e_f2, e_k2, e_k2b, e_opt, e_fDs_nil, e_fDs, e_kDs, e_kDc, e_bind, e_fBC, e_kBC, e_fIf, e_kIf, e_kFls, e_kTru, e_fAnd, e_fOr, e_fNot, e_kNot, e_fBv, e_kBv, e_fB, e_kB, e_fSl, e_kSl1, e_kSl2, e_kSl3, e_oI_none, e_oI, e_iR, e_gSl_str, e_gSl_lst, e_gSl_scr, e_fSm, e_kSm, e_kSm2, e_fAnil, e_fAt, e_kAt, e_kAc, e_fArf, e_fAvw, e_okA, e_kAg, e_fLst, e_fTup, e_kDsp, e_tms_nil, e_tms, e_tmO, e_dispT, e_fDf, e_kDf, e_fCall, e_callF, e_callT, e_callR, e_tkM, e_take_nil, e_take_tm, e_take_rf, e_take_vw, e_tkR_d, e_tkR_v, e_tkR_l, e_tkR_i, e_tkV_d, e_tkV_v, e_tkV_l, e_tkV_i, e_put_nil, e_put_tm, e_put_rf, e_put_vw, e_ptR_d, e_ptR_v, e_ptR_l, e_ptR_i, e_ptV_d, e_ptV_v, e_ptV_l, e_ptV_i, e_ow_l, e_ow_i, e_ow_d, e_fSeq, e_sq, e_sq_r, e_sq_b, e_sq_c, e_sq_x, e_sq_if, e_bindS, e_bindS_if, e_bind_if, e_rD_if, e_fSet, e_kSet, e_fRet, e_kRet, e_fExp, e_kExp, e_fIfS, e_kIfS, e_fNx, e_fRetN, e_fSetIx, e_kSetIx, e_stIx, e_stR, e_plc, e_qV, e_plcO_l, e_plcO_i, e_put0, e_setL, e_stO, e_ixN0, e_ixN1, e_ixN2, e_ixN3, e_ixN4, e_ixN5, e_datO, e_fIt, e_kIt, e_itD_l, e_itD_s, e_itD_t, e_itD_z, e_fRg1, e_kRg1, e_fFor, e_kFor, e_fLc, e_kLc, e_kLc2, e_wipe0, e_wipe, e_rest0, e_rest, e_rstO, e_put_nm, e_okW0, e_okW, e_slotOk, e_slotOkN, e_gAll, e_gAny, List.getElem?_cons_zero, List.getElem?_cons_succ, List.set_cons_zero, List.set_cons_succ, List.cons_append, List.nil_append, List.replicate, Option.map_some, Option.bind_some, decide_eq_true_eq, Bool.false_eq_true, if_true, if_false, and_true, true_and, and_self, List.length_map, List.length_cons, List.length_nil, List.getElem?_map, true_or, or_true, decide_true, decide_false, Bool.not_true, Bool.not_false, Bool.not_eq_true, Bool.true_and, Bool.and_true, Bool.false_and, Bool.and_false, reduceIte, Nat.reduceAdd, Nat.reduceSub, Nat.reduceMul, Nat.reduceLT, Nat.reduceLeDiff, Nat.reduceEqDiff, Int.reduceLT, Int.reduceLE, Int.reducePow, Int.reduceNeg, Int.reduceAdd, Int.reduceSub, Int.reduceMul, Int.reduceMod, Int.reduceDiv, Int.reduceToNat]; rfl, rfl⟩) hz
  unfold b_is_name isN
  by_cases h1 : (1 : Int) ≤ (z.length : Int)
  · by_cases h2 : (z.length : Int) ≤ 8
    · simp only [e_pV, e_pvO_dat, e_pvO_lst, e_pvO_tup, e_pvO_dic, e_pvO_ins, e_pvO_vw, e_pC, e_p1, e_p2, e_qD_dat, e_qD, e_qD_no, e_dz_vw, e_dz_dat, e_dz_lst, e_fz_lst, e_q1, e_q2, e_dO, e_pIx, e_qIx, e_ix_lst, e_ix_tup, e_ix_dlst, e_ix_dtup, e_ix_dscr, e_ix_vlst, e_ix_vtup, e_atI, e_atI0, e_atI1, e_atI2, e_atI3, e_atI4, e_atI5, e_atI6, e_pIf, e_qIf, e_pAnd, e_pOr, e_pChain, e_pDs_nil, e_pDs, e_qDs, e_pBC, e_qBC, e_addI, e_addS, e_subI, e_mulI_l, e_mulI_r, e_mulI_m, e_modI, e_divI, e_pow18, e_ltI, e_leI, e_gtI, e_geI, e_eqI, e_neI, e_eqS, e_neS, e_eqB, e_neB, e_not, e_neg, e_int, e_len_lst, e_len_scr, e_len_tup, e_len_str, e_inC, e_listOf_l, e_listOf_t, e_dtC, e_dt2, e_dt1, e_addT, e_addTI, e_addTS, e_mulT, e_fP, e_okP, e_fC, e_fV, e_okV, e_okV_l, e_fTk, e_okT, e_okT_l, e_okT_t, e_rD, e_rD_lst, e_rD_fz, e_f1, e_k1, e_f2, e_k2, e_k2b, e_opt, e_fDs_nil, e_fDs, e_kDs, e_kDc, e_bind, e_fBC, e_kBC, e_fIf, e_kIf, e_kFls, e_kTru, e_fAnd, e_fOr, e_fNot, e_kNot, e_fBv, e_kBv, e_fB, e_kB, e_fSl, e_kSl1, e_kSl2, e_kSl3, e_oI_none, e_oI, e_iR, e_gSl_str, e_gSl_lst, e_gSl_scr, e_fSm, e_kSm, e_kSm2, e_fAnil, e_fAt, e_kAt, e_kAc, e_fArf, e_fAvw, e_okA, e_kAg, e_fLst, e_fTup, e_kDsp, e_tms_nil, e_tms, e_tmO, e_dispT, e_fDf, e_kDf, e_fCall, e_callF, e_callT, e_callR, e_tkM, e_take_nil, e_take_tm, e_take_rf, e_take_vw, e_tkR_d, e_tkR_v, e_tkR_l, e_tkR_i, e_tkV_d, e_tkV_v, e_tkV_l, e_tkV_i, e_put_nil, e_put_tm, e_put_rf, e_put_vw, e_ptR_d, e_ptR_v, e_ptR_l, e_ptR_i, e_ptV_d, e_ptV_v, e_ptV_l, e_ptV_i, e_ow_l, e_ow_i, e_ow_d, e_fSeq, e_sq, e_sq_r, e_sq_b, e_sq_c, e_sq_x, e_sq_if, e_bindS, e_bindS_if, e_bind_if, e_rD_if, e_fSet, e_kSet, e_fRet, e_kRet, e_fExp, e_kExp, e_fIfS, e_kIfS, e_fNx, e_fRetN, e_fSetIx, e_kSetIx, e_stIx, e_stR, e_plc, e_qV, e_plcO_l, e_plcO_i, e_put0, e_setL, e_stO, e_ixN0, e_ixN1, e_ixN2, e_ixN3, e_ixN4, e_ixN5, e_datO, e_fIt, e_kIt, e_itD_l, e_itD_s, e_itD_t, e_itD_z, e_fRg1, e_kRg1, e_fFor, e_kFor, e_fLc, e_kLc, e_kLc2, e_wipe0, e_wipe, e_rest0, e_rest, e_rstO, e_put_nm, e_okW0, e_okW, e_slotOk, e_slotOkN, e_gAll, e_gAny, List.getElem?_cons_zero, List.getElem?_cons_succ, List.set_cons_zero, List.set_cons_succ, List.cons_append, List.nil_append, List.replicate, Option.map_some, Option.bind_some, decide_eq_true_eq, Bool.false_eq_true, if_true, if_false, and_true, true_and, and_self, List.length_map, List.length_cons, List.length_nil, List.getElem?_map, true_or, or_true, decide_true, decide_false, Bool.not_true, Bool.not_false, Bool.not_eq_true, Bool.true_and, Bool.and_true, Bool.false_and, Bool.and_false, reduceIte, Nat.reduceAdd, Nat.reduceSub, Nat.reduceMul, Nat.reduceLT, Nat.reduceLeDiff, Nat.reduceEqDiff, Int.reduceLT, Int.reduceLE, Int.reducePow, Int.reduceNeg, Int.reduceAdd, Int.reduceSub, Int.reduceMul, Int.reduceMod, Int.reduceDiv, Int.reduceToNat, h1, h2, hz, hl, Bool.true_and]
    · simp only [e_pV, e_pvO_dat, e_pvO_lst, e_pvO_tup, e_pvO_dic, e_pvO_ins, e_pvO_vw, e_pC, e_p1, e_p2, e_qD_dat, e_qD, e_qD_no, e_dz_vw, e_dz_dat, e_dz_lst, e_fz_lst, e_q1, e_q2, e_dO, e_pIx, e_qIx, e_ix_lst, e_ix_tup, e_ix_dlst, e_ix_dtup, e_ix_dscr, e_ix_vlst, e_ix_vtup, e_atI, e_atI0, e_atI1, e_atI2, e_atI3, e_atI4, e_atI5, e_atI6, e_pIf, e_qIf, e_pAnd, e_pOr, e_pChain, e_pDs_nil, e_pDs, e_qDs, e_pBC, e_qBC, e_addI, e_addS, e_subI, e_mulI_l, e_mulI_r, e_mulI_m, e_modI, e_divI, e_pow18, e_ltI, e_leI, e_gtI, e_geI, e_eqI, e_neI, e_eqS, e_neS, e_eqB, e_neB, e_not, e_neg, e_int, e_len_lst, e_len_scr, e_len_tup, e_len_str, e_inC, e_listOf_l, e_listOf_t, e_dtC, e_dt2, e_dt1, e_addT, e_addTI, e_addTS, e_mulT, e_fP, e_okP, e_fC, e_fV, e_okV, e_okV_l, e_fTk, e_okT, e_okT_l, e_okT_t, e_rD, e_rD_lst, e_rD_fz, e_f1, e_k1, e_f2, e_k2, e_k2b, e_opt, e_fDs_nil, e_fDs, e_kDs, e_kDc, e_bind, e_fBC, e_kBC, e_fIf, e_kIf, e_kFls, e_kTru, e_fAnd, e_fOr, e_fNot, e_kNot, e_fBv, e_kBv, e_fB, e_kB, e_fSl, e_kSl1, e_kSl2, e_kSl3, e_oI_none, e_oI, e_iR, e_gSl_str, e_gSl_lst, e_gSl_scr, e_fSm, e_kSm, e_kSm2, e_fAnil, e_fAt, e_kAt, e_kAc, e_fArf, e_fAvw, e_okA, e_kAg, e_fLst, e_fTup, e_kDsp, e_tms_nil, e_tms, e_tmO, e_dispT, e_fDf, e_kDf, e_fCall, e_callF, e_callT, e_callR, e_tkM, e_take_nil, e_take_tm, e_take_rf, e_take_vw, e_tkR_d, e_tkR_v, e_tkR_l, e_tkR_i, e_tkV_d, e_tkV_v, e_tkV_l, e_tkV_i, e_put_nil, e_put_tm, e_put_rf, e_put_vw, e_ptR_d, e_ptR_v, e_ptR_l, e_ptR_i, e_ptV_d, e_ptV_v, e_ptV_l, e_ptV_i, e_ow_l, e_ow_i, e_ow_d, e_fSeq, e_sq, e_sq_r, e_sq_b, e_sq_c, e_sq_x, e_sq_if, e_bindS, e_bindS_if, e_bind_if, e_rD_if, e_fSet, e_kSet, e_fRet, e_kRet, e_fExp, e_kExp, e_fIfS, e_kIfS, e_fNx, e_fRetN, e_fSetIx, e_kSetIx, e_stIx, e_stR, e_plc, e_qV, e_plcO_l, e_plcO_i, e_put0, e_setL, e_stO, e_ixN0, e_ixN1, e_ixN2, e_ixN3, e_ixN4, e_ixN5, e_datO, e_fIt, e_kIt, e_itD_l, e_itD_s, e_itD_t, e_itD_z, e_fRg1, e_kRg1, e_fFor, e_kFor, e_fLc, e_kLc, e_kLc2, e_wipe0, e_wipe, e_rest0, e_rest, e_rstO, e_put_nm, e_okW0, e_okW, e_slotOk, e_slotOkN, e_gAll, e_gAny, List.getElem?_cons_zero, List.getElem?_cons_succ, List.set_cons_zero, List.set_cons_succ, List.cons_append, List.nil_append, List.replicate, Option.map_some, Option.bind_some, decide_eq_true_eq, Bool.false_eq_true, if_true, if_false, and_true, true_and, and_self, List.length_map, List.length_cons, List.length_nil, List.getElem?_map, true_or, or_true, decide_true, decide_false, Bool.not_true, Bool.not_false, Bool.not_eq_true, Bool.true_and, Bool.and_true, Bool.false_and, Bool.and_false, reduceIte, Nat.reduceAdd, Nat.reduceSub, Nat.reduceMul, Nat.reduceLT, Nat.reduceLeDiff, Nat.reduceEqDiff, Int.reduceLT, Int.reduceLE, Int.reducePow, Int.reduceNeg, Int.reduceAdd, Int.reduceSub, Int.reduceMul, Int.reduceMod, Int.reduceDiv, Int.reduceToNat, h1, h2, hz, Bool.true_and, Bool.false_and]
  · simp only [e_pV, e_pvO_dat, e_pvO_lst, e_pvO_tup, e_pvO_dic, e_pvO_ins, e_pvO_vw, e_pC, e_p1, e_p2, e_qD_dat, e_qD, e_qD_no, e_dz_vw, e_dz_dat, e_dz_lst, e_fz_lst, e_q1, e_q2, e_dO, e_pIx, e_qIx, e_ix_lst, e_ix_tup, e_ix_dlst, e_ix_dtup, e_ix_dscr, e_ix_vlst, e_ix_vtup, e_atI, e_atI0, e_atI1, e_atI2, e_atI3, e_atI4, e_atI5, e_atI6, e_pIf, e_qIf, e_pAnd, e_pOr, e_pChain, e_pDs_nil, e_pDs, e_qDs, e_pBC, e_qBC, e_addI, e_addS, e_subI, e_mulI_l, e_mulI_r, e_mulI_m, e_modI, e_divI, e_pow18, e_ltI, e_leI, e_gtI, e_geI, e_eqI, e_neI, e_eqS, e_neS, e_eqB, e_neB, e_not, e_neg, e_int, e_len_lst, e_len_scr, e_len_tup, e_len_str, e_inC, e_listOf_l, e_listOf_t, e_dtC, e_dt2, e_dt1, e_addT, e_addTI, e_addTS, e_mulT, e_fP, e_okP, e_fC, e_fV, e_okV, e_okV_l, e_fTk, e_okT, e_okT_l, e_okT_t, e_rD, e_rD_lst, e_rD_fz, e_f1, e_k1, e_f2, e_k2, e_k2b, e_opt, e_fDs_nil, e_fDs, e_kDs, e_kDc, e_bind, e_fBC, e_kBC, e_fIf, e_kIf, e_kFls, e_kTru, e_fAnd, e_fOr, e_fNot, e_kNot, e_fBv, e_kBv, e_fB, e_kB, e_fSl, e_kSl1, e_kSl2, e_kSl3, e_oI_none, e_oI, e_iR, e_gSl_str, e_gSl_lst, e_gSl_scr, e_fSm, e_kSm, e_kSm2, e_fAnil, e_fAt, e_kAt, e_kAc, e_fArf, e_fAvw, e_okA, e_kAg, e_fLst, e_fTup, e_kDsp, e_tms_nil, e_tms, e_tmO, e_dispT, e_fDf, e_kDf, e_fCall, e_callF, e_callT, e_callR, e_tkM, e_take_nil, e_take_tm, e_take_rf, e_take_vw, e_tkR_d, e_tkR_v, e_tkR_l, e_tkR_i, e_tkV_d, e_tkV_v, e_tkV_l, e_tkV_i, e_put_nil, e_put_tm, e_put_rf, e_put_vw, e_ptR_d, e_ptR_v, e_ptR_l, e_ptR_i, e_ptV_d, e_ptV_v, e_ptV_l, e_ptV_i, e_ow_l, e_ow_i, e_ow_d, e_fSeq, e_sq, e_sq_r, e_sq_b, e_sq_c, e_sq_x, e_sq_if, e_bindS, e_bindS_if, e_bind_if, e_rD_if, e_fSet, e_kSet, e_fRet, e_kRet, e_fExp, e_kExp, e_fIfS, e_kIfS, e_fNx, e_fRetN, e_fSetIx, e_kSetIx, e_stIx, e_stR, e_plc, e_qV, e_plcO_l, e_plcO_i, e_put0, e_setL, e_stO, e_ixN0, e_ixN1, e_ixN2, e_ixN3, e_ixN4, e_ixN5, e_datO, e_fIt, e_kIt, e_itD_l, e_itD_s, e_itD_t, e_itD_z, e_fRg1, e_kRg1, e_fFor, e_kFor, e_fLc, e_kLc, e_kLc2, e_wipe0, e_wipe, e_rest0, e_rest, e_rstO, e_put_nm, e_okW0, e_okW, e_slotOk, e_slotOkN, e_gAll, e_gAny, List.getElem?_cons_zero, List.getElem?_cons_succ, List.set_cons_zero, List.set_cons_succ, List.cons_append, List.nil_append, List.replicate, Option.map_some, Option.bind_some, decide_eq_true_eq, Bool.false_eq_true, if_true, if_false, and_true, true_and, and_self, List.length_map, List.length_cons, List.length_nil, List.getElem?_map, true_or, or_true, decide_true, decide_false, Bool.not_true, Bool.not_false, Bool.not_eq_true, Bool.true_and, Bool.and_true, Bool.false_and, Bool.and_false, reduceIte, Nat.reduceAdd, Nat.reduceSub, Nat.reduceMul, Nat.reduceLT, Nat.reduceLeDiff, Nat.reduceEqDiff, Int.reduceLT, Int.reduceLE, Int.reducePow, Int.reduceNeg, Int.reduceAdd, Int.reduceSub, Int.reduceMul, Int.reduceMod, Int.reduceDiv, Int.reduceToNat, h1, hz, Bool.false_and]
theorem law_is_name_eq {z : Str} (hz : z.length ≤ sizeLine) : g_law_is_name [.dat (.str z)] = .ok (.dat (.bl (isN z))) [.dat (.str z)] := by
  unfold g_law_is_name
  refine run_ret (env := [.dat (.str z), .no]) ?_
  have hl := lc_txt (i := 1) (elt := c_law_is_name_1) (env := [.dat (.str z), .no]) (z := z) (h := fun c => .bl (decide (c ∈ L.cps.toList))) (fun c _ => ⟨_, by unfold c_law_is_name_1; simp only [e_pV, e_pvO_dat, e_pvO_lst, e_pvO_tup, e_pvO_dic, e_pvO_ins, e_pvO_vw, e_pC, e_p1, e_p2, e_qD_dat, e_qD, e_qD_no, e_dz_vw, e_dz_dat, e_dz_lst, e_fz_lst, e_q1, e_q2, e_dO, e_pIx, e_qIx, e_ix_lst, e_ix_tup, e_ix_dlst, e_ix_dtup, e_ix_dscr, e_ix_vlst, e_ix_vtup, e_atI, e_atI0, e_atI1, e_atI2, e_atI3, e_atI4, e_atI5, e_atI6, e_pIf, e_qIf, e_pAnd, e_pOr, e_pChain, e_pDs_nil, e_pDs, e_qDs, e_pBC, e_qBC, e_addI, e_addS, e_subI, e_mulI_l, e_mulI_r, e_mulI_m, e_modI, e_divI, e_pow18, e_ltI, e_leI, e_gtI, e_geI, e_eqI, e_neI, e_eqS, e_neS, e_eqB, e_neB, e_not, e_neg, e_int, e_len_lst, e_len_scr, e_len_tup, e_len_str, e_inC, e_listOf_l, e_listOf_t, e_dtC, e_dt2, e_dt1, e_addT, e_addTI, e_addTS, e_mulT, e_fP, e_okP, e_fC, e_fV, e_okV, e_okV_l, e_fTk, e_okT, e_okT_l, e_okT_t, e_rD, e_rD_lst, e_rD_fz, e_f1, e_k1, e_f2, e_k2, e_k2b, e_opt, e_fDs_nil, e_fDs, e_kDs, e_kDc, e_bind, e_fBC, e_kBC, e_fIf, e_kIf, e_kFls, e_kTru, e_fAnd, e_fOr, e_fNot, e_kNot, e_fBv, e_kBv, e_fB, e_kB, e_fSl, e_kSl1, e_kSl2, e_kSl3, e_oI_none, e_oI, e_iR, e_gSl_str, e_gSl_lst, e_gSl_scr, e_fSm, e_kSm, e_kSm2, e_fAnil, e_fAt, e_kAt, e_kAc, e_fArf, e_fAvw, e_okA, e_kAg, e_fLst, e_fTup, e_kDsp, e_tms_nil, e_tms, e_tmO, e_dispT, e_fDf, e_kDf, e_fCall, e_callF, e_callT, e_callR, e_tkM, e_take_nil, e_take_tm, e_take_rf, e_take_vw, e_tkR_d, e_tkR_v, e_tkR_l, e_tkR_i, e_tkV_d, e_tkV_v, e_tkV_l, e_tkV_i, e_put_nil, e_put_tm, e_put_rf, e_put_vw, e_ptR_d, e_ptR_v, e_ptR_l, e_ptR_i, e_ptV_d, e_ptV_v, e_ptV_l, e_ptV_i, e_ow_l, e_ow_i, e_ow_d, e_fSeq, e_sq, e_sq_r, e_sq_b, e_sq_c, e_sq_x, e_sq_if, e_bindS, e_bindS_if, e_bind_if, e_rD_if, e_fSet, e_kSet, e_fRet, e_kRet, e_fExp, e_kExp, e_fIfS, e_kIfS, e_fNx, e_fRetN, e_fSetIx, e_kSetIx, e_stIx, e_stR, e_plc, e_qV, e_plcO_l, e_plcO_i, e_put0, e_setL, e_stO, e_ixN0, e_ixN1, e_ixN2, e_ixN3, e_ixN4, e_ixN5, e_datO, e_fIt, e_kIt, e_itD_l, e_itD_s, e_itD_t, e_itD_z, e_fRg1, e_kRg1, e_fFor, e_kFor, e_fLc, e_kLc, e_kLc2, e_wipe0, e_wipe, e_rest0, e_rest, e_rstO, e_put_nm, e_okW0, e_okW, e_slotOk, e_slotOkN, e_gAll, e_gAny, List.getElem?_cons_zero, List.getElem?_cons_succ, List.set_cons_zero, List.set_cons_succ, List.cons_append, List.nil_append, List.replicate, Option.map_some, Option.bind_some, decide_eq_true_eq, Bool.false_eq_true, if_true, if_false, and_true, true_and, and_self, List.length_map, List.length_cons, List.length_nil, List.getElem?_map, true_or, or_true, decide_true, decide_false, Bool.not_true, Bool.not_false, Bool.not_eq_true, Bool.true_and, Bool.and_true, Bool.false_and, Bool.and_false, reduceIte, Nat.reduceAdd, Nat.reduceSub, Nat.reduceMul, Nat.reduceLT, Nat.reduceLeDiff, Nat.reduceEqDiff, Int.reduceLT, Int.reduceLE, Int.reducePow, Int.reduceNeg, Int.reduceAdd, Int.reduceSub, Int.reduceMul, Int.reduceMod, Int.reduceDiv, Int.reduceToNat]; rfl, rfl⟩) hz
  unfold b_law_is_name isN
  by_cases h1 : (1 : Int) ≤ (z.length : Int)
  · by_cases h2 : (z.length : Int) ≤ 8
    · simp only [e_pV, e_pvO_dat, e_pvO_lst, e_pvO_tup, e_pvO_dic, e_pvO_ins, e_pvO_vw, e_pC, e_p1, e_p2, e_qD_dat, e_qD, e_qD_no, e_dz_vw, e_dz_dat, e_dz_lst, e_fz_lst, e_q1, e_q2, e_dO, e_pIx, e_qIx, e_ix_lst, e_ix_tup, e_ix_dlst, e_ix_dtup, e_ix_dscr, e_ix_vlst, e_ix_vtup, e_atI, e_atI0, e_atI1, e_atI2, e_atI3, e_atI4, e_atI5, e_atI6, e_pIf, e_qIf, e_pAnd, e_pOr, e_pChain, e_pDs_nil, e_pDs, e_qDs, e_pBC, e_qBC, e_addI, e_addS, e_subI, e_mulI_l, e_mulI_r, e_mulI_m, e_modI, e_divI, e_pow18, e_ltI, e_leI, e_gtI, e_geI, e_eqI, e_neI, e_eqS, e_neS, e_eqB, e_neB, e_not, e_neg, e_int, e_len_lst, e_len_scr, e_len_tup, e_len_str, e_inC, e_listOf_l, e_listOf_t, e_dtC, e_dt2, e_dt1, e_addT, e_addTI, e_addTS, e_mulT, e_fP, e_okP, e_fC, e_fV, e_okV, e_okV_l, e_fTk, e_okT, e_okT_l, e_okT_t, e_rD, e_rD_lst, e_rD_fz, e_f1, e_k1, e_f2, e_k2, e_k2b, e_opt, e_fDs_nil, e_fDs, e_kDs, e_kDc, e_bind, e_fBC, e_kBC, e_fIf, e_kIf, e_kFls, e_kTru, e_fAnd, e_fOr, e_fNot, e_kNot, e_fBv, e_kBv, e_fB, e_kB, e_fSl, e_kSl1, e_kSl2, e_kSl3, e_oI_none, e_oI, e_iR, e_gSl_str, e_gSl_lst, e_gSl_scr, e_fSm, e_kSm, e_kSm2, e_fAnil, e_fAt, e_kAt, e_kAc, e_fArf, e_fAvw, e_okA, e_kAg, e_fLst, e_fTup, e_kDsp, e_tms_nil, e_tms, e_tmO, e_dispT, e_fDf, e_kDf, e_fCall, e_callF, e_callT, e_callR, e_tkM, e_take_nil, e_take_tm, e_take_rf, e_take_vw, e_tkR_d, e_tkR_v, e_tkR_l, e_tkR_i, e_tkV_d, e_tkV_v, e_tkV_l, e_tkV_i, e_put_nil, e_put_tm, e_put_rf, e_put_vw, e_ptR_d, e_ptR_v, e_ptR_l, e_ptR_i, e_ptV_d, e_ptV_v, e_ptV_l, e_ptV_i, e_ow_l, e_ow_i, e_ow_d, e_fSeq, e_sq, e_sq_r, e_sq_b, e_sq_c, e_sq_x, e_sq_if, e_bindS, e_bindS_if, e_bind_if, e_rD_if, e_fSet, e_kSet, e_fRet, e_kRet, e_fExp, e_kExp, e_fIfS, e_kIfS, e_fNx, e_fRetN, e_fSetIx, e_kSetIx, e_stIx, e_stR, e_plc, e_qV, e_plcO_l, e_plcO_i, e_put0, e_setL, e_stO, e_ixN0, e_ixN1, e_ixN2, e_ixN3, e_ixN4, e_ixN5, e_datO, e_fIt, e_kIt, e_itD_l, e_itD_s, e_itD_t, e_itD_z, e_fRg1, e_kRg1, e_fFor, e_kFor, e_fLc, e_kLc, e_kLc2, e_wipe0, e_wipe, e_rest0, e_rest, e_rstO, e_put_nm, e_okW0, e_okW, e_slotOk, e_slotOkN, e_gAll, e_gAny, List.getElem?_cons_zero, List.getElem?_cons_succ, List.set_cons_zero, List.set_cons_succ, List.cons_append, List.nil_append, List.replicate, Option.map_some, Option.bind_some, decide_eq_true_eq, Bool.false_eq_true, if_true, if_false, and_true, true_and, and_self, List.length_map, List.length_cons, List.length_nil, List.getElem?_map, true_or, or_true, decide_true, decide_false, Bool.not_true, Bool.not_false, Bool.not_eq_true, Bool.true_and, Bool.and_true, Bool.false_and, Bool.and_false, reduceIte, Nat.reduceAdd, Nat.reduceSub, Nat.reduceMul, Nat.reduceLT, Nat.reduceLeDiff, Nat.reduceEqDiff, Int.reduceLT, Int.reduceLE, Int.reducePow, Int.reduceNeg, Int.reduceAdd, Int.reduceSub, Int.reduceMul, Int.reduceMod, Int.reduceDiv, Int.reduceToNat, h1, h2, hz, hl, Bool.true_and]
    · simp only [e_pV, e_pvO_dat, e_pvO_lst, e_pvO_tup, e_pvO_dic, e_pvO_ins, e_pvO_vw, e_pC, e_p1, e_p2, e_qD_dat, e_qD, e_qD_no, e_dz_vw, e_dz_dat, e_dz_lst, e_fz_lst, e_q1, e_q2, e_dO, e_pIx, e_qIx, e_ix_lst, e_ix_tup, e_ix_dlst, e_ix_dtup, e_ix_dscr, e_ix_vlst, e_ix_vtup, e_atI, e_atI0, e_atI1, e_atI2, e_atI3, e_atI4, e_atI5, e_atI6, e_pIf, e_qIf, e_pAnd, e_pOr, e_pChain, e_pDs_nil, e_pDs, e_qDs, e_pBC, e_qBC, e_addI, e_addS, e_subI, e_mulI_l, e_mulI_r, e_mulI_m, e_modI, e_divI, e_pow18, e_ltI, e_leI, e_gtI, e_geI, e_eqI, e_neI, e_eqS, e_neS, e_eqB, e_neB, e_not, e_neg, e_int, e_len_lst, e_len_scr, e_len_tup, e_len_str, e_inC, e_listOf_l, e_listOf_t, e_dtC, e_dt2, e_dt1, e_addT, e_addTI, e_addTS, e_mulT, e_fP, e_okP, e_fC, e_fV, e_okV, e_okV_l, e_fTk, e_okT, e_okT_l, e_okT_t, e_rD, e_rD_lst, e_rD_fz, e_f1, e_k1, e_f2, e_k2, e_k2b, e_opt, e_fDs_nil, e_fDs, e_kDs, e_kDc, e_bind, e_fBC, e_kBC, e_fIf, e_kIf, e_kFls, e_kTru, e_fAnd, e_fOr, e_fNot, e_kNot, e_fBv, e_kBv, e_fB, e_kB, e_fSl, e_kSl1, e_kSl2, e_kSl3, e_oI_none, e_oI, e_iR, e_gSl_str, e_gSl_lst, e_gSl_scr, e_fSm, e_kSm, e_kSm2, e_fAnil, e_fAt, e_kAt, e_kAc, e_fArf, e_fAvw, e_okA, e_kAg, e_fLst, e_fTup, e_kDsp, e_tms_nil, e_tms, e_tmO, e_dispT, e_fDf, e_kDf, e_fCall, e_callF, e_callT, e_callR, e_tkM, e_take_nil, e_take_tm, e_take_rf, e_take_vw, e_tkR_d, e_tkR_v, e_tkR_l, e_tkR_i, e_tkV_d, e_tkV_v, e_tkV_l, e_tkV_i, e_put_nil, e_put_tm, e_put_rf, e_put_vw, e_ptR_d, e_ptR_v, e_ptR_l, e_ptR_i, e_ptV_d, e_ptV_v, e_ptV_l, e_ptV_i, e_ow_l, e_ow_i, e_ow_d, e_fSeq, e_sq, e_sq_r, e_sq_b, e_sq_c, e_sq_x, e_sq_if, e_bindS, e_bindS_if, e_bind_if, e_rD_if, e_fSet, e_kSet, e_fRet, e_kRet, e_fExp, e_kExp, e_fIfS, e_kIfS, e_fNx, e_fRetN, e_fSetIx, e_kSetIx, e_stIx, e_stR, e_plc, e_qV, e_plcO_l, e_plcO_i, e_put0, e_setL, e_stO, e_ixN0, e_ixN1, e_ixN2, e_ixN3, e_ixN4, e_ixN5, e_datO, e_fIt, e_kIt, e_itD_l, e_itD_s, e_itD_t, e_itD_z, e_fRg1, e_kRg1, e_fFor, e_kFor, e_fLc, e_kLc, e_kLc2, e_wipe0, e_wipe, e_rest0, e_rest, e_rstO, e_put_nm, e_okW0, e_okW, e_slotOk, e_slotOkN, e_gAll, e_gAny, List.getElem?_cons_zero, List.getElem?_cons_succ, List.set_cons_zero, List.set_cons_succ, List.cons_append, List.nil_append, List.replicate, Option.map_some, Option.bind_some, decide_eq_true_eq, Bool.false_eq_true, if_true, if_false, and_true, true_and, and_self, List.length_map, List.length_cons, List.length_nil, List.getElem?_map, true_or, or_true, decide_true, decide_false, Bool.not_true, Bool.not_false, Bool.not_eq_true, Bool.true_and, Bool.and_true, Bool.false_and, Bool.and_false, reduceIte, Nat.reduceAdd, Nat.reduceSub, Nat.reduceMul, Nat.reduceLT, Nat.reduceLeDiff, Nat.reduceEqDiff, Int.reduceLT, Int.reduceLE, Int.reducePow, Int.reduceNeg, Int.reduceAdd, Int.reduceSub, Int.reduceMul, Int.reduceMod, Int.reduceDiv, Int.reduceToNat, h1, h2, hz, Bool.true_and, Bool.false_and]
  · simp only [e_pV, e_pvO_dat, e_pvO_lst, e_pvO_tup, e_pvO_dic, e_pvO_ins, e_pvO_vw, e_pC, e_p1, e_p2, e_qD_dat, e_qD, e_qD_no, e_dz_vw, e_dz_dat, e_dz_lst, e_fz_lst, e_q1, e_q2, e_dO, e_pIx, e_qIx, e_ix_lst, e_ix_tup, e_ix_dlst, e_ix_dtup, e_ix_dscr, e_ix_vlst, e_ix_vtup, e_atI, e_atI0, e_atI1, e_atI2, e_atI3, e_atI4, e_atI5, e_atI6, e_pIf, e_qIf, e_pAnd, e_pOr, e_pChain, e_pDs_nil, e_pDs, e_qDs, e_pBC, e_qBC, e_addI, e_addS, e_subI, e_mulI_l, e_mulI_r, e_mulI_m, e_modI, e_divI, e_pow18, e_ltI, e_leI, e_gtI, e_geI, e_eqI, e_neI, e_eqS, e_neS, e_eqB, e_neB, e_not, e_neg, e_int, e_len_lst, e_len_scr, e_len_tup, e_len_str, e_inC, e_listOf_l, e_listOf_t, e_dtC, e_dt2, e_dt1, e_addT, e_addTI, e_addTS, e_mulT, e_fP, e_okP, e_fC, e_fV, e_okV, e_okV_l, e_fTk, e_okT, e_okT_l, e_okT_t, e_rD, e_rD_lst, e_rD_fz, e_f1, e_k1, e_f2, e_k2, e_k2b, e_opt, e_fDs_nil, e_fDs, e_kDs, e_kDc, e_bind, e_fBC, e_kBC, e_fIf, e_kIf, e_kFls, e_kTru, e_fAnd, e_fOr, e_fNot, e_kNot, e_fBv, e_kBv, e_fB, e_kB, e_fSl, e_kSl1, e_kSl2, e_kSl3, e_oI_none, e_oI, e_iR, e_gSl_str, e_gSl_lst, e_gSl_scr, e_fSm, e_kSm, e_kSm2, e_fAnil, e_fAt, e_kAt, e_kAc, e_fArf, e_fAvw, e_okA, e_kAg, e_fLst, e_fTup, e_kDsp, e_tms_nil, e_tms, e_tmO, e_dispT, e_fDf, e_kDf, e_fCall, e_callF, e_callT, e_callR, e_tkM, e_take_nil, e_take_tm, e_take_rf, e_take_vw, e_tkR_d, e_tkR_v, e_tkR_l, e_tkR_i, e_tkV_d, e_tkV_v, e_tkV_l, e_tkV_i, e_put_nil, e_put_tm, e_put_rf, e_put_vw, e_ptR_d, e_ptR_v, e_ptR_l, e_ptR_i, e_ptV_d, e_ptV_v, e_ptV_l, e_ptV_i, e_ow_l, e_ow_i, e_ow_d, e_fSeq, e_sq, e_sq_r, e_sq_b, e_sq_c, e_sq_x, e_sq_if, e_bindS, e_bindS_if, e_bind_if, e_rD_if, e_fSet, e_kSet, e_fRet, e_kRet, e_fExp, e_kExp, e_fIfS, e_kIfS, e_fNx, e_fRetN, e_fSetIx, e_kSetIx, e_stIx, e_stR, e_plc, e_qV, e_plcO_l, e_plcO_i, e_put0, e_setL, e_stO, e_ixN0, e_ixN1, e_ixN2, e_ixN3, e_ixN4, e_ixN5, e_datO, e_fIt, e_kIt, e_itD_l, e_itD_s, e_itD_t, e_itD_z, e_fRg1, e_kRg1, e_fFor, e_kFor, e_fLc, e_kLc, e_kLc2, e_wipe0, e_wipe, e_rest0, e_rest, e_rstO, e_put_nm, e_okW0, e_okW, e_slotOk, e_slotOkN, e_gAll, e_gAny, List.getElem?_cons_zero, List.getElem?_cons_succ, List.set_cons_zero, List.set_cons_succ, List.cons_append, List.nil_append, List.replicate, Option.map_some, Option.bind_some, decide_eq_true_eq, Bool.false_eq_true, if_true, if_false, and_true, true_and, and_self, List.length_map, List.length_cons, List.length_nil, List.getElem?_map, true_or, or_true, decide_true, decide_false, Bool.not_true, Bool.not_false, Bool.not_eq_true, Bool.true_and, Bool.and_true, Bool.false_and, Bool.and_false, reduceIte, Nat.reduceAdd, Nat.reduceSub, Nat.reduceMul, Nat.reduceLT, Nat.reduceLeDiff, Nat.reduceEqDiff, Int.reduceLT, Int.reduceLE, Int.reducePow, Int.reduceNeg, Int.reduceAdd, Int.reduceSub, Int.reduceMul, Int.reduceMod, Int.reduceDiv, Int.reduceToNat, h1, hz, Bool.false_and]
theorem same_eq {d : D} {p : PyData} (h1 : d.py = some p) (h2 : SeqAt.shaped p = true ∧ p.showable = true ∧ p.shown.length ≤ sizeLine) : g_law_same [.dat d, .dat d] = .ok (.dat (.bl true)) [.dat d, .dat d] := by
  unfold g_law_same
  refine run_ret (env := [.dat d, .dat d]) ?_
  unfold b_law_same
  simp only [e_pV, e_pvO_dat, e_pvO_lst, e_pvO_tup, e_pvO_dic, e_pvO_ins, e_pvO_vw, e_pC, e_p1, e_p2, e_qD_dat, e_qD, e_qD_no, e_dz_vw, e_dz_dat, e_dz_lst, e_fz_lst, e_q1, e_q2, e_dO, e_pIx, e_qIx, e_ix_lst, e_ix_tup, e_ix_dlst, e_ix_dtup, e_ix_dscr, e_ix_vlst, e_ix_vtup, e_atI, e_atI0, e_atI1, e_atI2, e_atI3, e_atI4, e_atI5, e_atI6, e_pIf, e_qIf, e_pAnd, e_pOr, e_pChain, e_pDs_nil, e_pDs, e_qDs, e_pBC, e_qBC, e_addI, e_addS, e_subI, e_mulI_l, e_mulI_r, e_mulI_m, e_modI, e_divI, e_pow18, e_ltI, e_leI, e_gtI, e_geI, e_eqI, e_neI, e_eqS, e_neS, e_eqB, e_neB, e_not, e_neg, e_int, e_len_lst, e_len_scr, e_len_tup, e_len_str, e_inC, e_listOf_l, e_listOf_t, e_dtC, e_dt2, e_dt1, e_addT, e_addTI, e_addTS, e_mulT, e_fP, e_okP, e_fC, e_fV, e_okV, e_okV_l, e_fTk, e_okT, e_okT_l, e_okT_t, e_rD, e_rD_lst, e_rD_fz, e_f1, e_k1, e_f2, e_k2, e_k2b, e_opt, e_fDs_nil, e_fDs, e_kDs, e_kDc, e_bind, e_fBC, e_kBC, e_fIf, e_kIf, e_kFls, e_kTru, e_fAnd, e_fOr, e_fNot, e_kNot, e_fBv, e_kBv, e_fB, e_kB, e_fSl, e_kSl1, e_kSl2, e_kSl3, e_oI_none, e_oI, e_iR, e_gSl_str, e_gSl_lst, e_gSl_scr, e_fSm, e_kSm, e_kSm2, e_fAnil, e_fAt, e_kAt, e_kAc, e_fArf, e_fAvw, e_okA, e_kAg, e_fLst, e_fTup, e_kDsp, e_tms_nil, e_tms, e_tmO, e_dispT, e_fDf, e_kDf, e_fCall, e_callF, e_callT, e_callR, e_tkM, e_take_nil, e_take_tm, e_take_rf, e_take_vw, e_tkR_d, e_tkR_v, e_tkR_l, e_tkR_i, e_tkV_d, e_tkV_v, e_tkV_l, e_tkV_i, e_put_nil, e_put_tm, e_put_rf, e_put_vw, e_ptR_d, e_ptR_v, e_ptR_l, e_ptR_i, e_ptV_d, e_ptV_v, e_ptV_l, e_ptV_i, e_ow_l, e_ow_i, e_ow_d, e_fSeq, e_sq, e_sq_r, e_sq_b, e_sq_c, e_sq_x, e_sq_if, e_bindS, e_bindS_if, e_bind_if, e_rD_if, e_fSet, e_kSet, e_fRet, e_kRet, e_fExp, e_kExp, e_fIfS, e_kIfS, e_fNx, e_fRetN, e_fSetIx, e_kSetIx, e_stIx, e_stR, e_plc, e_qV, e_plcO_l, e_plcO_i, e_put0, e_setL, e_stO, e_ixN0, e_ixN1, e_ixN2, e_ixN3, e_ixN4, e_ixN5, e_datO, e_fIt, e_kIt, e_itD_l, e_itD_s, e_itD_t, e_itD_z, e_fRg1, e_kRg1, e_fFor, e_kFor, e_fLc, e_kLc, e_kLc2, e_wipe0, e_wipe, e_rest0, e_rest, e_rstO, e_put_nm, e_okW0, e_okW, e_slotOk, e_slotOkN, e_gAll, e_gAny, List.getElem?_cons_zero, List.getElem?_cons_succ, List.set_cons_zero, List.set_cons_succ, List.cons_append, List.nil_append, List.replicate, Option.map_some, Option.bind_some, decide_eq_true_eq, Bool.false_eq_true, if_true, if_false, and_true, true_and, and_self, List.length_map, List.length_cons, List.length_nil, List.getElem?_map, true_or, or_true, decide_true, decide_false, Bool.not_true, Bool.not_false, Bool.not_eq_true, Bool.true_and, Bool.and_true, Bool.false_and, Bool.and_false, reduceIte, Nat.reduceAdd, Nat.reduceSub, Nat.reduceMul, Nat.reduceLT, Nat.reduceLeDiff, Nat.reduceEqDiff, Int.reduceLT, Int.reduceLE, Int.reducePow, Int.reduceNeg, Int.reduceAdd, Int.reduceSub, Int.reduceMul, Int.reduceMod, Int.reduceDiv, Int.reduceToNat, repr_of h1 h2, beq_self_eq_true]
theorem same_l {ts : List T} {ds : List D} {ps : List PyData} (h : (T.lst ts).fz = some (.lst ds)) (h1 : pys ds = some ps) (h2 : SeqAt.shaped (.list ps) = true ∧ (PyData.list ps).showable = true ∧ (PyData.list ps).shown.length ≤ sizeLine) : g_law_same [.lst ts, .lst ts] = .ok (.dat (.bl true)) [.dat (.lst ds), .dat (.lst ds)] := by
  unfold g_law_same
  refine run_ret (env := [.dat (.lst ds), .dat (.lst ds)]) ?_
  have h3 : D.py (.lst ds) = some (.list ps) := by
    show (pys ds).map PyData.list = _
    rw [h1]
    rfl
  unfold b_law_same
  simp only [e_pV, e_pvO_dat, e_pvO_lst, e_pvO_tup, e_pvO_dic, e_pvO_ins, e_pvO_vw, e_pC, e_p1, e_p2, e_qD_dat, e_qD, e_qD_no, e_dz_vw, e_dz_dat, e_dz_lst, e_fz_lst, e_q1, e_q2, e_dO, e_pIx, e_qIx, e_ix_lst, e_ix_tup, e_ix_dlst, e_ix_dtup, e_ix_dscr, e_ix_vlst, e_ix_vtup, e_atI, e_atI0, e_atI1, e_atI2, e_atI3, e_atI4, e_atI5, e_atI6, e_pIf, e_qIf, e_pAnd, e_pOr, e_pChain, e_pDs_nil, e_pDs, e_qDs, e_pBC, e_qBC, e_addI, e_addS, e_subI, e_mulI_l, e_mulI_r, e_mulI_m, e_modI, e_divI, e_pow18, e_ltI, e_leI, e_gtI, e_geI, e_eqI, e_neI, e_eqS, e_neS, e_eqB, e_neB, e_not, e_neg, e_int, e_len_lst, e_len_scr, e_len_tup, e_len_str, e_inC, e_listOf_l, e_listOf_t, e_dtC, e_dt2, e_dt1, e_addT, e_addTI, e_addTS, e_mulT, e_fP, e_okP, e_fC, e_fV, e_okV, e_okV_l, e_fTk, e_okT, e_okT_l, e_okT_t, e_rD, e_rD_lst, e_rD_fz, e_f1, e_k1, e_f2, e_k2, e_k2b, e_opt, e_fDs_nil, e_fDs, e_kDs, e_kDc, e_bind, e_fBC, e_kBC, e_fIf, e_kIf, e_kFls, e_kTru, e_fAnd, e_fOr, e_fNot, e_kNot, e_fBv, e_kBv, e_fB, e_kB, e_fSl, e_kSl1, e_kSl2, e_kSl3, e_oI_none, e_oI, e_iR, e_gSl_str, e_gSl_lst, e_gSl_scr, e_fSm, e_kSm, e_kSm2, e_fAnil, e_fAt, e_kAt, e_kAc, e_fArf, e_fAvw, e_okA, e_kAg, e_fLst, e_fTup, e_kDsp, e_tms_nil, e_tms, e_tmO, e_dispT, e_fDf, e_kDf, e_fCall, e_callF, e_callT, e_callR, e_tkM, e_take_nil, e_take_tm, e_take_rf, e_take_vw, e_tkR_d, e_tkR_v, e_tkR_l, e_tkR_i, e_tkV_d, e_tkV_v, e_tkV_l, e_tkV_i, e_put_nil, e_put_tm, e_put_rf, e_put_vw, e_ptR_d, e_ptR_v, e_ptR_l, e_ptR_i, e_ptV_d, e_ptV_v, e_ptV_l, e_ptV_i, e_ow_l, e_ow_i, e_ow_d, e_fSeq, e_sq, e_sq_r, e_sq_b, e_sq_c, e_sq_x, e_sq_if, e_bindS, e_bindS_if, e_bind_if, e_rD_if, e_fSet, e_kSet, e_fRet, e_kRet, e_fExp, e_kExp, e_fIfS, e_kIfS, e_fNx, e_fRetN, e_fSetIx, e_kSetIx, e_stIx, e_stR, e_plc, e_qV, e_plcO_l, e_plcO_i, e_put0, e_setL, e_stO, e_ixN0, e_ixN1, e_ixN2, e_ixN3, e_ixN4, e_ixN5, e_datO, e_fIt, e_kIt, e_itD_l, e_itD_s, e_itD_t, e_itD_z, e_fRg1, e_kRg1, e_fFor, e_kFor, e_fLc, e_kLc, e_kLc2, e_wipe0, e_wipe, e_rest0, e_rest, e_rstO, e_put_nm, e_okW0, e_okW, e_slotOk, e_slotOkN, e_gAll, e_gAny, List.getElem?_cons_zero, List.getElem?_cons_succ, List.set_cons_zero, List.set_cons_succ, List.cons_append, List.nil_append, List.replicate, Option.map_some, Option.bind_some, decide_eq_true_eq, Bool.false_eq_true, if_true, if_false, and_true, true_and, and_self, List.length_map, List.length_cons, List.length_nil, List.getElem?_map, true_or, or_true, decide_true, decide_false, Bool.not_true, Bool.not_false, Bool.not_eq_true, Bool.true_and, Bool.and_true, Bool.false_and, Bool.and_false, reduceIte, Nat.reduceAdd, Nat.reduceSub, Nat.reduceMul, Nat.reduceLT, Nat.reduceLeDiff, Nat.reduceEqDiff, Int.reduceLT, Int.reduceLE, Int.reducePow, Int.reduceNeg, Int.reduceAdd, Int.reduceSub, Int.reduceMul, Int.reduceMod, Int.reduceDiv, Int.reduceToNat, e_okV_l h, repr_of h3 h2, beq_self_eq_true]
theorem of_ok (x : Src) {ts : List T} {ds : List D} (h : (T.lst ts).fz = some (.lst ds)) (h1 : 0 < ds.length) (h2 : ds.length < 1073741824) : ∃ p : D × Src, p.1 ∈ ds ∧ g_law_of [x.t, .lst ts] = .ok (.dat p.1) [p.2.t, .dat (.lst ds)] := by
  have hm : (0 : Int) < (ds.length : Int) ∧ (ds.length : Int) < 1073741824 := by omega
  have b := dr_in (x := x) hm
  have hlt : (dr x ds.length).1.toNat < ds.length := by omega
  refine ⟨(ds[(dr x ds.length).1.toNat], (dr x ds.length).2), List.getElem_mem _, ?_⟩
  unfold g_law_of
  refine run_ret (env := [(dr x ds.length).2.t, .dat (.lst ds)]) ?_
  unfold b_law_of
  have e : gIx (.lst ds) (.int (dr x ds.length).1) = some (.dat ds[(dr x ds.length).1.toNat]) := by
    show dO (atI ds _) = _
    rw [e_atI_in b.1, List.getElem?_eq_getElem hlt]
    rfl
  simp only [e_pV, e_pvO_dat, e_pvO_lst, e_pvO_tup, e_pvO_dic, e_pvO_ins, e_pvO_vw, e_pC, e_p1, e_p2, e_qD_dat, e_qD, e_qD_no, e_dz_vw, e_dz_dat, e_dz_lst, e_fz_lst, e_q1, e_q2, e_dO, e_pIx, e_qIx, e_ix_lst, e_ix_tup, e_ix_dlst, e_ix_dtup, e_ix_dscr, e_ix_vlst, e_ix_vtup, e_atI, e_atI0, e_atI1, e_atI2, e_atI3, e_atI4, e_atI5, e_atI6, e_pIf, e_qIf, e_pAnd, e_pOr, e_pChain, e_pDs_nil, e_pDs, e_qDs, e_pBC, e_qBC, e_addI, e_addS, e_subI, e_mulI_l, e_mulI_r, e_mulI_m, e_modI, e_divI, e_pow18, e_ltI, e_leI, e_gtI, e_geI, e_eqI, e_neI, e_eqS, e_neS, e_eqB, e_neB, e_not, e_neg, e_int, e_len_lst, e_len_scr, e_len_tup, e_len_str, e_inC, e_listOf_l, e_listOf_t, e_dtC, e_dt2, e_dt1, e_addT, e_addTI, e_addTS, e_mulT, e_fP, e_okP, e_fC, e_fV, e_okV, e_okV_l, e_fTk, e_okT, e_okT_l, e_okT_t, e_rD, e_rD_lst, e_rD_fz, e_f1, e_k1, e_f2, e_k2, e_k2b, e_opt, e_fDs_nil, e_fDs, e_kDs, e_kDc, e_bind, e_fBC, e_kBC, e_fIf, e_kIf, e_kFls, e_kTru, e_fAnd, e_fOr, e_fNot, e_kNot, e_fBv, e_kBv, e_fB, e_kB, e_fSl, e_kSl1, e_kSl2, e_kSl3, e_oI_none, e_oI, e_iR, e_gSl_str, e_gSl_lst, e_gSl_scr, e_fSm, e_kSm, e_kSm2, e_fAnil, e_fAt, e_kAt, e_kAc, e_fArf, e_fAvw, e_okA, e_kAg, e_fLst, e_fTup, e_kDsp, e_tms_nil, e_tms, e_tmO, e_dispT, e_fDf, e_kDf, e_fCall, e_callF, e_callT, e_callR, e_tkM, e_take_nil, e_take_tm, e_take_rf, e_take_vw, e_tkR_d, e_tkR_v, e_tkR_l, e_tkR_i, e_tkV_d, e_tkV_v, e_tkV_l, e_tkV_i, e_put_nil, e_put_tm, e_put_rf, e_put_vw, e_ptR_d, e_ptR_v, e_ptR_l, e_ptR_i, e_ptV_d, e_ptV_v, e_ptV_l, e_ptV_i, e_ow_l, e_ow_i, e_ow_d, e_fSeq, e_sq, e_sq_r, e_sq_b, e_sq_c, e_sq_x, e_sq_if, e_bindS, e_bindS_if, e_bind_if, e_rD_if, e_fSet, e_kSet, e_fRet, e_kRet, e_fExp, e_kExp, e_fIfS, e_kIfS, e_fNx, e_fRetN, e_fSetIx, e_kSetIx, e_stIx, e_stR, e_plc, e_qV, e_plcO_l, e_plcO_i, e_put0, e_setL, e_stO, e_ixN0, e_ixN1, e_ixN2, e_ixN3, e_ixN4, e_ixN5, e_datO, e_fIt, e_kIt, e_itD_l, e_itD_s, e_itD_t, e_itD_z, e_fRg1, e_kRg1, e_fFor, e_kFor, e_fLc, e_kLc, e_kLc2, e_wipe0, e_wipe, e_rest0, e_rest, e_rstO, e_put_nm, e_okW0, e_okW, e_slotOk, e_slotOkN, e_gAll, e_gAny, List.getElem?_cons_zero, List.getElem?_cons_succ, List.set_cons_zero, List.set_cons_succ, List.cons_append, List.nil_append, List.replicate, Option.map_some, Option.bind_some, decide_eq_true_eq, Bool.false_eq_true, if_true, if_false, and_true, true_and, and_self, List.length_map, List.length_cons, List.length_nil, List.getElem?_map, true_or, or_true, decide_true, decide_false, Bool.not_true, Bool.not_false, Bool.not_eq_true, Bool.true_and, Bool.and_true, Bool.false_and, Bool.and_false, reduceIte, Nat.reduceAdd, Nat.reduceSub, Nat.reduceMul, Nat.reduceLT, Nat.reduceLeDiff, Nat.reduceEqDiff, Int.reduceLT, Int.reduceLE, Int.reducePow, Int.reduceNeg, Int.reduceAdd, Int.reduceSub, Int.reduceMul, Int.reduceMod, Int.reduceDiv, Int.reduceToNat, e_okV_l h, t_pvO, t_tkR, t_ptR, t_ow, dr_eq hm, e]
theorem join1 {zs : List Str} (h : ∀ z, z ∈ zs → z.length = 1) : (Txt.join "" zs).length = zs.length := PySem.W.KT.join_ones zs h
theorem word_ok (x : Src) (n : Int) (h0 : 0 ≤ n) (h1 : n ≤ 1000) : ∃ p : Str × Src, p.1.length ≤ 1000 ∧ g_law_word [x.t, .dat (.int n)] = .ok (.dat (.str p.1)) [p.2.t, .dat (.int n)] := by
  obtain ⟨us, e', q1, q2, q3, x', rfl⟩ := lc_inv (I := fun e => ∃ x' : Src, e = [x'.t, .dat (.int n), .dat (.str L), .no]) (C := fun t => ∃ c : Nat, t = .dat (.str ⟨#[c]⟩)) (t := .nm 3) (elt := c_law_word_1) (vs := [3]) (ds := rngD 0 n.toNat) (acc := [])
    (env := [x.t, .dat (.int n), .dat (.str L), .no]) (fun d _ e he => by
      obtain ⟨y, rfl⟩ := he
      have b := dr_in (x := y) (m := 26) ⟨by decide, by decide⟩
      have hlt : (dr y 26).1.toNat < L.cps.toList.length := by
        have : L.cps.toList.length = 26 := rfl
        omega
      have e : gIx (.str L) (.int (dr y 26).1) = some (.dat (.str ⟨#[L.cps.toList[(dr y 26).1.toNat]]⟩)) := by
        show (if L.length ≤ sizeLine then (atI L.cps.toList (dr y 26).1).map fun c => T.dat (.str ⟨#[c]⟩) else none) = _
        rw [if_pos (by decide), e_atI_in b.1, List.getElem?_eq_getElem hlt]
        rfl
      refine ⟨_, [(dr y 26).2.t, .dat (.int n), .dat (.str L), .dat d], .dat (.str ⟨#[L.cps.toList[(dr y 26).1.toNat]]⟩), rfl, ?_, ⟨_, rfl⟩, ⟨(dr y 26).2, rfl⟩⟩
      unfold c_law_word_1
      simp only [e_pV, e_pvO_dat, e_pvO_lst, e_pvO_tup, e_pvO_dic, e_pvO_ins, e_pvO_vw, e_pC, e_p1, e_p2, e_qD_dat, e_qD, e_qD_no, e_dz_vw, e_dz_dat, e_dz_lst, e_fz_lst, e_q1, e_q2, e_dO, e_pIx, e_qIx, e_ix_lst, e_ix_tup, e_ix_dlst, e_ix_dtup, e_ix_dscr, e_ix_vlst, e_ix_vtup, e_atI, e_atI0, e_atI1, e_atI2, e_atI3, e_atI4, e_atI5, e_atI6, e_pIf, e_qIf, e_pAnd, e_pOr, e_pChain, e_pDs_nil, e_pDs, e_qDs, e_pBC, e_qBC, e_addI, e_addS, e_subI, e_mulI_l, e_mulI_r, e_mulI_m, e_modI, e_divI, e_pow18, e_ltI, e_leI, e_gtI, e_geI, e_eqI, e_neI, e_eqS, e_neS, e_eqB, e_neB, e_not, e_neg, e_int, e_len_lst, e_len_scr, e_len_tup, e_len_str, e_inC, e_listOf_l, e_listOf_t, e_dtC, e_dt2, e_dt1, e_addT, e_addTI, e_addTS, e_mulT, e_fP, e_okP, e_fC, e_fV, e_okV, e_okV_l, e_fTk, e_okT, e_okT_l, e_okT_t, e_rD, e_rD_lst, e_rD_fz, e_f1, e_k1, e_f2, e_k2, e_k2b, e_opt, e_fDs_nil, e_fDs, e_kDs, e_kDc, e_bind, e_fBC, e_kBC, e_fIf, e_kIf, e_kFls, e_kTru, e_fAnd, e_fOr, e_fNot, e_kNot, e_fBv, e_kBv, e_fB, e_kB, e_fSl, e_kSl1, e_kSl2, e_kSl3, e_oI_none, e_oI, e_iR, e_gSl_str, e_gSl_lst, e_gSl_scr, e_fSm, e_kSm, e_kSm2, e_fAnil, e_fAt, e_kAt, e_kAc, e_fArf, e_fAvw, e_okA, e_kAg, e_fLst, e_fTup, e_kDsp, e_tms_nil, e_tms, e_tmO, e_dispT, e_fDf, e_kDf, e_fCall, e_callF, e_callT, e_callR, e_tkM, e_take_nil, e_take_tm, e_take_rf, e_take_vw, e_tkR_d, e_tkR_v, e_tkR_l, e_tkR_i, e_tkV_d, e_tkV_v, e_tkV_l, e_tkV_i, e_put_nil, e_put_tm, e_put_rf, e_put_vw, e_ptR_d, e_ptR_v, e_ptR_l, e_ptR_i, e_ptV_d, e_ptV_v, e_ptV_l, e_ptV_i, e_ow_l, e_ow_i, e_ow_d, e_fSeq, e_sq, e_sq_r, e_sq_b, e_sq_c, e_sq_x, e_sq_if, e_bindS, e_bindS_if, e_bind_if, e_rD_if, e_fSet, e_kSet, e_fRet, e_kRet, e_fExp, e_kExp, e_fIfS, e_kIfS, e_fNx, e_fRetN, e_fSetIx, e_kSetIx, e_stIx, e_stR, e_plc, e_qV, e_plcO_l, e_plcO_i, e_put0, e_setL, e_stO, e_ixN0, e_ixN1, e_ixN2, e_ixN3, e_ixN4, e_ixN5, e_datO, e_fIt, e_kIt, e_itD_l, e_itD_s, e_itD_t, e_itD_z, e_fRg1, e_kRg1, e_fFor, e_kFor, e_fLc, e_kLc, e_kLc2, e_wipe0, e_wipe, e_rest0, e_rest, e_rstO, e_put_nm, e_okW0, e_okW, e_slotOk, e_slotOkN, e_gAll, e_gAny, List.getElem?_cons_zero, List.getElem?_cons_succ, List.set_cons_zero, List.set_cons_succ, List.cons_append, List.nil_append, List.replicate, Option.map_some, Option.bind_some, decide_eq_true_eq, Bool.false_eq_true, if_true, if_false, and_true, true_and, and_self, List.length_map, List.length_cons, List.length_nil, List.getElem?_map, true_or, or_true, decide_true, decide_false, Bool.not_true, Bool.not_false, Bool.not_eq_true, Bool.true_and, Bool.and_true, Bool.false_and, Bool.and_false, reduceIte, Nat.reduceAdd, Nat.reduceSub, Nat.reduceMul, Nat.reduceLT, Nat.reduceLeDiff, Nat.reduceEqDiff, Int.reduceLT, Int.reduceLE, Int.reducePow, Int.reduceNeg, Int.reduceAdd, Int.reduceSub, Int.reduceMul, Int.reduceMod, Int.reduceDiv, Int.reduceToNat, t_pvO, t_tkR, t_ptR, t_ow, dr_eq (x := y) (m := 26) ⟨by decide, by decide⟩, e]) ⟨x, rfl⟩ (by
      rw [List.length_nil, rng_len]
      have : (1000 : Nat) ≤ sizeLine := by decide
      omega)
  rw [rng_len] at q2
  obtain ⟨zs, rfl, hz⟩ : ∃ zs : List Str, us = (zs.map .str).map .dat ∧ ∀ z, z ∈ zs → z.length = 1 := by
    clear q1 q2
    induction us with
    | nil => exact ⟨[], rfl, fun _ z => (List.not_mem_nil z).elim⟩
    | cons u us ih =>
      obtain ⟨c, rfl⟩ := q3 u List.mem_cons_self
      obtain ⟨zs, rfl, hz⟩ := ih fun u z => q3 u (List.mem_cons_of_mem _ z)
      exact ⟨⟨#[c]⟩ :: zs, rfl, fun z hh => (List.mem_cons.mp hh).elim (fun e => by rw [e]; rfl) (hz z)⟩
  have hn : zs.length = n.toNat := by
    rw [List.length_map, List.length_map] at q2
    exact q2
  have hs : (zs.map (·.length)).sum = zs.length := by
    clear q1 q2 q3 hn
    induction zs with
    | nil => rfl
    | cons z zs ih =>
      rw [List.map_cons, List.sum_cons, ih fun y hy => hz y (List.mem_cons_of_mem _ hy), hz z List.mem_cons_self, List.length_cons]
      omega
  have ej : gJoin "" (.lst (zs.map .str)) = some (.dat (.str (Txt.join "" zs))) := e_join (by
    have : ("" : Str).length = 0 := rfl
    rw [hs, this]
    omega)
  refine ⟨(Txt.join "" zs, x'), by rw [join1 hz, hn]; omega, ?_⟩
  unfold g_law_word
  refine run_ret (env := [x'.t, .dat (.int n), .dat (.str L), .no]) ?_
  have hL : ("abcdefghijklmnopqrstuvwxyz" : Str) = L := rfl
  have hr : -(2 ^ 62) ≤ n ∧ n < 2 ^ 62 := by omega
  unfold b_law_word
  rw [hL]
  simp only [e_pV, e_pvO_dat, e_pvO_lst, e_pvO_tup, e_pvO_dic, e_pvO_ins, e_pvO_vw, e_pC, e_p1, e_p2, e_qD_dat, e_qD, e_qD_no, e_dz_vw, e_dz_dat, e_dz_lst, e_fz_lst, e_q1, e_q2, e_dO, e_pIx, e_qIx, e_ix_lst, e_ix_tup, e_ix_dlst, e_ix_dtup, e_ix_dscr, e_ix_vlst, e_ix_vtup, e_atI, e_atI0, e_atI1, e_atI2, e_atI3, e_atI4, e_atI5, e_atI6, e_pIf, e_qIf, e_pAnd, e_pOr, e_pChain, e_pDs_nil, e_pDs, e_qDs, e_pBC, e_qBC, e_addI, e_addS, e_subI, e_mulI_l, e_mulI_r, e_mulI_m, e_modI, e_divI, e_pow18, e_ltI, e_leI, e_gtI, e_geI, e_eqI, e_neI, e_eqS, e_neS, e_eqB, e_neB, e_not, e_neg, e_int, e_len_lst, e_len_scr, e_len_tup, e_len_str, e_inC, e_listOf_l, e_listOf_t, e_dtC, e_dt2, e_dt1, e_addT, e_addTI, e_addTS, e_mulT, e_fP, e_okP, e_fC, e_fV, e_okV, e_okV_l, e_fTk, e_okT, e_okT_l, e_okT_t, e_rD, e_rD_lst, e_rD_fz, e_f1, e_k1, e_f2, e_k2, e_k2b, e_opt, e_fDs_nil, e_fDs, e_kDs, e_kDc, e_bind, e_fBC, e_kBC, e_fIf, e_kIf, e_kFls, e_kTru, e_fAnd, e_fOr, e_fNot, e_kNot, e_fBv, e_kBv, e_fB, e_kB, e_fSl, e_kSl1, e_kSl2, e_kSl3, e_oI_none, e_oI, e_iR, e_gSl_str, e_gSl_lst, e_gSl_scr, e_fSm, e_kSm, e_kSm2, e_fAnil, e_fAt, e_kAt, e_kAc, e_fArf, e_fAvw, e_okA, e_kAg, e_fLst, e_fTup, e_kDsp, e_tms_nil, e_tms, e_tmO, e_dispT, e_fDf, e_kDf, e_fCall, e_callF, e_callT, e_callR, e_tkM, e_take_nil, e_take_tm, e_take_rf, e_take_vw, e_tkR_d, e_tkR_v, e_tkR_l, e_tkR_i, e_tkV_d, e_tkV_v, e_tkV_l, e_tkV_i, e_put_nil, e_put_tm, e_put_rf, e_put_vw, e_ptR_d, e_ptR_v, e_ptR_l, e_ptR_i, e_ptV_d, e_ptV_v, e_ptV_l, e_ptV_i, e_ow_l, e_ow_i, e_ow_d, e_fSeq, e_sq, e_sq_r, e_sq_b, e_sq_c, e_sq_x, e_sq_if, e_bindS, e_bindS_if, e_bind_if, e_rD_if, e_fSet, e_kSet, e_fRet, e_kRet, e_fExp, e_kExp, e_fIfS, e_kIfS, e_fNx, e_fRetN, e_fSetIx, e_kSetIx, e_stIx, e_stR, e_plc, e_qV, e_plcO_l, e_plcO_i, e_put0, e_setL, e_stO, e_ixN0, e_ixN1, e_ixN2, e_ixN3, e_ixN4, e_ixN5, e_datO, e_fIt, e_kIt, e_itD_l, e_itD_s, e_itD_t, e_itD_z, e_fRg1, e_kRg1, e_fFor, e_kFor, e_fLc, e_kLc, e_kLc2, e_wipe0, e_wipe, e_rest0, e_rest, e_rstO, e_put_nm, e_okW0, e_okW, e_slotOk, e_slotOkN, e_gAll, e_gAny, List.getElem?_cons_zero, List.getElem?_cons_succ, List.set_cons_zero, List.set_cons_succ, List.cons_append, List.nil_append, List.replicate, Option.map_some, Option.bind_some, decide_eq_true_eq, Bool.false_eq_true, if_true, if_false, and_true, true_and, and_self, List.length_map, List.length_cons, List.length_nil, List.getElem?_map, true_or, or_true, decide_true, decide_false, Bool.not_true, Bool.not_false, Bool.not_eq_true, Bool.true_and, Bool.and_true, Bool.false_and, Bool.and_false, reduceIte, Nat.reduceAdd, Nat.reduceSub, Nat.reduceMul, Nat.reduceLT, Nat.reduceLeDiff, Nat.reduceEqDiff, Int.reduceLT, Int.reduceLE, Int.reducePow, Int.reduceNeg, Int.reduceAdd, Int.reduceSub, Int.reduceMul, Int.reduceMod, Int.reduceDiv, Int.reduceToNat, e_kRg1 hr, q1, ej]
open Classical in
noncomputable def wd (x : Src) (n : Int) : Str × Src := if h : 0 ≤ n ∧ n ≤ 1000 then (word_ok x n h.1 h.2).choose else ("", x)
theorem wd_eq {x : Src} {n : Int} (h : 0 ≤ n ∧ n ≤ 1000) : g_law_word [x.t, .dat (.int n)] = .ok (.dat (.str (wd x n).1)) [(wd x n).2.t, .dat (.int n)] := by
  unfold wd
  rw [dif_pos h]
  exact (word_ok x n h.1 h.2).choose_spec.2
theorem wd_in {x : Src} {n : Int} (h : 0 ≤ n ∧ n ≤ 1000) : (wd x n).1.length ≤ 1000 := by
  unfold wd
  rw [dif_pos h]
  exact (word_ok x n h.1 h.2).choose_spec.1
/-- one of these texts -/
theorem pick_ok (x : Src) {ts : List T} {zs : List Str} (h : (T.lst ts).fz = some (.lst (zs.map .str))) (h1 : 0 < zs.length ∧ zs.length < 1000) (h2 : ∀ z, z ∈ zs → z.length ≤ 1000) : ∃ p : Str × Src, p.1.length ≤ 1000 ∧ g_law_of [x.t, .lst ts] = .ok (.dat (.str p.1)) [p.2.t, .dat (.lst (zs.map .str))] := by
  obtain ⟨p, m, e⟩ := of_ok x h (by rw [List.length_map]; exact h1.1) (by rw [List.length_map]; omega)
  obtain ⟨z, hz, q⟩ := List.mem_map.mp m
  exact ⟨(z, p.2), h2 z hz, by rw [e, ← q]⟩
def zBad : List Str := ["", "A", "a b", "abcdefghi", "a1", "-", "none ", repS "z" 9, "x_", "a\n"]
def zIns : List Str := ["A", "Z", " ", "0", "-", "_", "\n", "", "=", "+"]
theorem bad_ok (x : Src) : ∃ p : Str × Src, p.1.length ≤ 1000 ∧ g_law_bad_name [x.t] = .ok (.dat (.str p.1)) [p.2.t] := by
  obtain ⟨p, h, e⟩ := pick_ok x (ts := (zBad.map D.str).map .dat) (zs := zBad) e_fz_lst (by decide) (by decide)
  refine ⟨p, h, ?_⟩
  unfold g_law_bad_name
  refine run_ret (env := [p.2.t]) ?_
  unfold b_law_bad_name
  have em : gMul (.str "z") (.int 9) = some (.str (repS "z" 9)) := by
    show (if cRep "z" 9 then some (D.str (repS "z" (9 : Int).toNat)) else none) = _
    rw [if_pos ⟨by decide, by decide, by decide, by decide⟩]
    rfl
  unfold zBad at e
  simp only [List.map_cons, List.map_nil] at e
  simp only [e_pV, e_pvO_dat, e_pvO_lst, e_pvO_tup, e_pvO_dic, e_pvO_ins, e_pvO_vw, e_pC, e_p1, e_p2, e_qD_dat, e_qD, e_qD_no, e_dz_vw, e_dz_dat, e_dz_lst, e_fz_lst, e_q1, e_q2, e_dO, e_pIx, e_qIx, e_ix_lst, e_ix_tup, e_ix_dlst, e_ix_dtup, e_ix_dscr, e_ix_vlst, e_ix_vtup, e_atI, e_atI0, e_atI1, e_atI2, e_atI3, e_atI4, e_atI5, e_atI6, e_pIf, e_qIf, e_pAnd, e_pOr, e_pChain, e_pDs_nil, e_pDs, e_qDs, e_pBC, e_qBC, e_addI, e_addS, e_subI, e_mulI_l, e_mulI_r, e_mulI_m, e_modI, e_divI, e_pow18, e_ltI, e_leI, e_gtI, e_geI, e_eqI, e_neI, e_eqS, e_neS, e_eqB, e_neB, e_not, e_neg, e_int, e_len_lst, e_len_scr, e_len_tup, e_len_str, e_inC, e_listOf_l, e_listOf_t, e_dtC, e_dt2, e_dt1, e_addT, e_addTI, e_addTS, e_mulT, e_fP, e_okP, e_fC, e_fV, e_okV, e_okV_l, e_fTk, e_okT, e_okT_l, e_okT_t, e_rD, e_rD_lst, e_rD_fz, e_f1, e_k1, e_f2, e_k2, e_k2b, e_opt, e_fDs_nil, e_fDs, e_kDs, e_kDc, e_bind, e_fBC, e_kBC, e_fIf, e_kIf, e_kFls, e_kTru, e_fAnd, e_fOr, e_fNot, e_kNot, e_fBv, e_kBv, e_fB, e_kB, e_fSl, e_kSl1, e_kSl2, e_kSl3, e_oI_none, e_oI, e_iR, e_gSl_str, e_gSl_lst, e_gSl_scr, e_fSm, e_kSm, e_kSm2, e_fAnil, e_fAt, e_kAt, e_kAc, e_fArf, e_fAvw, e_okA, e_kAg, e_fLst, e_fTup, e_kDsp, e_tms_nil, e_tms, e_tmO, e_dispT, e_fDf, e_kDf, e_fCall, e_callF, e_callT, e_callR, e_tkM, e_take_nil, e_take_tm, e_take_rf, e_take_vw, e_tkR_d, e_tkR_v, e_tkR_l, e_tkR_i, e_tkV_d, e_tkV_v, e_tkV_l, e_tkV_i, e_put_nil, e_put_tm, e_put_rf, e_put_vw, e_ptR_d, e_ptR_v, e_ptR_l, e_ptR_i, e_ptV_d, e_ptV_v, e_ptV_l, e_ptV_i, e_ow_l, e_ow_i, e_ow_d, e_fSeq, e_sq, e_sq_r, e_sq_b, e_sq_c, e_sq_x, e_sq_if, e_bindS, e_bindS_if, e_bind_if, e_rD_if, e_fSet, e_kSet, e_fRet, e_kRet, e_fExp, e_kExp, e_fIfS, e_kIfS, e_fNx, e_fRetN, e_fSetIx, e_kSetIx, e_stIx, e_stR, e_plc, e_qV, e_plcO_l, e_plcO_i, e_put0, e_setL, e_stO, e_ixN0, e_ixN1, e_ixN2, e_ixN3, e_ixN4, e_ixN5, e_datO, e_fIt, e_kIt, e_itD_l, e_itD_s, e_itD_t, e_itD_z, e_fRg1, e_kRg1, e_fFor, e_kFor, e_fLc, e_kLc, e_kLc2, e_wipe0, e_wipe, e_rest0, e_rest, e_rstO, e_put_nm, e_okW0, e_okW, e_slotOk, e_slotOkN, e_gAll, e_gAny, List.getElem?_cons_zero, List.getElem?_cons_succ, List.set_cons_zero, List.set_cons_succ, List.cons_append, List.nil_append, List.replicate, Option.map_some, Option.bind_some, decide_eq_true_eq, Bool.false_eq_true, if_true, if_false, and_true, true_and, and_self, List.length_map, List.length_cons, List.length_nil, List.getElem?_map, true_or, or_true, decide_true, decide_false, Bool.not_true, Bool.not_false, Bool.not_eq_true, Bool.true_and, Bool.and_true, Bool.false_and, Bool.and_false, reduceIte, Nat.reduceAdd, Nat.reduceSub, Nat.reduceMul, Nat.reduceLT, Nat.reduceLeDiff, Nat.reduceEqDiff, Int.reduceLT, Int.reduceLE, Int.reducePow, Int.reduceNeg, Int.reduceAdd, Int.reduceSub, Int.reduceMul, Int.reduceMod, Int.reduceDiv, Int.reduceToNat, em, t_pvO, t_tkR, t_ptR, t_ow, e]
theorem ins_ok (x : Src) : ∃ p : Str × Src, p.1.length ≤ 1000 ∧ g_law_of [x.t, .lst [.dat (.str "A"), .dat (.str "Z"), .dat (.str " "), .dat (.str "0"), .dat (.str "-"), .dat (.str "_"), .dat (.str "\n"), .dat (.str ""), .dat (.str "="), .dat (.str "+")]] = .ok (.dat (.str p.1)) [p.2.t, .dat (.lst (zIns.map .str))] :=
  pick_ok x (ts := (zIns.map D.str).map .dat) (zs := zIns) e_fz_lst (by decide) (by decide)
noncomputable def bn (x : Src) : Str × Src := (bad_ok x).choose
theorem bn_eq {x : Src} : g_law_bad_name [x.t] = .ok (.dat (.str (bn x).1)) [(bn x).2.t] := (bad_ok x).choose_spec.2
theorem bn_in {x : Src} : (bn x).1.length ≤ 1000 := (bad_ok x).choose_spec.1
noncomputable def ins (x : Src) : Str × Src := (ins_ok x).choose
theorem ins_eq {x : Src} : g_law_of [x.t, .lst [.dat (.str "A"), .dat (.str "Z"), .dat (.str " "), .dat (.str "0"), .dat (.str "-"), .dat (.str "_"), .dat (.str "\n"), .dat (.str ""), .dat (.str "="), .dat (.str "+")]] = .ok (.dat (.str (ins x).1)) [(ins x).2.t, .dat (.lst (zIns.map .str))] := (ins_ok x).choose_spec.2
theorem ins_in {x : Src} : (ins x).1.length ≤ 1000 := (ins_ok x).choose_spec.1
theorem same_b {b : Bool} : g_law_same [.dat (.bl b), .dat (.bl b)] = .ok (.dat (.bl true)) [.dat (.bl b), .dat (.bl b)] := same_eq rfl (by cases b <;> decide)
theorem lz : (10000 : Nat) ≤ sizeLine := by decide
/-- the turn's last part: the two answers are the same -/
theorem turn_end {x : Src} {a b c : T} {z : Str} (hz : z.length ≤ sizeLine) : i_law_3 [a, x.t, b, .dat (.str z), c] = .nx [a, x.t, b, .dat (.str z), c] := by
  unfold i_law_3
  simp only [e_pV, e_pvO_dat, e_pvO_lst, e_pvO_tup, e_pvO_dic, e_pvO_ins, e_pvO_vw, e_pC, e_p1, e_p2, e_qD_dat, e_qD, e_qD_no, e_dz_vw, e_dz_dat, e_dz_lst, e_fz_lst, e_q1, e_q2, e_dO, e_pIx, e_qIx, e_ix_lst, e_ix_tup, e_ix_dlst, e_ix_dtup, e_ix_dscr, e_ix_vlst, e_ix_vtup, e_atI, e_atI0, e_atI1, e_atI2, e_atI3, e_atI4, e_atI5, e_atI6, e_pIf, e_qIf, e_pAnd, e_pOr, e_pChain, e_pDs_nil, e_pDs, e_qDs, e_pBC, e_qBC, e_addI, e_addS, e_subI, e_mulI_l, e_mulI_r, e_mulI_m, e_modI, e_divI, e_pow18, e_ltI, e_leI, e_gtI, e_geI, e_eqI, e_neI, e_eqS, e_neS, e_eqB, e_neB, e_not, e_neg, e_int, e_len_lst, e_len_scr, e_len_tup, e_len_str, e_inC, e_listOf_l, e_listOf_t, e_dtC, e_dt2, e_dt1, e_addT, e_addTI, e_addTS, e_mulT, e_fP, e_okP, e_fC, e_fV, e_okV, e_okV_l, e_fTk, e_okT, e_okT_l, e_okT_t, e_rD, e_rD_lst, e_rD_fz, e_f1, e_k1, e_f2, e_k2, e_k2b, e_opt, e_fDs_nil, e_fDs, e_kDs, e_kDc, e_bind, e_fBC, e_kBC, e_fIf, e_kIf, e_kFls, e_kTru, e_fAnd, e_fOr, e_fNot, e_kNot, e_fBv, e_kBv, e_fB, e_kB, e_fSl, e_kSl1, e_kSl2, e_kSl3, e_oI_none, e_oI, e_iR, e_gSl_str, e_gSl_lst, e_gSl_scr, e_fSm, e_kSm, e_kSm2, e_fAnil, e_fAt, e_kAt, e_kAc, e_fArf, e_fAvw, e_okA, e_kAg, e_fLst, e_fTup, e_kDsp, e_tms_nil, e_tms, e_tmO, e_dispT, e_fDf, e_kDf, e_fCall, e_callF, e_callT, e_callR, e_tkM, e_take_nil, e_take_tm, e_take_rf, e_take_vw, e_tkR_d, e_tkR_v, e_tkR_l, e_tkR_i, e_tkV_d, e_tkV_v, e_tkV_l, e_tkV_i, e_put_nil, e_put_tm, e_put_rf, e_put_vw, e_ptR_d, e_ptR_v, e_ptR_l, e_ptR_i, e_ptV_d, e_ptV_v, e_ptV_l, e_ptV_i, e_ow_l, e_ow_i, e_ow_d, e_fSeq, e_sq, e_sq_r, e_sq_b, e_sq_c, e_sq_x, e_sq_if, e_bindS, e_bindS_if, e_bind_if, e_rD_if, e_fSet, e_kSet, e_fRet, e_kRet, e_fExp, e_kExp, e_fIfS, e_kIfS, e_fNx, e_fRetN, e_fSetIx, e_kSetIx, e_stIx, e_stR, e_plc, e_qV, e_plcO_l, e_plcO_i, e_put0, e_setL, e_stO, e_ixN0, e_ixN1, e_ixN2, e_ixN3, e_ixN4, e_ixN5, e_datO, e_fIt, e_kIt, e_itD_l, e_itD_s, e_itD_t, e_itD_z, e_fRg1, e_kRg1, e_fFor, e_kFor, e_fLc, e_kLc, e_kLc2, e_wipe0, e_wipe, e_rest0, e_rest, e_rstO, e_put_nm, e_okW0, e_okW, e_slotOk, e_slotOkN, e_gAll, e_gAny, List.getElem?_cons_zero, List.getElem?_cons_succ, List.set_cons_zero, List.set_cons_succ, List.cons_append, List.nil_append, List.replicate, Option.map_some, Option.bind_some, decide_eq_true_eq, Bool.false_eq_true, if_true, if_false, and_true, true_and, and_self, List.length_map, List.length_cons, List.length_nil, List.getElem?_map, true_or, or_true, decide_true, decide_false, Bool.not_true, Bool.not_false, Bool.not_eq_true, Bool.true_and, Bool.and_true, Bool.false_and, Bool.and_false, reduceIte, Nat.reduceAdd, Nat.reduceSub, Nat.reduceMul, Nat.reduceLT, Nat.reduceLeDiff, Nat.reduceEqDiff, Int.reduceLT, Int.reduceLE, Int.reducePow, Int.reduceNeg, Int.reduceAdd, Int.reduceSub, Int.reduceMul, Int.reduceMod, Int.reduceDiv, Int.reduceToNat, is_name_eq hz, law_is_name_eq hz, same_b]
theorem turn_bad {x : Src} {a b d : T} {z : Str} (hz : z.length ≤ 3000) : ∃ (x' : Src) (z' : Str), z'.length ≤ 3000 ∧ i_law_2 [a, x.t, b, .dat (.str z), d] = .nx [a, x'.t, b, .dat (.str z'), d] := by
  have m4 : (0 : Int) < 4 ∧ (4 : Int) < 1073741824 := by decide
  unfold i_law_2
  by_cases h : (dr x 4).1 = 0
  · refine ⟨(bn (dr x 4).2).2, (bn (dr x 4).2).1, Nat.le_trans bn_in (by decide), ?_⟩
    simp only [e_pV, e_pvO_dat, e_pvO_lst, e_pvO_tup, e_pvO_dic, e_pvO_ins, e_pvO_vw, e_pC, e_p1, e_p2, e_qD_dat, e_qD, e_qD_no, e_dz_vw, e_dz_dat, e_dz_lst, e_fz_lst, e_q1, e_q2, e_dO, e_pIx, e_qIx, e_ix_lst, e_ix_tup, e_ix_dlst, e_ix_dtup, e_ix_dscr, e_ix_vlst, e_ix_vtup, e_atI, e_atI0, e_atI1, e_atI2, e_atI3, e_atI4, e_atI5, e_atI6, e_pIf, e_qIf, e_pAnd, e_pOr, e_pChain, e_pDs_nil, e_pDs, e_qDs, e_pBC, e_qBC, e_addI, e_addS, e_subI, e_mulI_l, e_mulI_r, e_mulI_m, e_modI, e_divI, e_pow18, e_ltI, e_leI, e_gtI, e_geI, e_eqI, e_neI, e_eqS, e_neS, e_eqB, e_neB, e_not, e_neg, e_int, e_len_lst, e_len_scr, e_len_tup, e_len_str, e_inC, e_listOf_l, e_listOf_t, e_dtC, e_dt2, e_dt1, e_addT, e_addTI, e_addTS, e_mulT, e_fP, e_okP, e_fC, e_fV, e_okV, e_okV_l, e_fTk, e_okT, e_okT_l, e_okT_t, e_rD, e_rD_lst, e_rD_fz, e_f1, e_k1, e_f2, e_k2, e_k2b, e_opt, e_fDs_nil, e_fDs, e_kDs, e_kDc, e_bind, e_fBC, e_kBC, e_fIf, e_kIf, e_kFls, e_kTru, e_fAnd, e_fOr, e_fNot, e_kNot, e_fBv, e_kBv, e_fB, e_kB, e_fSl, e_kSl1, e_kSl2, e_kSl3, e_oI_none, e_oI, e_iR, e_gSl_str, e_gSl_lst, e_gSl_scr, e_fSm, e_kSm, e_kSm2, e_fAnil, e_fAt, e_kAt, e_kAc, e_fArf, e_fAvw, e_okA, e_kAg, e_fLst, e_fTup, e_kDsp, e_tms_nil, e_tms, e_tmO, e_dispT, e_fDf, e_kDf, e_fCall, e_callF, e_callT, e_callR, e_tkM, e_take_nil, e_take_tm, e_take_rf, e_take_vw, e_tkR_d, e_tkR_v, e_tkR_l, e_tkR_i, e_tkV_d, e_tkV_v, e_tkV_l, e_tkV_i, e_put_nil, e_put_tm, e_put_rf, e_put_vw, e_ptR_d, e_ptR_v, e_ptR_l, e_ptR_i, e_ptV_d, e_ptV_v, e_ptV_l, e_ptV_i, e_ow_l, e_ow_i, e_ow_d, e_fSeq, e_sq, e_sq_r, e_sq_b, e_sq_c, e_sq_x, e_sq_if, e_bindS, e_bindS_if, e_bind_if, e_rD_if, e_fSet, e_kSet, e_fRet, e_kRet, e_fExp, e_kExp, e_fIfS, e_kIfS, e_fNx, e_fRetN, e_fSetIx, e_kSetIx, e_stIx, e_stR, e_plc, e_qV, e_plcO_l, e_plcO_i, e_put0, e_setL, e_stO, e_ixN0, e_ixN1, e_ixN2, e_ixN3, e_ixN4, e_ixN5, e_datO, e_fIt, e_kIt, e_itD_l, e_itD_s, e_itD_t, e_itD_z, e_fRg1, e_kRg1, e_fFor, e_kFor, e_fLc, e_kLc, e_kLc2, e_wipe0, e_wipe, e_rest0, e_rest, e_rstO, e_put_nm, e_okW0, e_okW, e_slotOk, e_slotOkN, e_gAll, e_gAny, List.getElem?_cons_zero, List.getElem?_cons_succ, List.set_cons_zero, List.set_cons_succ, List.cons_append, List.nil_append, List.replicate, Option.map_some, Option.bind_some, decide_eq_true_eq, Bool.false_eq_true, if_true, if_false, and_true, true_and, and_self, List.length_map, List.length_cons, List.length_nil, List.getElem?_map, true_or, or_true, decide_true, decide_false, Bool.not_true, Bool.not_false, Bool.not_eq_true, Bool.true_and, Bool.and_true, Bool.false_and, Bool.and_false, reduceIte, Nat.reduceAdd, Nat.reduceSub, Nat.reduceMul, Nat.reduceLT, Nat.reduceLeDiff, Nat.reduceEqDiff, Int.reduceLT, Int.reduceLE, Int.reducePow, Int.reduceNeg, Int.reduceAdd, Int.reduceSub, Int.reduceMul, Int.reduceMod, Int.reduceDiv, Int.reduceToNat, t_pvO, t_tkR, t_ptR, t_ow, dr_eq m4, h, bn_eq, beq_iff_eq]
  · refine ⟨(dr x 4).2, z, hz, ?_⟩
    simp only [e_pV, e_pvO_dat, e_pvO_lst, e_pvO_tup, e_pvO_dic, e_pvO_ins, e_pvO_vw, e_pC, e_p1, e_p2, e_qD_dat, e_qD, e_qD_no, e_dz_vw, e_dz_dat, e_dz_lst, e_fz_lst, e_q1, e_q2, e_dO, e_pIx, e_qIx, e_ix_lst, e_ix_tup, e_ix_dlst, e_ix_dtup, e_ix_dscr, e_ix_vlst, e_ix_vtup, e_atI, e_atI0, e_atI1, e_atI2, e_atI3, e_atI4, e_atI5, e_atI6, e_pIf, e_qIf, e_pAnd, e_pOr, e_pChain, e_pDs_nil, e_pDs, e_qDs, e_pBC, e_qBC, e_addI, e_addS, e_subI, e_mulI_l, e_mulI_r, e_mulI_m, e_modI, e_divI, e_pow18, e_ltI, e_leI, e_gtI, e_geI, e_eqI, e_neI, e_eqS, e_neS, e_eqB, e_neB, e_not, e_neg, e_int, e_len_lst, e_len_scr, e_len_tup, e_len_str, e_inC, e_listOf_l, e_listOf_t, e_dtC, e_dt2, e_dt1, e_addT, e_addTI, e_addTS, e_mulT, e_fP, e_okP, e_fC, e_fV, e_okV, e_okV_l, e_fTk, e_okT, e_okT_l, e_okT_t, e_rD, e_rD_lst, e_rD_fz, e_f1, e_k1, e_f2, e_k2, e_k2b, e_opt, e_fDs_nil, e_fDs, e_kDs, e_kDc, e_bind, e_fBC, e_kBC, e_fIf, e_kIf, e_kFls, e_kTru, e_fAnd, e_fOr, e_fNot, e_kNot, e_fBv, e_kBv, e_fB, e_kB, e_fSl, e_kSl1, e_kSl2, e_kSl3, e_oI_none, e_oI, e_iR, e_gSl_str, e_gSl_lst, e_gSl_scr, e_fSm, e_kSm, e_kSm2, e_fAnil, e_fAt, e_kAt, e_kAc, e_fArf, e_fAvw, e_okA, e_kAg, e_fLst, e_fTup, e_kDsp, e_tms_nil, e_tms, e_tmO, e_dispT, e_fDf, e_kDf, e_fCall, e_callF, e_callT, e_callR, e_tkM, e_take_nil, e_take_tm, e_take_rf, e_take_vw, e_tkR_d, e_tkR_v, e_tkR_l, e_tkR_i, e_tkV_d, e_tkV_v, e_tkV_l, e_tkV_i, e_put_nil, e_put_tm, e_put_rf, e_put_vw, e_ptR_d, e_ptR_v, e_ptR_l, e_ptR_i, e_ptV_d, e_ptV_v, e_ptV_l, e_ptV_i, e_ow_l, e_ow_i, e_ow_d, e_fSeq, e_sq, e_sq_r, e_sq_b, e_sq_c, e_sq_x, e_sq_if, e_bindS, e_bindS_if, e_bind_if, e_rD_if, e_fSet, e_kSet, e_fRet, e_kRet, e_fExp, e_kExp, e_fIfS, e_kIfS, e_fNx, e_fRetN, e_fSetIx, e_kSetIx, e_stIx, e_stR, e_plc, e_qV, e_plcO_l, e_plcO_i, e_put0, e_setL, e_stO, e_ixN0, e_ixN1, e_ixN2, e_ixN3, e_ixN4, e_ixN5, e_datO, e_fIt, e_kIt, e_itD_l, e_itD_s, e_itD_t, e_itD_z, e_fRg1, e_kRg1, e_fFor, e_kFor, e_fLc, e_kLc, e_kLc2, e_wipe0, e_wipe, e_rest0, e_rest, e_rstO, e_put_nm, e_okW0, e_okW, e_slotOk, e_slotOkN, e_gAll, e_gAny, List.getElem?_cons_zero, List.getElem?_cons_succ, List.set_cons_zero, List.set_cons_succ, List.cons_append, List.nil_append, List.replicate, Option.map_some, Option.bind_some, decide_eq_true_eq, Bool.false_eq_true, if_true, if_false, and_true, true_and, and_self, List.length_map, List.length_cons, List.length_nil, List.getElem?_map, true_or, or_true, decide_true, decide_false, Bool.not_true, Bool.not_false, Bool.not_eq_true, Bool.true_and, Bool.and_true, Bool.false_and, Bool.and_false, reduceIte, Nat.reduceAdd, Nat.reduceSub, Nat.reduceMul, Nat.reduceLT, Nat.reduceLeDiff, Nat.reduceEqDiff, Int.reduceLT, Int.reduceLE, Int.reducePow, Int.reduceNeg, Int.reduceAdd, Int.reduceSub, Int.reduceMul, Int.reduceMod, Int.reduceDiv, Int.reduceToNat, t_pvO, t_tkR, t_ptR, t_ow, dr_eq m4, h, beq_iff_eq]
theorem len_app (a b : Str) : (a ++ b).length = a.length + b.length := by
  show (a.cps ++ b.cps).size = _
  rw [Array.size_append]
  rfl
theorem turn_ins {x : Src} {a b d : T} {z : Str} (hz : z.length ≤ 1000) : ∃ (x' : Src) (z' : Str) (d' : T), z'.length ≤ 3000 ∧ i_law_1 [a, x.t, b, .dat (.str z), d] = .nx [a, x'.t, b, .dat (.str z'), d'] := by
  have m2 : (0 : Int) < 2 ∧ (2 : Int) < 1073741824 := by decide
  have l := lz
  have hs : z.length ≤ sizeLine := by omega
  have mz : (0 : Int) < (z.length : Int) + 1 ∧ (z.length : Int) + 1 < 1073741824 := by omega
  unfold i_law_1
  by_cases h : (dr x 2).1 = 0
  · have c1 := cutS_len (z := z) (l := none) (u := some (dr (dr x 2).2 ((z.length : Int) + 1)).1)
    have c2 := cutS_len (z := z) (l := some (dr (dr x 2).2 ((z.length : Int) + 1)).1) (u := none)
    have c3 := ins_in (x := (dr (dr x 2).2 ((z.length : Int) + 1)).2)
    have c4 := len_app (cutS z none (some (dr (dr x 2).2 ((z.length : Int) + 1)).1)) (ins (dr (dr x 2).2 ((z.length : Int) + 1)).2).1
    refine ⟨(ins (dr (dr x 2).2 ((z.length : Int) + 1)).2).2, (cutS z none (some (dr (dr x 2).2 ((z.length : Int) + 1)).1) ++ (ins (dr (dr x 2).2 ((z.length : Int) + 1)).2).1) ++ cutS z (some (dr (dr x 2).2 ((z.length : Int) + 1)).1) none, .dat (.int (dr (dr x 2).2 ((z.length : Int) + 1)).1), ?_, ?_⟩
    · rw [len_app, c4]
      omega
    · have l1 : (cutS z none (some (dr (dr x 2).2 ((z.length : Int) + 1)).1)).length + (ins (dr (dr x 2).2 ((z.length : Int) + 1)).2).1.length ≤ sizeLine := by omega
      have l2 : (cutS z none (some (dr (dr x 2).2 ((z.length : Int) + 1)).1) ++ (ins (dr (dr x 2).2 ((z.length : Int) + 1)).2).1).length + (cutS z (some (dr (dr x 2).2 ((z.length : Int) + 1)).1) none).length ≤ sizeLine := by omega
      simp only [e_pV, e_pvO_dat, e_pvO_lst, e_pvO_tup, e_pvO_dic, e_pvO_ins, e_pvO_vw, e_pC, e_p1, e_p2, e_qD_dat, e_qD, e_qD_no, e_dz_vw, e_dz_dat, e_dz_lst, e_fz_lst, e_q1, e_q2, e_dO, e_pIx, e_qIx, e_ix_lst, e_ix_tup, e_ix_dlst, e_ix_dtup, e_ix_dscr, e_ix_vlst, e_ix_vtup, e_atI, e_atI0, e_atI1, e_atI2, e_atI3, e_atI4, e_atI5, e_atI6, e_pIf, e_qIf, e_pAnd, e_pOr, e_pChain, e_pDs_nil, e_pDs, e_qDs, e_pBC, e_qBC, e_addI, e_addS, e_subI, e_mulI_l, e_mulI_r, e_mulI_m, e_modI, e_divI, e_pow18, e_ltI, e_leI, e_gtI, e_geI, e_eqI, e_neI, e_eqS, e_neS, e_eqB, e_neB, e_not, e_neg, e_int, e_len_lst, e_len_scr, e_len_tup, e_len_str, e_inC, e_listOf_l, e_listOf_t, e_dtC, e_dt2, e_dt1, e_addT, e_addTI, e_addTS, e_mulT, e_fP, e_okP, e_fC, e_fV, e_okV, e_okV_l, e_fTk, e_okT, e_okT_l, e_okT_t, e_rD, e_rD_lst, e_rD_fz, e_f1, e_k1, e_f2, e_k2, e_k2b, e_opt, e_fDs_nil, e_fDs, e_kDs, e_kDc, e_bind, e_fBC, e_kBC, e_fIf, e_kIf, e_kFls, e_kTru, e_fAnd, e_fOr, e_fNot, e_kNot, e_fBv, e_kBv, e_fB, e_kB, e_fSl, e_kSl1, e_kSl2, e_kSl3, e_oI_none, e_oI, e_iR, e_gSl_str, e_gSl_lst, e_gSl_scr, e_fSm, e_kSm, e_kSm2, e_fAnil, e_fAt, e_kAt, e_kAc, e_fArf, e_fAvw, e_okA, e_kAg, e_fLst, e_fTup, e_kDsp, e_tms_nil, e_tms, e_tmO, e_dispT, e_fDf, e_kDf, e_fCall, e_callF, e_callT, e_callR, e_tkM, e_take_nil, e_take_tm, e_take_rf, e_take_vw, e_tkR_d, e_tkR_v, e_tkR_l, e_tkR_i, e_tkV_d, e_tkV_v, e_tkV_l, e_tkV_i, e_put_nil, e_put_tm, e_put_rf, e_put_vw, e_ptR_d, e_ptR_v, e_ptR_l, e_ptR_i, e_ptV_d, e_ptV_v, e_ptV_l, e_ptV_i, e_ow_l, e_ow_i, e_ow_d, e_fSeq, e_sq, e_sq_r, e_sq_b, e_sq_c, e_sq_x, e_sq_if, e_bindS, e_bindS_if, e_bind_if, e_rD_if, e_fSet, e_kSet, e_fRet, e_kRet, e_fExp, e_kExp, e_fIfS, e_kIfS, e_fNx, e_fRetN, e_fSetIx, e_kSetIx, e_stIx, e_stR, e_plc, e_qV, e_plcO_l, e_plcO_i, e_put0, e_setL, e_stO, e_ixN0, e_ixN1, e_ixN2, e_ixN3, e_ixN4, e_ixN5, e_datO, e_fIt, e_kIt, e_itD_l, e_itD_s, e_itD_t, e_itD_z, e_fRg1, e_kRg1, e_fFor, e_kFor, e_fLc, e_kLc, e_kLc2, e_wipe0, e_wipe, e_rest0, e_rest, e_rstO, e_put_nm, e_okW0, e_okW, e_slotOk, e_slotOkN, e_gAll, e_gAny, List.getElem?_cons_zero, List.getElem?_cons_succ, List.set_cons_zero, List.set_cons_succ, List.cons_append, List.nil_append, List.replicate, Option.map_some, Option.bind_some, decide_eq_true_eq, Bool.false_eq_true, if_true, if_false, and_true, true_and, and_self, List.length_map, List.length_cons, List.length_nil, List.getElem?_map, true_or, or_true, decide_true, decide_false, Bool.not_true, Bool.not_false, Bool.not_eq_true, Bool.true_and, Bool.and_true, Bool.false_and, Bool.and_false, reduceIte, Nat.reduceAdd, Nat.reduceSub, Nat.reduceMul, Nat.reduceLT, Nat.reduceLeDiff, Nat.reduceEqDiff, Int.reduceLT, Int.reduceLE, Int.reducePow, Int.reduceNeg, Int.reduceAdd, Int.reduceSub, Int.reduceMul, Int.reduceMod, Int.reduceDiv, Int.reduceToNat, t_pvO, t_tkR, t_ptR, t_ow, dr_eq m2, h, beq_iff_eq, hs, dr_eq mz, ins_eq, e_addTS l1, e_addTS l2]
  · refine ⟨(dr x 2).2, z, d, by omega, ?_⟩
    simp only [e_pV, e_pvO_dat, e_pvO_lst, e_pvO_tup, e_pvO_dic, e_pvO_ins, e_pvO_vw, e_pC, e_p1, e_p2, e_qD_dat, e_qD, e_qD_no, e_dz_vw, e_dz_dat, e_dz_lst, e_fz_lst, e_q1, e_q2, e_dO, e_pIx, e_qIx, e_ix_lst, e_ix_tup, e_ix_dlst, e_ix_dtup, e_ix_dscr, e_ix_vlst, e_ix_vtup, e_atI, e_atI0, e_atI1, e_atI2, e_atI3, e_atI4, e_atI5, e_atI6, e_pIf, e_qIf, e_pAnd, e_pOr, e_pChain, e_pDs_nil, e_pDs, e_qDs, e_pBC, e_qBC, e_addI, e_addS, e_subI, e_mulI_l, e_mulI_r, e_mulI_m, e_modI, e_divI, e_pow18, e_ltI, e_leI, e_gtI, e_geI, e_eqI, e_neI, e_eqS, e_neS, e_eqB, e_neB, e_not, e_neg, e_int, e_len_lst, e_len_scr, e_len_tup, e_len_str, e_inC, e_listOf_l, e_listOf_t, e_dtC, e_dt2, e_dt1, e_addT, e_addTI, e_addTS, e_mulT, e_fP, e_okP, e_fC, e_fV, e_okV, e_okV_l, e_fTk, e_okT, e_okT_l, e_okT_t, e_rD, e_rD_lst, e_rD_fz, e_f1, e_k1, e_f2, e_k2, e_k2b, e_opt, e_fDs_nil, e_fDs, e_kDs, e_kDc, e_bind, e_fBC, e_kBC, e_fIf, e_kIf, e_kFls, e_kTru, e_fAnd, e_fOr, e_fNot, e_kNot, e_fBv, e_kBv, e_fB, e_kB, e_fSl, e_kSl1, e_kSl2, e_kSl3, e_oI_none, e_oI, e_iR, e_gSl_str, e_gSl_lst, e_gSl_scr, e_fSm, e_kSm, e_kSm2, e_fAnil, e_fAt, e_kAt, e_kAc, e_fArf, e_fAvw, e_okA, e_kAg, e_fLst, e_fTup, e_kDsp, e_tms_nil, e_tms, e_tmO, e_dispT, e_fDf, e_kDf, e_fCall, e_callF, e_callT, e_callR, e_tkM, e_take_nil, e_take_tm, e_take_rf, e_take_vw, e_tkR_d, e_tkR_v, e_tkR_l, e_tkR_i, e_tkV_d, e_tkV_v, e_tkV_l, e_tkV_i, e_put_nil, e_put_tm, e_put_rf, e_put_vw, e_ptR_d, e_ptR_v, e_ptR_l, e_ptR_i, e_ptV_d, e_ptV_v, e_ptV_l, e_ptV_i, e_ow_l, e_ow_i, e_ow_d, e_fSeq, e_sq, e_sq_r, e_sq_b, e_sq_c, e_sq_x, e_sq_if, e_bindS, e_bindS_if, e_bind_if, e_rD_if, e_fSet, e_kSet, e_fRet, e_kRet, e_fExp, e_kExp, e_fIfS, e_kIfS, e_fNx, e_fRetN, e_fSetIx, e_kSetIx, e_stIx, e_stR, e_plc, e_qV, e_plcO_l, e_plcO_i, e_put0, e_setL, e_stO, e_ixN0, e_ixN1, e_ixN2, e_ixN3, e_ixN4, e_ixN5, e_datO, e_fIt, e_kIt, e_itD_l, e_itD_s, e_itD_t, e_itD_z, e_fRg1, e_kRg1, e_fFor, e_kFor, e_fLc, e_kLc, e_kLc2, e_wipe0, e_wipe, e_rest0, e_rest, e_rstO, e_put_nm, e_okW0, e_okW, e_slotOk, e_slotOkN, e_gAll, e_gAny, List.getElem?_cons_zero, List.getElem?_cons_succ, List.set_cons_zero, List.set_cons_succ, List.cons_append, List.nil_append, List.replicate, Option.map_some, Option.bind_some, decide_eq_true_eq, Bool.false_eq_true, if_true, if_false, and_true, true_and, and_self, List.length_map, List.length_cons, List.length_nil, List.getElem?_map, true_or, or_true, decide_true, decide_false, Bool.not_true, Bool.not_false, Bool.not_eq_true, Bool.true_and, Bool.and_true, Bool.false_and, Bool.and_false, reduceIte, Nat.reduceAdd, Nat.reduceSub, Nat.reduceMul, Nat.reduceLT, Nat.reduceLeDiff, Nat.reduceEqDiff, Int.reduceLT, Int.reduceLE, Int.reducePow, Int.reduceNeg, Int.reduceAdd, Int.reduceSub, Int.reduceMul, Int.reduceMod, Int.reduceDiv, Int.reduceToNat, t_pvO, t_tkR, t_ptR, t_ow, dr_eq m2, h, beq_iff_eq]
theorem turn_ok {x : Src} {a b c d : T} : ∃ (x' : Src) (c' d' : T), l_law_1 [a, x.t, b, c, d] = .nx [a, x'.t, b, c', d'] := by
  have m13 : (0 : Int) < 13 ∧ (13 : Int) < 1073741824 := by decide
  have b13 := dr_in (x := x) m13
  have hw : 0 ≤ (dr x 13).1 ∧ (dr x 13).1 ≤ 1000 := by omega
  have lw := wd_in (x := (dr x 13).2) hw
  have l := lz
  obtain ⟨x1, z1, d1, g1, h1⟩ := turn_ins (x := (wd (dr x 13).2 (dr x 13).1).2) (a := a) (b := b) (d := d) lw
  obtain ⟨x2, z2, g2, h2⟩ := turn_bad (x := x1) (a := a) (b := b) (d := d1) g1
  refine ⟨x2, .dat (.str z2), d1, ?_⟩
  unfold l_law_1
  simp only [e_pV, e_pvO_dat, e_pvO_lst, e_pvO_tup, e_pvO_dic, e_pvO_ins, e_pvO_vw, e_pC, e_p1, e_p2, e_qD_dat, e_qD, e_qD_no, e_dz_vw, e_dz_dat, e_dz_lst, e_fz_lst, e_q1, e_q2, e_dO, e_pIx, e_qIx, e_ix_lst, e_ix_tup, e_ix_dlst, e_ix_dtup, e_ix_dscr, e_ix_vlst, e_ix_vtup, e_atI, e_atI0, e_atI1, e_atI2, e_atI3, e_atI4, e_atI5, e_atI6, e_pIf, e_qIf, e_pAnd, e_pOr, e_pChain, e_pDs_nil, e_pDs, e_qDs, e_pBC, e_qBC, e_addI, e_addS, e_subI, e_mulI_l, e_mulI_r, e_mulI_m, e_modI, e_divI, e_pow18, e_ltI, e_leI, e_gtI, e_geI, e_eqI, e_neI, e_eqS, e_neS, e_eqB, e_neB, e_not, e_neg, e_int, e_len_lst, e_len_scr, e_len_tup, e_len_str, e_inC, e_listOf_l, e_listOf_t, e_dtC, e_dt2, e_dt1, e_addT, e_addTI, e_addTS, e_mulT, e_fP, e_okP, e_fC, e_fV, e_okV, e_okV_l, e_fTk, e_okT, e_okT_l, e_okT_t, e_rD, e_rD_lst, e_rD_fz, e_f1, e_k1, e_f2, e_k2, e_k2b, e_opt, e_fDs_nil, e_fDs, e_kDs, e_kDc, e_bind, e_fBC, e_kBC, e_fIf, e_kIf, e_kFls, e_kTru, e_fAnd, e_fOr, e_fNot, e_kNot, e_fBv, e_kBv, e_fB, e_kB, e_fSl, e_kSl1, e_kSl2, e_kSl3, e_oI_none, e_oI, e_iR, e_gSl_str, e_gSl_lst, e_gSl_scr, e_fSm, e_kSm, e_kSm2, e_fAnil, e_fAt, e_kAt, e_kAc, e_fArf, e_fAvw, e_okA, e_kAg, e_fLst, e_fTup, e_kDsp, e_tms_nil, e_tms, e_tmO, e_dispT, e_fDf, e_kDf, e_fCall, e_callF, e_callT, e_callR, e_tkM, e_take_nil, e_take_tm, e_take_rf, e_take_vw, e_tkR_d, e_tkR_v, e_tkR_l, e_tkR_i, e_tkV_d, e_tkV_v, e_tkV_l, e_tkV_i, e_put_nil, e_put_tm, e_put_rf, e_put_vw, e_ptR_d, e_ptR_v, e_ptR_l, e_ptR_i, e_ptV_d, e_ptV_v, e_ptV_l, e_ptV_i, e_ow_l, e_ow_i, e_ow_d, e_fSeq, e_sq, e_sq_r, e_sq_b, e_sq_c, e_sq_x, e_sq_if, e_bindS, e_bindS_if, e_bind_if, e_rD_if, e_fSet, e_kSet, e_fRet, e_kRet, e_fExp, e_kExp, e_fIfS, e_kIfS, e_fNx, e_fRetN, e_fSetIx, e_kSetIx, e_stIx, e_stR, e_plc, e_qV, e_plcO_l, e_plcO_i, e_put0, e_setL, e_stO, e_ixN0, e_ixN1, e_ixN2, e_ixN3, e_ixN4, e_ixN5, e_datO, e_fIt, e_kIt, e_itD_l, e_itD_s, e_itD_t, e_itD_z, e_fRg1, e_kRg1, e_fFor, e_kFor, e_fLc, e_kLc, e_kLc2, e_wipe0, e_wipe, e_rest0, e_rest, e_rstO, e_put_nm, e_okW0, e_okW, e_slotOk, e_slotOkN, e_gAll, e_gAny, List.getElem?_cons_zero, List.getElem?_cons_succ, List.set_cons_zero, List.set_cons_succ, List.cons_append, List.nil_append, List.replicate, Option.map_some, Option.bind_some, decide_eq_true_eq, Bool.false_eq_true, if_true, if_false, and_true, true_and, and_self, List.length_map, List.length_cons, List.length_nil, List.getElem?_map, true_or, or_true, decide_true, decide_false, Bool.not_true, Bool.not_false, Bool.not_eq_true, Bool.true_and, Bool.and_true, Bool.false_and, Bool.and_false, reduceIte, Nat.reduceAdd, Nat.reduceSub, Nat.reduceMul, Nat.reduceLT, Nat.reduceLeDiff, Nat.reduceEqDiff, Int.reduceLT, Int.reduceLE, Int.reducePow, Int.reduceNeg, Int.reduceAdd, Int.reduceSub, Int.reduceMul, Int.reduceMod, Int.reduceDiv, Int.reduceToNat, t_pvO, t_tkR, t_ptR, t_ow, dr_eq m13, wd_eq hw, h1, h2, turn_end (x := x2) (a := a) (b := b) (c := d1) (z := z2) (by omega)]
theorem law_true (ns : List Int) (hn : ns.length ≤ 63) : ∃ env, g_law [.dat (.scr (ns.map .int))] = .ok (.dat (.bl true)) env := by
  obtain ⟨x, hs⟩ := source_ok ns
  obtain ⟨e', h1, y, b, c, d, rfl⟩ := for_inv (t := .nm 2) (b := l_law_1) (I := fun e => ∃ (y : Src) (b c d : T), e = [.dat (.scr (ns.map .int)), y.t, b, c, d]) (ds := rngD 0 12) (env := [.dat (.scr (ns.map .int)), x.t, .no, .no, .no])
    (fun q _ e he => by
      obtain ⟨y, b, c, d, rfl⟩ := he
      obtain ⟨x', c', d', h⟩ := turn_ok (x := y) (a := .dat (.scr (ns.map .int))) (b := .dat q) (c := c) (d := d)
      exact ⟨_, _, rfl, .inl h, x', _, c', d', rfl⟩) ⟨x, _, _, _, rfl⟩
  refine ⟨_, run_ret (env := [.dat (.scr (ns.map .int)), y.t, b, c, d]) ?_⟩
  have hr : (-(2 ^ 62) : Int) ≤ 12 ∧ (12 : Int) < 2 ^ 62 := by decide
  have n1 : isN "a" = true := by decide
  have n2 : isN "abcdefgh" = true := by decide
  have n3 : isN "abcdefghi" = false := by decide
  have n4 : isN "" = false := by decide
  have l : ∀ {z : Str}, z.length ≤ 100 → z.length ≤ sizeLine := fun h => Nat.le_trans h (by decide)
  unfold b_law
  simp only [e_pV, e_pvO_dat, e_pvO_lst, e_pvO_tup, e_pvO_dic, e_pvO_ins, e_pvO_vw, e_pC, e_p1, e_p2, e_qD_dat, e_qD, e_qD_no, e_dz_vw, e_dz_dat, e_dz_lst, e_fz_lst, e_q1, e_q2, e_dO, e_pIx, e_qIx, e_ix_lst, e_ix_tup, e_ix_dlst, e_ix_dtup, e_ix_dscr, e_ix_vlst, e_ix_vtup, e_atI, e_atI0, e_atI1, e_atI2, e_atI3, e_atI4, e_atI5, e_atI6, e_pIf, e_qIf, e_pAnd, e_pOr, e_pChain, e_pDs_nil, e_pDs, e_qDs, e_pBC, e_qBC, e_addI, e_addS, e_subI, e_mulI_l, e_mulI_r, e_mulI_m, e_modI, e_divI, e_pow18, e_ltI, e_leI, e_gtI, e_geI, e_eqI, e_neI, e_eqS, e_neS, e_eqB, e_neB, e_not, e_neg, e_int, e_len_lst, e_len_scr, e_len_tup, e_len_str, e_inC, e_listOf_l, e_listOf_t, e_dtC, e_dt2, e_dt1, e_addT, e_addTI, e_addTS, e_mulT, e_fP, e_okP, e_fC, e_fV, e_okV, e_okV_l, e_fTk, e_okT, e_okT_l, e_okT_t, e_rD, e_rD_lst, e_rD_fz, e_f1, e_k1, e_f2, e_k2, e_k2b, e_opt, e_fDs_nil, e_fDs, e_kDs, e_kDc, e_bind, e_fBC, e_kBC, e_fIf, e_kIf, e_kFls, e_kTru, e_fAnd, e_fOr, e_fNot, e_kNot, e_fBv, e_kBv, e_fB, e_kB, e_fSl, e_kSl1, e_kSl2, e_kSl3, e_oI_none, e_oI, e_iR, e_gSl_str, e_gSl_lst, e_gSl_scr, e_fSm, e_kSm, e_kSm2, e_fAnil, e_fAt, e_kAt, e_kAc, e_fArf, e_fAvw, e_okA, e_kAg, e_fLst, e_fTup, e_kDsp, e_tms_nil, e_tms, e_tmO, e_dispT, e_fDf, e_kDf, e_fCall, e_callF, e_callT, e_callR, e_tkM, e_take_nil, e_take_tm, e_take_rf, e_take_vw, e_tkR_d, e_tkR_v, e_tkR_l, e_tkR_i, e_tkV_d, e_tkV_v, e_tkV_l, e_tkV_i, e_put_nil, e_put_tm, e_put_rf, e_put_vw, e_ptR_d, e_ptR_v, e_ptR_l, e_ptR_i, e_ptV_d, e_ptV_v, e_ptV_l, e_ptV_i, e_ow_l, e_ow_i, e_ow_d, e_fSeq, e_sq, e_sq_r, e_sq_b, e_sq_c, e_sq_x, e_sq_if, e_bindS, e_bindS_if, e_bind_if, e_rD_if, e_fSet, e_kSet, e_fRet, e_kRet, e_fExp, e_kExp, e_fIfS, e_kIfS, e_fNx, e_fRetN, e_fSetIx, e_kSetIx, e_stIx, e_stR, e_plc, e_qV, e_plcO_l, e_plcO_i, e_put0, e_setL, e_stO, e_ixN0, e_ixN1, e_ixN2, e_ixN3, e_ixN4, e_ixN5, e_datO, e_fIt, e_kIt, e_itD_l, e_itD_s, e_itD_t, e_itD_z, e_fRg1, e_kRg1, e_fFor, e_kFor, e_fLc, e_kLc, e_kLc2, e_wipe0, e_wipe, e_rest0, e_rest, e_rstO, e_put_nm, e_okW0, e_okW, e_slotOk, e_slotOkN, e_gAll, e_gAny, List.getElem?_cons_zero, List.getElem?_cons_succ, List.set_cons_zero, List.set_cons_succ, List.cons_append, List.nil_append, List.replicate, Option.map_some, Option.bind_some, decide_eq_true_eq, Bool.false_eq_true, if_true, if_false, and_true, true_and, and_self, List.length_map, List.length_cons, List.length_nil, List.getElem?_map, true_or, or_true, decide_true, decide_false, Bool.not_true, Bool.not_false, Bool.not_eq_true, Bool.true_and, Bool.and_true, Bool.false_and, Bool.and_false, reduceIte, Nat.reduceAdd, Nat.reduceSub, Nat.reduceMul, Nat.reduceLT, Nat.reduceLeDiff, Nat.reduceEqDiff, Int.reduceLT, Int.reduceLE, Int.reducePow, Int.reduceNeg, Int.reduceAdd, Int.reduceSub, Int.reduceMul, Int.reduceMod, Int.reduceDiv, Int.reduceToNat, e_kRg1 hr, hs, h1, is_name_eq (z := "a") (l (by decide)), is_name_eq (z := "abcdefgh") (l (by decide)), is_name_eq (z := "abcdefghi") (l (by decide)), is_name_eq (z := "") (l (by decide)), n1, n2, n3, n4, same_l (ts := [.dat (.bl true), .dat (.bl true), .dat (.bl false), .dat (.bl false)]) rfl rfl (by decide)]
end K01
open PySem PySem.W PySem.Calls PyProof.Rows in
theorem PySem.Challenge.cw_lostways_k01_names_of_letters_holds : PySem.Challenge.rw_lostways_k01_names_of_letters.Holds := by
  w_on; o_law
  refine HandSHeadRun.head_any (r := (PySem.W.OpenLaw.row PySem.Challenge.rw_lostways_k01_names_of_letters)) (q := view (PySem.W.OpenLaw.row PySem.Challenge.rw_lostways_k01_names_of_letters).prog [12]) (H := K01.hk) (ob := K01.ob) (M := 400) (loose := K01.loose) (d := HandSHeadRun.topDef (PySem.W.OpenLaw.row PySem.Challenge.rw_lostways_k01_names_of_letters).prog 12) (kwd := []) K01.ob_eq
    (by kernel_rfl) (fun s => by kernel_rfl) K01.run (by kernel_rfl) (by kernel_rfl) (by kernel_rfl) (by rfl) (by first | assumption | decide +kernel) (by decide +kernel) ⟨rfl, rfl, rfl, rfl, rfl, by decide +kernel⟩ ?hw ?hc
  case hw => w_witness2
  case hc =>
    refine L3.walk_law (l := PySem.Challenge.rw_lostways_k01_names_of_letters) (n := 63) (k := 4) (x := ("_law_script" : Str)) (g := K01.g_law) rfl (by decide) (by kernel_rfl) ⟨rfl, by decide, by decide⟩ ?F K01.law_true
    intro w mg fa h Y G hmg0
    obtain ⟨K, KX, c⟩ := Y
    have hmg : mg ("law" : PySem.Str) = some (.ref fa) := by
      have e : (HandSHeadRun.topDef (PySem.W.OpenLaw.row PySem.Challenge.rw_lostways_k01_names_of_letters).prog 12).name = ("law" : PySem.Str) := by kernel_rfl
      rw [← e]
      exact hmg0
    have A : L3.Ctx K01.facts K01.defs K mg := ⟨h, KX, G, c⟩
    have e := hmg.symm.trans (A.glo 16)
    cases e
    obtain ⟨fd, F⟩ := A.def_ 8 (d := K01.d_law)
    exact ⟨K, fd, KX, fun s v => L2.FunD.bindsA (ps := [("_law_script" : Str)]) F (fun _ _ _ _ _ _ us hl => match us, hl with | [_], _ => rfl) s [v] rfl, fun base _ _ => K01.fn_law A F⟩

