import PyProof.Rows.All
import HandS.ForMost
import HandS.Wide
import HandS.IsInst
import HandS.WideBits
import HandS.Star
import HandS.Sort
import HandS.Conv
import HandS.Zip
import HandS.Steps
import HandS.Defaults
import HandS.TupAny
import HandS.MakeKw
import HandS.Style
import HandS.More
import HandS.DictComp
import HandS.SortInts
import PyProof.Rows.SortShellAny
import HandS.Lambda
import KE.KSortKey
import HandS.SortKw
import HandS.EndTab
import HandS.EndOwn
import HandS.RaiseMore
import HandS.SortOrd
import PyProof.Rows.SortKeyStr
import HandS.Deep
import PySem.Challenge.RW_owncuts_k32_whole_rules_that_miss_nothin
set_option Elab.async false
set_option linter.all false
set_option maxRecDepth 100000
set_option maxHeartbeats 4000000
namespace DL
open PySem PySem.Spec PyProof.Rows L2
/-- data: what a value stands for -/
inductive D where
  | non | bl (b : Bool) | int (i : Int) | str (s : List Nat)
  | lst (xs : List D) | tup (xs : List D) | dct (ks vs : List D) | dcu (ks vs : List D)
  | obj (c : Nat) (fs : List D) | box (t : Nat) (ps : List D) | scr (ns : List Int) | ati (a : Nat) (ds : List D)
mutual
def D.beq : D → D → Bool
  | .non, .non => true
  | .bl a, .bl b => a == b
  | .int a, .int b => a == b
  | .str a, .str b => a == b
  | .lst a, .lst b => D.beqs a b
  | .tup a, .tup b => D.beqs a b
  | .dct a b, .dct c d => D.beqs a c && D.beqs b d
  | .dcu a b, .dcu c d => D.beqs a c && D.beqs b d
  | .obj a b, .obj c d => a == c && D.beqs b d
  | .box a b, .box c d => a == c && D.beqs b d
  | .scr a, .scr b => a == b
  | .ati a b, .ati c d => a == c && D.beqs b d
  | _, _ => false
def D.beqs : List D → List D → Bool
  | [], [] => true
  | a :: as, b :: bs => D.beq a b && D.beqs as bs
  | _, _ => false
end
mutual
theorem D.beq_eq : ∀ {a b : D}, D.beq a b = true → a = b
  | .non, b, h => by cases b <;> simp [D.beq] at h ⊢
  | .bl _, b, h => by cases b <;> simp [D.beq] at h ⊢; exact h
  | .int _, b, h => by cases b <;> simp [D.beq] at h ⊢; exact h
  | .str _, b, h => by cases b <;> simp [D.beq] at h ⊢; exact h
  | .lst _, b, h => by cases b <;> simp [D.beq] at h ⊢; exact D.beqs_eq h
  | .tup _, b, h => by cases b <;> simp [D.beq] at h ⊢; exact D.beqs_eq h
  | .dct _ _, b, h => by cases b <;> simp [D.beq] at h ⊢; exact ⟨D.beqs_eq h.1, D.beqs_eq h.2⟩
  | .dcu _ _, b, h => by cases b <;> simp [D.beq] at h ⊢; exact ⟨D.beqs_eq h.1, D.beqs_eq h.2⟩
  | .obj _ _, b, h => by cases b <;> simp [D.beq] at h ⊢; exact ⟨h.1, D.beqs_eq h.2⟩
  | .box _ _, b, h => by cases b <;> simp [D.beq] at h ⊢; exact ⟨h.1, D.beqs_eq h.2⟩
  | .scr _, b, h => by cases b <;> simp [D.beq] at h ⊢; exact h
  | .ati _ _, b, h => by cases b <;> simp [D.beq] at h ⊢; exact ⟨h.1, D.beqs_eq h.2⟩
theorem D.beqs_eq : ∀ {a b : List D}, D.beqs a b = true → a = b
  | [], [], _ => rfl
  | [], _ :: _, h => by simp [D.beqs] at h
  | _ :: _, [], h => by simp [D.beqs] at h
  | a :: as, b :: bs, h => by
    simp only [D.beqs, Bool.and_eq_true] at h
    rw [D.beq_eq h.1, D.beqs_eq h.2]
end
mutual
theorem D.beq_refl : ∀ a : D, D.beq a a = true
  | .non => rfl
  | .bl _ => by simp [D.beq]
  | .int _ => by simp [D.beq]
  | .str _ => by simp [D.beq]
  | .lst a => by simp only [D.beq]; exact D.beqs_refl a
  | .tup a => by simp only [D.beq]; exact D.beqs_refl a
  | .dct a b => by simp only [D.beq, D.beqs_refl a, D.beqs_refl b]; rfl
  | .dcu a b => by simp only [D.beq, D.beqs_refl a, D.beqs_refl b]; rfl
  | .obj a b => by simp only [D.beq, D.beqs_refl b]; simp
  | .box a b => by simp only [D.beq, D.beqs_refl b]; simp
  | .scr _ => by simp [D.beq]
  | .ati a b => by simp only [D.beq, D.beqs_refl b]; simp
theorem D.beqs_refl : ∀ a : List D, D.beqs a a = true
  | [] => rfl
  | a :: as => by simp only [D.beqs, D.beq_refl a, D.beqs_refl as]; rfl
end
instance : DecidableEq D := fun a b => if h : D.beq a b = true then .isTrue (D.beq_eq h) else .isFalse fun e => h (by rw [e]; exact D.beq_refl b)
instance : Inhabited D := ⟨.non⟩
/-- the shared world: frozen objects, objects under an invariant, a count -/
structure Wd where
  fz : Hp
  iv : Addr → Option (Nat × List D)
  n : Nat
/-- a tuple of numbers and texts, which nobody can change -/
def isKV : V → Bool
  | .int _ => true | .str _ => true | _ => false
def isKT : HO → Bool
  | .tup vs => vs.all isKV | _ => false
structure Kit where
  K : PySem.W.Frag
  cls : Nat → Option (Addr × List Str)
  J : Nat → List D → Wd → HO → Prop
  fx : Addr → Option (Nat × List D) := fun _ => none
  mono : ∀ t ps (P P' : Wd) o, (∀ a u, P.fz a = some u → P'.fz a = some u) → (∀ a u, P.iv a = some u → P'.iv a = some u) → P.n ≤ P'.n → J t ps P o → J t ps P' o
  jk : ∀ t ps P o, J t ps P o → isKT o = false
def keyD : Key → D
  | .inl i => .int i
  | .inr x => .str x.cps.toList
abbrev IV := Addr → Option (Nat × List D)
/-- a text's size and signs -/
def OkS (s : List Nat) : Prop := s.length ≤ sizeLine ∧ ∀ c ∈ s, c < 1114112
theorem OkS.nil : OkS [] := ⟨Nat.zero_le _, fun _ h => nomatch h⟩
theorem OkS.take {s : List Nat} (h : OkS s) (n : Nat) : OkS (s.take n) := ⟨Nat.le_trans (by rw [List.length_take]; exact Nat.min_le_right _ _) h.1, fun c hc => h.2 c (List.mem_of_mem_take hc)⟩
theorem OkS.drop {s : List Nat} (h : OkS s) (n : Nat) : OkS (s.drop n) := ⟨Nat.le_trans (by rw [List.length_drop]; exact Nat.sub_le _ _) h.1, fun c hc => h.2 c (List.mem_of_mem_drop hc)⟩
theorem OkS.one {s : List Nat} (h : OkS s) {c : Nat} (hc : c ∈ s) : OkS [c] := ⟨by show 1 ≤ sizeLine; decide, fun d hd => by rw [List.mem_singleton.mp hd]; exact h.2 c hc⟩
theorem OkS.app {s t : List Nat} (h : OkS s) (k : OkS t) (z : s.length + t.length ≤ sizeLine) : OkS (s ++ t) := ⟨by rw [List.length_append]; exact z, fun c hc => (List.mem_append.mp hc).elim (h.2 c) (k.2 c)⟩
/-- a dict's keys: no one twice, texts as texts are -/
def OkK : Key → Prop
  | .inl _ => True
  | .inr x => OkS x.cps.toList
def OkKs (ks : List Key) : Prop := ks.Nodup ∧ ∀ k ∈ ks, OkK k
def OkKt (ks : List (List Key)) : Prop := ks.Nodup ∧ ∀ k ∈ ks, k.length ≤ sizeLine ∧ ∀ j ∈ k, OkK j
mutual
inductive Rep (κ : Kit) (G : Hp) (iv : IV) : V → D → Prop
  | non : Rep κ G iv .non .non
  | bl {b : Bool} : Rep κ G iv (.bl b) (.bl b)
  | int {i : Int} : Rep κ G iv (.int i) (.int i)
  | str {s : List Nat} (h : OkS s) : Rep κ G iv (.str ⟨s.toArray⟩) (.str s)
  | lst {a : Addr} {vs : List V} {xs : List D} (h : G a = some (.lst vs)) (z : vs.length ≤ sizeLine) (r : Reps κ G iv vs xs) : Rep κ G iv (.ref a) (.lst xs)
  | tup {a : Addr} {vs : List V} {xs : List D} (h : G a = some (.tup vs)) (z : vs.length ≤ sizeLine) (r : Reps κ G iv vs xs) : Rep κ G iv (.ref a) (.tup xs)
  | dctK {a : Addr} {ks : List Key} {us : List V} {vs : List D} (h : G a = some (.dK (ks.zip us))) (hl : ks.length = us.length) (z : ks.length ≤ sizeLine) (nd : OkKs ks) (r : Reps κ G iv us vs) : Rep κ G iv (.ref a) (.dct (ks.map keyD) vs)
  | dctT {a : Addr} {ks : List (List Key)} {us : List V} {vs : List D} (h : G a = some (.dT (ks.zip us))) (hl : ks.length = us.length) (z : ks.length ≤ sizeLine) (nd : OkKt ks) (r : Reps κ G iv us vs) : Rep κ G iv (.ref a) (.dcu (ks.map fun k => .tup (k.map keyD)) vs)
  | obj {a C dx : Addr} {c : Nat} {names : List Str} {us : List V} {fs : List D} (hc : κ.cls c = some (C, names)) (h : G a = some (.ins C dx (names.zip us))) (hl : names.length = us.length) (r : Reps κ G iv us fs) : Rep κ G iv (.ref a) (.obj c fs)
  | box {a : Addr} {t : Nat} {ps : List D} (h : iv a = some (t, ps)) : Rep κ G iv (.ref a) (.box t ps)
  | scr {a : Addr} {ns : List Int} (h : SqL κ.K G a (ns.map V.int)) (z : ns.length ≤ sizeLine) : Rep κ G iv (.ref a) (.scr ns)
  | ati {a : Addr} {ds : List D} (r : Reps κ G iv (List.replicate ds.length (.ref a)) ds) : Rep κ G iv (.ref a) (.ati a ds)
inductive Reps (κ : Kit) (G : Hp) (iv : IV) : List V → List D → Prop
  | nil : Reps κ G iv [] []
  | cons {v : V} {d : D} {vs : List V} {ds : List D} (r : Rep κ G iv v d) (t : Reps κ G iv vs ds) : Reps κ G iv (v :: vs) (d :: ds)
end
/-- a dict, which a walk may lock -/
def isDk : HO → Bool
  | .dK _ => true | .dT _ => true | _ => false
/-- it is there, or there and locked -/
def At (H : Hp) (a : Addr) (o : HO) : Prop := H a = some o ∨ (isDk o = true ∧ ∃ od, H a = some (.frz od o))
theorem At.x {H : Hp} {a : Addr} {o : HO} (h : At H a o) (hd : isDk o = false) : H a = some o := by
  rcases h with h | ⟨h, _⟩
  · exact h
  · rw [hd] at h; cases h
theorem At.dom {H : Hp} {a : Addr} {o : HO} (h : At H a o) : ∃ u, H a = some u := by
  rcases h with h | ⟨_, od, h⟩
  · exact ⟨_, h⟩
  · exact ⟨_, h⟩
theorem At.of {H H' : Hp} {a : Addr} {o : HO} (h : At H a o) (e : H' a = H a) : At H' a o := by
  unfold At at h ⊢
  rw [e]; exact h
theorem At.rd {H : Hp} {a : Addr} {o : HO} (h : At H a o) : Rd H a o := by
  rcases h with h | ⟨_, od, h⟩
  · exact .inl h
  · exact .inr ⟨od, h⟩
theorem sql_at {K : PySem.W.Frag} {G H : Hp} (h : ∀ a o, G a = some o → At H a o) {a : Addr} {xs : List V} (q : SqL K G a xs) : SqL K H a xs := by
  rcases q with (q | ⟨o, q⟩) | q
  · exact .inl (.inl ((h _ _ q).x rfl))
  · exact .inl (.inr ⟨o, (h _ _ q).x rfl⟩)
  · exact .inr q
theorem sql_mono {K : PySem.W.Frag} {G H : Hp} (h : ∀ a o, G a = some o → H a = some o) {a : Addr} {xs : List V} (q : SqL K G a xs) : SqL K H a xs := by
  rcases q with (q | ⟨o, q⟩) | q
  · exact .inl (.inl (h _ _ q))
  · exact .inl (.inr ⟨o, h _ _ q⟩)
  · exact .inr q
section
variable {κ : Kit} {G G' : Hp} {iv iv' : IV}
mutual
theorem Rep.mono (hg : ∀ a o, G a = some o → G' a = some o) (hi : ∀ a t, iv a = some t → iv' a = some t) : ∀ {v : V} {d : D}, Rep κ G iv v d → Rep κ G' iv' v d
  | _, _, .non => .non
  | _, _, .bl => .bl
  | _, _, .int => .int
  | _, _, .str h => .str h
  | _, _, .lst h z r => .lst (hg _ _ h) z (Reps.mono hg hi r)
  | _, _, .tup h z r => .tup (hg _ _ h) z (Reps.mono hg hi r)
  | _, _, .dctK h hl z nd r => .dctK (hg _ _ h) hl z nd (Reps.mono hg hi r)
  | _, _, .dctT h hl z nd r => .dctT (hg _ _ h) hl z nd (Reps.mono hg hi r)
  | _, _, .obj hc h hl r => .obj hc (hg _ _ h) hl (Reps.mono hg hi r)
  | _, _, .box h => .box (hi _ _ h)
  | _, _, .scr h z => .scr (sql_mono hg h) z
  | _, _, .ati r => .ati (Reps.mono hg hi r)
theorem Reps.mono (hg : ∀ a o, G a = some o → G' a = some o) (hi : ∀ a t, iv a = some t → iv' a = some t) : ∀ {vs : List V} {ds : List D}, Reps κ G iv vs ds → Reps κ G' iv' vs ds
  | _, _, .nil => .nil
  | _, _, .cons r t => .cons (Rep.mono hg hi r) (Reps.mono hg hi t)
end
theorem Reps.length : ∀ {vs : List V} {ds : List D}, Reps κ G iv vs ds → vs.length = ds.length
  | _, _, .nil => rfl
  | _, _, .cons _ t => by rw [List.length_cons, List.length_cons, Reps.length t]
theorem Reps.get : ∀ {vs : List V} {ds : List D} {i : Nat} {d : D}, Reps κ G iv vs ds → ds[i]? = some d → ∃ v, vs[i]? = some v ∧ Rep κ G iv v d
  | _, _, _, _, .nil, e => by simp at e
  | _, _, 0, _, .cons r _, e => by simp at e; subst e; exact ⟨_, rfl, r⟩
  | _, _, i + 1, d, .cons _ t, e => by
    obtain ⟨v, h1, h2⟩ := Reps.get (i := i) (d := d) t (by simpa using e)
    exact ⟨v, by simpa using h1, h2⟩
theorem Reps.append : ∀ {vs us : List V} {ds es : List D}, Reps κ G iv vs ds → Reps κ G iv us es → Reps κ G iv (vs ++ us) (ds ++ es)
  | _, _, _, _, .nil, s => s
  | _, _, _, _, .cons r t, s => .cons r (Reps.append t s)
theorem Reps.take : ∀ {vs : List V} {ds : List D} (n : Nat), Reps κ G iv vs ds → Reps κ G iv (vs.take n) (ds.take n)
  | _, _, 0, _ => .nil
  | _, _, _ + 1, .nil => .nil
  | _, _, n + 1, .cons r t => .cons r (Reps.take n t)
theorem Reps.drop : ∀ {vs : List V} {ds : List D} (n : Nat), Reps κ G iv vs ds → Reps κ G iv (vs.drop n) (ds.drop n)
  | _, _, 0, r => r
  | _, _, _ + 1, .nil => .nil
  | _, _, n + 1, .cons _ t => Reps.drop n t
theorem Reps.set {v : V} {d : D} (r : Rep κ G iv v d) : ∀ {vs : List V} {ds : List D} (i : Nat), Reps κ G iv vs ds → Reps κ G iv (vs.set i v) (ds.set i d)
  | _, _, _, .nil => .nil
  | _, _, 0, .cons _ t => .cons r t
  | _, _, i + 1, .cons q t => .cons q (Reps.set r i t)
theorem Reps.reverse : ∀ {vs : List V} {ds : List D}, Reps κ G iv vs ds → Reps κ G iv vs.reverse ds.reverse
  | _, _, .nil => .nil
  | _, _, .cons r t => by rw [List.reverse_cons, List.reverse_cons]; exact Reps.append (Reps.reverse t) (.cons r .nil)
theorem Reps.ints : ∀ {ns : List Int}, Reps κ G iv (ns.map V.int) (ns.map D.int)
  | [] => .nil
  | _ :: _ => .cons .int Reps.ints
/-- what stands for ints is ints -/
theorem Reps.of_ints : ∀ {vs : List V} {ns : List Int}, Reps κ G iv vs (ns.map D.int) → vs = ns.map V.int
  | _, [], .nil => rfl
  | _, n :: ns, .cons r t => by cases r; rw [Reps.of_ints t]; rfl
theorem Reps.of_bls : ∀ {vs : List V} {bs : List Bool}, Reps κ G iv vs (bs.map D.bl) → vs = bs.map V.bl
  | _, [], .nil => rfl
  | _, n :: ns, .cons r t => by cases r; rw [Reps.of_bls t]; rfl
theorem Reps.of_strs : ∀ {vs : List V} {ss : List (List Nat)}, Reps κ G iv vs (ss.map D.str) → vs = (ss.map fun s => (⟨s.toArray⟩ : Str)).map V.str ∧ ∀ s ∈ ss, OkS s
  | _, [], .nil => ⟨rfl, fun _ h => nomatch h⟩
  | _, n :: ns, .cons r t => by
    cases r with
    | str h =>
      obtain ⟨e, q⟩ := Reps.of_strs t
      exact ⟨by rw [e]; rfl, fun s hs => by
        rcases List.mem_cons.mp hs with rfl | hs
        · exact h
        · exact q s hs⟩
end
/-- as before, but a tuple of keys may be frozen late -/
def Kp (P : Wd) (o : HO) (u u' : Option HO) (a : Addr) : Prop := u' = u ∨ (isKT o = true ∧ P.iv a = none ∧ u' = some o)
theorem Kp.same {P : Wd} {o : HO} {u u' : Option HO} {a : Addr} (h : Kp P o u u' a) (hk : isKT o = false) : u' = u := by
  rcases h with h | ⟨h, _⟩
  · exact h
  · rw [hk] at h; cases h
structure Grow (P : Wd) (G H : Hp) (P' : Wd) (G' H' : Hp) : Prop where
  fz : ∀ a o, P.fz a = some o → P'.fz a = some o
  iv : ∀ a t, P.iv a = some t → P'.iv a = some t
  n : P.n ≤ P'.n
  g : ∀ a o, G a = some o → G' a = some o
  h : ∀ a o, H a = some o → P.iv a = none → H' a = some o
  dom : ∀ a o, H a = some o → ∃ o', H' a = some o'
  fresh : ∀ a o, H a = some o → P'.iv a = P.iv a ∧ Kp P o (P.fz a) (P'.fz a) a ∧ Kp P o (G a) (G' a) a
structure Good (κ : Kit) (P : Wd) (G H : Hp) : Prop where
  pg : ∀ a o, P.fz a = some o → G a = some o
  gh : ∀ a o, G a = some o → At H a o
  gi : ∀ a t, P.iv a = some t → G a = none ∧ ∃ o, H a = some o ∧ κ.J t.1 t.2 P o
  fx : ∀ a t, κ.fx a = some t → P.iv a = some t
theorem Good.gx {κ : Kit} {P : Wd} {G H : Hp} (g : Good κ P G H) {a : Addr} {o : HO} (h : G a = some o) (hd : isDk o = false) : H a = some o := (g.gh a o h).x hd
section
variable {κ : Kit} {P P1 P2 : Wd} {G G1 G2 H H1 H2 : Hp}
theorem Grow.refl : Grow P G H P G H := ⟨fun _ _ h => h, fun _ _ h => h, Nat.le_refl _, fun _ _ h => h, fun _ _ h _ => h, fun _ o h => ⟨o, h⟩, fun _ _ _ => ⟨rfl, .inl rfl, .inl rfl⟩⟩
theorem Grow.trans (a : Grow P G H P1 G1 H1) (b : Grow P1 G1 H1 P2 G2 H2) : Grow P G H P2 G2 H2 where
  fz := fun x o h => b.fz x o (a.fz x o h)
  iv := fun x o h => b.iv x o (a.iv x o h)
  n := Nat.le_trans a.n b.n
  g := fun x o h => b.g x o (a.g x o h)
  h := fun x o h n => b.h x o (a.h x o h n) (by rw [(a.fresh x o h).1]; exact n)
  dom := fun x o h => by
    obtain ⟨o', h'⟩ := a.dom x o h
    exact b.dom x o' h'
  fresh := fun x o h => by
    obtain ⟨o', h'⟩ := a.dom x o h
    obtain ⟨a1, a2, a3⟩ := a.fresh x o h
    obtain ⟨b1, b2, b3⟩ := b.fresh x o' h'
    have e : P.iv x = none → o' = o := fun n => by
      have := a.h x o h n
      rw [this] at h'; cases h'; rfl
    refine ⟨b1.trans a1, ?_, ?_⟩
    · rcases b2 with b2 | ⟨k1, k2, k3⟩
      · rcases a2 with a2 | ⟨j1, j2, j3⟩
        · exact .inl (b2.trans a2)
        · exact .inr ⟨j1, j2, b.fz x _ j3⟩
      · rw [a1] at k2
        have := e k2; subst this
        exact .inr ⟨k1, k2, k3⟩
    · rcases b3 with b3 | ⟨k1, k2, k3⟩
      · rcases a3 with a3 | ⟨j1, j2, j3⟩
        · exact .inl (b3.trans a3)
        · exact .inr ⟨j1, j2, b.g x _ j3⟩
      · rw [a1] at k2
        have := e k2; subst this
        exact .inr ⟨k1, k2, k3⟩
/-- what is no tuple of keys stays as it was, frozen or not -/
theorem Grow.same {a : Addr} {o : HO} (gr : Grow P G H P1 G1 H1) (h : H a = some o) (hk : isKT o = false := by rfl) : G1 a = G a := (gr.fresh a o h).2.2.same hk
theorem Grow.rep {v : V} {d : D} (a : Grow P G H P1 G1 H1) (r : Rep κ G P.iv v d) : Rep κ G1 P1.iv v d := r.mono a.g a.iv
theorem Grow.reps {v : List V} {d : List D} (a : Grow P G H P1 G1 H1) (r : Reps κ G P.iv v d) : Reps κ G1 P1.iv v d := r.mono a.g a.iv
/-- a new object, private -/
theorem Grow.new {p : Addr} {o : HO} (h : H p = none) : Grow P G H P G (upd H p o) :=
  ⟨fun _ _ h => h, fun _ _ h => h, Nat.le_refl _, fun _ _ h => h, fun a u e _ => by rw [upd_ne (ne_of_none e h)]; exact e, fun a u e => ⟨u, by rw [upd_ne (ne_of_none e h)]; exact e⟩, fun _ _ _ => ⟨rfl, .inl rfl, .inl rfl⟩⟩
theorem Good.gnone (g : Good κ P G H) {p : Addr} (h : H p = none) : G p = none := by
  cases e : G p with
  | none => rfl
  | some o => obtain ⟨u, q⟩ := (g.gh p o e).dom; rw [q] at h; cases h
theorem Good.inone (g : Good κ P G H) {p : Addr} (h : H p = none) : P.iv p = none := by
  cases e : P.iv p with
  | none => rfl
  | some t =>
    obtain ⟨_, o, q, _⟩ := g.gi p t e
    rw [q] at h; cases h
theorem Good.new {p : Addr} {o : HO} (g : Good κ P G H) (h : H p = none) : Good κ P G (upd H p o) where
  pg := g.pg
  fx := g.fx
  gh := fun a u e => by
    have e1 := g.gh a u e
    obtain ⟨w, q⟩ := e1.dom
    exact e1.of (upd_ne (ne_of_none q h))
  gi := fun a t e => by
    obtain ⟨q1, u, q2, q3⟩ := g.gi a t e
    exact ⟨q1, u, by rw [upd_ne (ne_of_none q2 h)]; exact q2, q3⟩
/-- a private object changes -/
theorem Good.put {p : Addr} {o : HO} (g : Good κ P G H) (hg : G p = none) (hi : P.iv p = none) : Good κ P G (upd H p o) where
  pg := g.pg
  fx := g.fx
  gh := fun a u e => by
    have hne : a ≠ p := ne_of_none e hg
    exact (g.gh a u e).of (upd_ne hne)
  gi := fun a t e => by
    obtain ⟨q1, u, q2, q3⟩ := g.gi a t e
    have hne : a ≠ p := fun z => by subst z; rw [hi] at e; cases e
    exact ⟨q1, u, by rw [upd_ne hne]; exact q2, q3⟩
/-- an object that was new at the start may change -/
theorem Grow.put {p : Addr} {o : HO} (a : Grow P G H P1 G1 H1) (h : H p = none) : Grow P G H P1 G1 (upd H1 p o) where
  fz := a.fz
  iv := a.iv
  n := a.n
  g := a.g
  h := fun x u e n => by rw [upd_ne (ne_of_none e h)]; exact a.h x u e n
  dom := fun x u e => by
    obtain ⟨o', e'⟩ := a.dom x u e
    exact ⟨o', by rw [upd_ne (ne_of_none e h)]; exact e'⟩
  fresh := a.fresh
/-- a private new object is frozen -/
theorem Grow.frz {p : Addr} {o : HO} (a : Grow P G H P1 G1 H1) (h : H p = none) (hg : G1 p = none) : Grow P G H P1 (upd G1 p o) H1 where
  fz := a.fz
  iv := a.iv
  n := a.n
  g := fun x u e => by
    have e1 := a.g x u e
    rw [upd_ne (ne_of_none e1 hg)]; exact e1
  h := a.h
  dom := a.dom
  fresh := fun x u e => by
    obtain ⟨q1, q2, q3⟩ := a.fresh x u e
    exact ⟨q1, q2, by rw [upd_ne (ne_of_none e h)]; exact q3⟩
/-- a tuple of keys is frozen, whoever made it -/
theorem Grow.frzK {p : Addr} {vs : List V} (a : Grow P G H P1 G1 H1) (hp : H1 p = some (.tup vs)) (hk : vs.all isKV = true) (hi : P1.iv p = none) (hg : G1 p = none) : Grow P G H P1 (upd G1 p (.tup vs)) H1 where
  fz := a.fz
  iv := a.iv
  n := a.n
  g := fun x u e => by
    have e1 := a.g x u e
    rw [upd_ne (ne_of_none e1 hg)]; exact e1
  h := a.h
  dom := a.dom
  fresh := fun x u e => by
    obtain ⟨q1, q2, q3⟩ := a.fresh x u e
    refine ⟨q1, q2, ?_⟩
    by_cases hx : x = p
    · subst hx
      have n : P.iv x = none := by rw [← q1]; exact hi
      have := a.h x u e n
      rw [hp] at this
      cases this
      exact .inr ⟨hk, n, upd_same⟩
    · rw [upd_ne hx]; exact q3
theorem Good.frz {p : Addr} {o : HO} (g : Good κ P G H) (hg : G p = none) (hi : P.iv p = none) (hp : H p = some o) : Good κ P (upd G p o) H where
  fx := g.fx
  pg := fun a u e => by
    have e1 := g.pg a u e
    rw [upd_ne (ne_of_none e1 hg)]; exact e1
  gh := fun a u e => by
    by_cases hne : a = p
    · subst hne; rw [upd_same] at e; cases e; exact .inl hp
    · rw [upd_ne hne] at e; exact g.gh a u e
  gi := fun a t e => by
    obtain ⟨q1, u, q2, q3⟩ := g.gi a t e
    have hne : a ≠ p := fun z => by subst z; rw [hi] at e; cases e
    exact ⟨by rw [upd_ne hne]; exact q1, u, q2, q3⟩
/-- a dict is locked, and let again -/
theorem Good.lock {a : Addr} {u : HO} {od : Obj} (g : Good κ P G H) (hg : G a = some u) (hd : isDk u = true) : Good κ P G (upd H a (.frz od u)) where
  pg := g.pg
  fx := g.fx
  gh := fun b o e => by
    by_cases hb : b = a
    · subst hb
      rw [hg] at e; cases e
      exact .inr ⟨hd, od, upd_same⟩
    · exact (g.gh b o e).of (upd_ne hb)
  gi := fun b t e => by
    obtain ⟨q1, o, q2, q3⟩ := g.gi b t e
    have hb : b ≠ a := fun z => by subst z; rw [q1] at hg; cases hg
    exact ⟨q1, o, by rw [upd_ne hb]; exact q2, q3⟩
theorem Good.unlock {a : Addr} {u : HO} (g : Good κ P G H) (hg : G a = some u) : Good κ P G (upd H a u) where
  pg := g.pg
  fx := g.fx
  gh := fun b o e => by
    by_cases hb : b = a
    · subst hb
      rw [hg] at e; cases e
      exact .inl upd_same
    · exact (g.gh b o e).of (upd_ne hb)
  gi := fun b t e => by
    obtain ⟨q1, o, q2, q3⟩ := g.gi b t e
    have hb : b ≠ a := fun z => by subst z; rw [q1] at hg; cases hg
    exact ⟨q1, o, by rw [upd_ne hb]; exact q2, q3⟩
theorem Grow.unlock {a : Addr} {u : HO} {od : Obj} (h : H a = some u) (gr : Grow P G (upd H a (.frz od u)) P1 G1 H1) : Grow P G H P1 G1 (upd H1 a u) where
  fz := gr.fz
  iv := gr.iv
  n := gr.n
  g := gr.g
  h := fun b o e n => by
    by_cases hb : b = a
    · subst hb
      rw [h] at e; cases e; exact upd_same
    · rw [upd_ne hb]; exact gr.h b o (by rw [upd_ne hb]; exact e) n
  dom := fun b o e => by
    by_cases hb : b = a
    · subst hb; exact ⟨_, upd_same⟩
    · rw [upd_ne hb]; exact gr.dom b o (by rw [upd_ne hb]; exact e)
  fresh := fun b o e => by
    by_cases hb : b = a
    · subst hb
      obtain ⟨q1, q2, q3⟩ := gr.fresh b _ upd_same
      exact ⟨q1, .inl (q2.same rfl), .inl (q3.same rfl)⟩
    · exact gr.fresh b o (by rw [upd_ne hb]; exact e)
theorem reps_frz {v : List V} {d : List D} {iv : IV} {p : Addr} {o : HO} (hg : G p = none) (r : Reps κ G iv v d) : Reps κ (upd G p o) iv v d := r.mono (fun a u e => by rw [upd_ne (ne_of_none e hg)]; exact e) fun _ _ h => h
end
abbrev DEnv := List (Option D)
abbrev FE := DEnv → Nat → (D → Nat → Prop) → Prop
abbrev FA := DEnv → Nat → (List D → Nat → Prop) → Prop
abbrev FT := DEnv → Nat → (Bool → Nat → Prop) → Prop
structure EnvR (κ : Kit) (G : Hp) (iv : IV) (σ : L2.St) (env : DEnv) : Prop where
  len : env.length = σ.length
  get : ∀ (i : Nat) (d : D), env[i]? = some (some d) → ∃ v : V, σ[i]? = some (some v) ∧ Rep κ G iv v d
/-- what follows a value; a new list; arguments; a test -/
abbrev Lk (κ : Kit) (P : Wd) (G H : Hp) (Q : D → Nat → Prop) (R : VK) : Prop := ∀ v P' G' H' d, Grow P G H P' G' H' → Good κ P' G' H' → Rep κ G' P'.iv v d → Q d P'.n → R v H'
abbrev LkO (κ : Kit) (P : Wd) (G H : Hp) (Q : List D → Nat → Prop) (R : VK) : Prop := ∀ a P' G' H' vs xs, Grow P G H P' G' H' → Good κ P' G' H' → H a = none → G' a = none → P'.iv a = none → H' a = some (.lst vs) → vs.length ≤ sizeLine → Reps κ G' P'.iv vs xs → Q xs P'.n → R (.ref a) H'
abbrev LkA (κ : Kit) (P : Wd) (G H : Hp) (Q : List D → Nat → Prop) (R : List V → Hp → Prop) : Prop := ∀ vs P' G' H' ds, Grow P G H P' G' H' → Good κ P' G' H' → Reps κ G' P'.iv vs ds → Q ds P'.n → R vs H'
abbrev LkT (κ : Kit) (P : Wd) (G H : Hp) (Q : Bool → Nat → Prop) (R : Bool → Hp → Prop) : Prop := ∀ b P' G' H', Grow P G H P' G' H' → Good κ P' G' H' → Q b P'.n → R b H'
abbrev RdE (κ : Kit) (f : FE) (t : TE) : Prop := ∀ (P : Wd) (G H : Hp) (σ : L2.St) (env : DEnv) (Q : D → Nat → Prop) (R : VK), Good κ P G H → EnvR κ G P.iv σ env → f env P.n Q → Lk κ P G H Q R → t σ H R
abbrev RdO (κ : Kit) (f : FA) (t : TE) : Prop := ∀ (P : Wd) (G H : Hp) (σ : L2.St) (env : DEnv) (Q : List D → Nat → Prop) (R : VK), Good κ P G H → EnvR κ G P.iv σ env → f env P.n Q → LkO κ P G H Q R → t σ H R
abbrev RdA (κ : Kit) (f : FA) (t : TA) : Prop := ∀ (P : Wd) (G H : Hp) (σ : L2.St) (env : DEnv) (Q : List D → Nat → Prop) (R : List V → Hp → Prop), Good κ P G H → EnvR κ G P.iv σ env → f env P.n Q → LkA κ P G H Q R → t σ H R
abbrev RdT (κ : Kit) (f : FT) (t : TT) : Prop := ∀ (P : Wd) (G H : Hp) (σ : L2.St) (env : DEnv) (Q : Bool → Nat → Prop) (R : Bool → Hp → Prop), Good κ P G H → EnvR κ G P.iv σ env → f env P.n Q → LkT κ P G H Q R → t σ H R
/-- an expression reads as f; a new list, not yet frozen; arguments; a test -/
def DE (κ : Kit) (X : Cx) (e : Expr) (f : FE) : Prop := ∃ t, PE X e t ∧ RdE κ f t
def DO (κ : Kit) (X : Cx) (e : Expr) (f : FA) : Prop := ∃ t, PE X e t ∧ RdO κ f t
def DA (κ : Kit) (X : Cx) (es : List Expr) (f : FA) : Prop := ∃ t, PA X es t ∧ RdA κ f t
def DT (κ : Kit) (X : Cx) (e : Expr) (f : FT) : Prop := ∃ t, PT X e t ∧ RdT κ f t
section
variable {κ : Kit} {X : Cx} {a b c e : Expr} {es : List Expr} {fa fb fc f : FE} {pos : Pos}
theorem EnvR.grow {P P1 : Wd} {G G1 H H1 : Hp} {σ : L2.St} {env : DEnv} (ev : EnvR κ G P.iv σ env) (g : Grow P G H P1 G1 H1) : EnvR κ G1 P1.iv σ env :=
  ⟨ev.len, fun i d h => by obtain ⟨v, h1, h2⟩ := ev.get i d h; exact ⟨v, h1, g.rep h2⟩⟩
theorem EnvR.set {G : Hp} {iv : IV} {σ : L2.St} {env : DEnv} {i : Nat} {v : V} {d : D} (ev : EnvR κ G iv σ env) (r : Rep κ G iv v d) : EnvR κ G iv (σ.set i (some v)) (env.set i (some d)) :=
  ⟨by rw [List.length_set, List.length_set, ev.len], fun j u h => by
    by_cases hij : i = j
    · subst hij
      rw [List.getElem?_set] at h
      simp only [if_true] at h
      split at h
      · cases h
        exact ⟨v, by rw [List.getElem?_set]; simp only [if_true]; rw [if_pos (by rw [← ev.len]; assumption)], r⟩
      · cases h
    · rw [List.getElem?_set_ne hij] at h ⊢
      exact ev.get j u h⟩
theorem EnvR.setN {G : Hp} {iv : IV} {σ : L2.St} {env : DEnv} {i : Nat} (ev : EnvR κ G iv σ env) : EnvR κ G iv (σ.set i none) (env.set i none) :=
  ⟨by rw [List.length_set, List.length_set, ev.len], fun j u h => by
    by_cases hij : i = j
    · subst hij
      rw [List.getElem?_set] at h
      simp only [if_true] at h
      split at h <;> cases h
    · rw [List.getElem?_set_ne hij] at h ⊢
      exact ev.get j u h⟩
/-- a new list is frozen -/
@[simp] def fFrz (f : FA) : FE := fun env n Q => f env n fun xs m => Q (.lst xs) m
theorem DO.fr {fo : FA} (h : DO κ X e fo) : DE κ X e (fFrz fo) := by
  obtain ⟨t, p, q⟩ := h
  refine ⟨t, p, fun P G H σ env Q R g ev hf hR => q P G H σ env _ R g ev hf fun a P' G' H' vs xs gr g' ha hg hi hh hz r hq => ?_⟩
  exact hR (.ref a) P' (upd G' a (.lst vs)) H' (.lst xs) (gr.frz ha hg) (g'.frz hg hi hh) (.lst upd_same hz (reps_frz hg r)) hq
@[simp] def fVar (i : Nat) : FE := fun env n Q => ∃ d, env[i]? = some (some d) ∧ Q d n
theorem de_var {i : Nat} {x : Str} (hN : X.N[i]? = some x) (hv : Vis X.env.scope x) (hd : (x == ("__debug__" : Str)) = false := by decide) (hcd : (x == ("__classdict__" : Str)) = false := by decide) : DE κ X (.Name x pos) (fVar i) :=
  ⟨_, pe_var hN hv hd hcd, fun P G H σ env Q R g ev ⟨d, h1, h2⟩ hR => by
    obtain ⟨v, q1, q2⟩ := ev.get i d h1
    exact ⟨v, q1, hR v P G H d .refl g q2 h2⟩⟩
@[simp] def fC (d : D) : FE := fun _ n Q => Q d n
theorem de_int {i j} : DE κ X (.Constant (.int i) j pos) (fC (.int i)) := ⟨_, pe_int, fun P G H σ env Q R g ev h hR => hR _ P G H _ .refl g .int h⟩
theorem de_bl {i j} : DE κ X (.Constant (.bool i) j pos) (fC (.bl i)) := ⟨_, pe_bl, fun P G H σ env Q R g ev h hR => hR _ P G H _ .refl g .bl h⟩
theorem de_non {j} : DE κ X (.Constant .none j pos) (fC .non) := ⟨_, pe_non, fun P G H σ env Q R g ev h hR => hR _ P G H _ .refl g .non h⟩
theorem de_str {x : Str} {j} (s : List Nat) (hs : x = ⟨s.toArray⟩) (hl : OkS s) : DE κ X (.Constant (.str x) j pos) (fC (.str s)) :=
  ⟨_, pe_str, fun P G H σ env Q R g ev h hR => hR _ P G H _ .refl g (by rw [hs]; exact .str hl) h⟩
/-- two operands, an operation by values and its data -/
def LiftR (κ : Kit) (r : R2) (f : D → D → Nat → (D → Nat → Prop) → Prop) : Prop := ∀ (P : Wd) (G H : Hp) (x y : V) (dx dy : D) (Q : D → Nat → Prop) (R : VK), Good κ P G H → Rep κ G P.iv x dx → Rep κ G P.iv y dy → f dx dy P.n Q → Lk κ P G H Q R → r x y H R
theorem Grow.back {P P1 : Wd} {G H G1 H1 : Hp} {p : Addr} (gr : Grow P G H P1 G1 H1) (h : H1 p = none) : H p = none := by
  cases e : H p with
  | none => rfl
  | some o =>
    obtain ⟨o', e'⟩ := gr.dom p o e
    rw [e'] at h; cases h
theorem Lk.grow {P P1 : Wd} {G H G1 H1 : Hp} {Q : D → Nat → Prop} {R : VK} (gr : Grow P G H P1 G1 H1) (h : Lk κ P G H Q R) : Lk κ P1 G1 H1 Q R := fun v P' G' H' d gr' g' r q => h v P' G' H' d (gr.trans gr') g' r q
theorem LkO.grow {P P1 : Wd} {G H G1 H1 : Hp} {Q : List D → Nat → Prop} {R : VK} (gr : Grow P G H P1 G1 H1) (h : LkO κ P G H Q R) : LkO κ P1 G1 H1 Q R := fun a P' G' H' vs xs gr' g' ha hg hi hh hz r q => h a P' G' H' vs xs (gr.trans gr') g' (gr.back ha) hg hi hh hz r q
@[simp] def f2 (f : D → D → Nat → (D → Nat → Prop) → Prop) (fa fb : FE) : FE := fun env n Q => fa env n fun x n1 => fb env n1 fun y n2 => f x y n2 Q
@[simp] def f2O (f : D → D → Nat → (List D → Nat → Prop) → Prop) (fa fb : FE) : FA := fun env n Q => fa env n fun x n1 => fb env n1 fun y n2 => f x y n2 Q
theorem op_lift {r : R2} {f : D → D → Nat → (D → Nat → Prop) → Prop} {ta tb : TE} (hl : LiftR κ r f) (ha : RdE κ fa ta) (hb : RdE κ fb tb) : RdE κ (f2 f fa fb) (tOp r ta tb) := fun P G H σ env Q R g ev hf hR =>
  ha P G H σ env _ _ g ev hf fun x P1 G1 H1 dx gr1 g1 rx hf1 => hb P1 G1 H1 σ env _ _ g1 (ev.grow gr1) hf1 fun y P2 G2 H2 dy gr2 g2 ry hf2 =>
    hl P2 G2 H2 x y dx dy Q R g2 (gr2.rep rx) ry hf2 (hR.grow (gr1.trans gr2))
theorem de_op {op : Operator} {r : R2} {f : D → D → Nat → (D → Nat → Prop) → Prop} (hl : LiftR κ r f) (ho : OpR X (binaryOp op) r) (ha : DE κ X a fa) (hb : DE κ X b fb) : DE κ X (.BinOp a op b pos) (f2 f fa fb) := by
  obtain ⟨ta, pa, qa⟩ := ha
  obtain ⟨tb, pb, qb⟩ := hb
  exact ⟨_, pe_op ho pa pb, op_lift hl qa qb⟩
theorem de_cmp {op : CmpOp} {r : R2} {f : D → D → Nat → (D → Nat → Prop) → Prop} (hl : LiftR κ r f) (ho : OpR X (compareOp op) r) (ha : DE κ X a fa) (hb : DE κ X b fb) (hm : behindInMarks op b = false) : DE κ X (.Compare a [op] [b] pos) (f2 f fa fb) := by
  obtain ⟨ta, pa, qa⟩ := ha
  obtain ⟨tb, pb, qb⟩ := hb
  exact ⟨_, pe_cmpR ho pa pb hm, op_lift hl qa qb⟩
end
end DL
namespace DL
open PySem PySem.Spec PyProof.Rows L2
section
variable {κ : Kit} {X : Cx} {a b c e : Expr} {es : List Expr} {fa fb fc f : FE} {far : FA} {pos : Pos}
@[simp] def aNil : FA := fun _ n Q => Q [] n
@[simp] def aCons (f : FE) (r : FA) : FA := fun env n Q => f env n fun x n1 => r env n1 fun xs n2 => Q (x :: xs) n2
theorem da_nil : DA κ X [] aNil := ⟨_, pa_nil, fun P G H σ env Q R g ev h hR => hR [] P G H [] .refl g .nil h⟩
theorem da_cons (ha : DE κ X e f) (hr : DA κ X es far) (hs : starEach (e :: es) X.env = (false, eval e X.env) :: starEach es X.env := by rfl) : DA κ X (e :: es) (aCons f far) := by
  obtain ⟨ta, pa, qa⟩ := ha
  obtain ⟨tb, pb, qb⟩ := hr
  refine ⟨_, pa_cons pa pb hs, fun P G H σ env Q R g ev hf hR => ?_⟩
  exact qa P G H σ env _ _ g ev hf fun x P1 G1 H1 dx gr1 g1 rx hf1 => qb P1 G1 H1 σ env _ _ g1 (ev.grow gr1) hf1 fun xs P2 G2 H2 ds gr2 g2 rs hq =>
    hR _ P2 G2 H2 _ (gr1.trans gr2) g2 (.cons (gr2.rep rx) rs) hq
@[simp] def fTup (fa : FA) : FE := fun env n Q => fa env n fun xs m => xs.length ≤ sizeLine ∧ Q (.tup xs) m
theorem de_tup {x1} (h : DA κ X es far) : DE κ X (.Tuple es x1 pos) (fTup far) := by
  obtain ⟨t, p, q⟩ := h
  refine ⟨_, pe_tup p, fun P G H σ env Q R g ev hf hR => q P G H σ env _ _ g ev hf fun vs P1 G1 H1 ds gr g1 r hq => ⟨by rw [r.length]; exact hq.1, fun a ha => ?_⟩⟩
  have hg := g1.gnone ha
  exact hR _ P1 (upd G1 a (.tup vs)) _ (.tup ds) ((gr.put (gr.back ha)).frz (gr.back ha) hg) ((g1.new ha).frz hg (g1.inone ha) upd_same) (.tup upd_same (by rw [r.length]; exact hq.1) (reps_frz hg r)) hq.2
@[simp] def oLst (fa : FA) : FA := fun env n Q => fa env n fun xs m => xs.length ≤ sizeLine ∧ Q xs m
theorem do_lst (h : DA κ X es far) : DO κ X (.List es pos) (oLst far) := by
  obtain ⟨t, p, q⟩ := h
  refine ⟨_, pe_lst p, fun P G H σ env Q R g ev hf hR => q P G H σ env _ _ g ev hf fun vs P1 G1 H1 ds gr g1 r hq => ⟨by rw [r.length]; exact hq.1, fun a ha => ?_⟩⟩
  exact hR a P1 G1 _ vs ds (gr.put (gr.back ha)) (g1.new ha) (gr.back ha) (g1.gnone ha) (g1.inone ha) upd_same (by rw [r.length]; exact hq.1) r hq.2
def LiftU (κ : Kit) (r : V → Hp → VK → Prop) (f : D → Nat → (D → Nat → Prop) → Prop) : Prop := ∀ (P : Wd) (G H : Hp) (x : V) (dx : D) (Q : D → Nat → Prop) (R : VK), Good κ P G H → Rep κ G P.iv x dx → f dx P.n Q → Lk κ P G H Q R → r x H R
def LiftC (κ : Kit) (r : List V → Hp → VK → Prop) (f : List D → Nat → (D → Nat → Prop) → Prop) : Prop := ∀ (P : Wd) (G H : Hp) (xs : List V) (ds : List D) (Q : D → Nat → Prop) (R : VK), Good κ P G H → Reps κ G P.iv xs ds → f ds P.n Q → Lk κ P G H Q R → r xs H R
def LiftCO (κ : Kit) (r : List V → Hp → VK → Prop) (f : List D → Nat → (List D → Nat → Prop) → Prop) : Prop := ∀ (P : Wd) (G H : Hp) (xs : List V) (ds : List D) (Q : List D → Nat → Prop) (R : VK), Good κ P G H → Reps κ G P.iv xs ds → f ds P.n Q → LkO κ P G H Q R → r xs H R
@[simp] def f1 (f : D → Nat → (D → Nat → Prop) → Prop) (fa : FE) : FE := fun env n Q => fa env n fun x n1 => f x n1 Q
@[simp] def fCl (f : List D → Nat → (D → Nat → Prop) → Prop) (fa : FA) : FE := fun env n Q => fa env n fun x n1 => f x n1 Q
@[simp] def oCl (f : List D → Nat → (List D → Nat → Prop) → Prop) (fa : FA) : FA := fun env n Q => fa env n fun x n1 => f x n1 Q
theorem de_un {op : UnaryOp} {r : V → Hp → VK → Prop} {g : D → Nat → (D → Nat → Prop) → Prop} (hl : LiftU κ r g) (ho : UnR X (unaryOp op) r) (ha : DE κ X a fa) : DE κ X (.UnaryOp op a pos) (f1 g fa) := by
  obtain ⟨t, p, q⟩ := ha
  exact ⟨_, pe_un ho p, fun P G H σ env Q R g ev hf hR => q P G H σ env _ _ g ev hf fun v P1 G1 H1 d gr g1 r hq => hl P1 G1 H1 v d Q R g1 r hq (hR.grow gr)⟩
theorem de_callB {id : String} {x : Str} {p : Pos} {r : List V → Hp → VK → Prop} {g : List D → Nat → (D → Nat → Prop) → Prop} (hl : LiftC κ r g) (hc : CallR X (.builtin id) r) (hg : Gl X x) (hm : X.mg x = none) (hv : bootBuiltins x = some (.builtin id)) (ha : DA κ X (e :: es) far)
    (hn : x ≠ "__name__" := by decide) (hdb : (x == ("__debug__" : Str)) = false := by decide) (he : starEach (e :: es) X.env = (false, eval e X.env) :: starEach es X.env := by rfl) (hpl : (backTo pos (starEach es X.env)).any (·.1) = false := by rfl) : DE κ X (.Call (.Name x p) (e :: es) [] pos) (fCl g far) := by
  obtain ⟨t, pa, q⟩ := ha
  exact ⟨_, pe_callB hc hg hm hv pa hn hdb he hpl, fun P G H σ env Q R g ev hf hR => q P G H σ env _ _ g ev hf fun v P1 G1 H1 d gr g1 r hq => hl P1 G1 H1 v d Q R g1 r hq (hR.grow gr)⟩
theorem do_callB {id : String} {x : Str} {p : Pos} {r : List V → Hp → VK → Prop} {g : List D → Nat → (List D → Nat → Prop) → Prop} (hl : LiftCO κ r g) (hc : CallR X (.builtin id) r) (hg : Gl X x) (hm : X.mg x = none) (hv : bootBuiltins x = some (.builtin id)) (ha : DA κ X (e :: es) far)
    (hn : x ≠ "__name__" := by decide) (hdb : (x == ("__debug__" : Str)) = false := by decide) (he : starEach (e :: es) X.env = (false, eval e X.env) :: starEach es X.env := by rfl) (hpl : (backTo pos (starEach es X.env)).any (·.1) = false := by rfl) : DO κ X (.Call (.Name x p) (e :: es) [] pos) (oCl g far) := by
  obtain ⟨t, pa, q⟩ := ha
  exact ⟨_, pe_callB hc hg hm hv pa hn hdb he hpl, fun P G H σ env Q R g ev hf hR => q P G H σ env _ _ g ev hf fun v P1 G1 H1 d gr g1 r hq => hl P1 G1 H1 v d Q R g1 r hq (hR.grow gr)⟩
theorem de_callTy {T : String} {x : Str} {p : Pos} {r : List V → Hp → VK → Prop} {g : List D → Nat → (D → Nat → Prop) → Prop} (hl : LiftC κ r g) (hc : CallR X (.type T) r) (hg : Gl X x) (hm : X.mg x = none) (hv : bootBuiltins x = some (.type T)) (ha : DA κ X (e :: es) far)
    (hn : x ≠ "__name__" := by decide) (hdb : (x == ("__debug__" : Str)) = false := by decide) (he : starEach (e :: es) X.env = (false, eval e X.env) :: starEach es X.env := by rfl) (hpl : (backTo pos (starEach es X.env)).any (·.1) = false := by rfl) : DE κ X (.Call (.Name x p) (e :: es) [] pos) (fCl g far) := by
  obtain ⟨t, pa, q⟩ := ha
  exact ⟨_, pe_callTy hc hg hm hv pa hn hdb he hpl, fun P G H σ env Q R g ev hf hR => q P G H σ env _ _ g ev hf fun v P1 G1 H1 d gr g1 r hq => hl P1 G1 H1 v d Q R g1 r hq (hR.grow gr)⟩
theorem do_callTy {T : String} {x : Str} {p : Pos} {r : List V → Hp → VK → Prop} {g : List D → Nat → (List D → Nat → Prop) → Prop} (hl : LiftCO κ r g) (hc : CallR X (.type T) r) (hg : Gl X x) (hm : X.mg x = none) (hv : bootBuiltins x = some (.type T)) (ha : DA κ X (e :: es) far)
    (hn : x ≠ "__name__" := by decide) (hdb : (x == ("__debug__" : Str)) = false := by decide) (he : starEach (e :: es) X.env = (false, eval e X.env) :: starEach es X.env := by rfl) (hpl : (backTo pos (starEach es X.env)).any (·.1) = false := by rfl) : DO κ X (.Call (.Name x p) (e :: es) [] pos) (oCl g far) := by
  obtain ⟨t, pa, q⟩ := ha
  exact ⟨_, pe_callTy hc hg hm hv pa hn hdb he hpl, fun P G H σ env Q R g ev hf hR => q P G H σ env _ _ g ev hf fun v P1 G1 H1 d gr g1 r hq => hl P1 G1 H1 v d Q R g1 r hq (hR.grow gr)⟩
theorem OpR.or {op : Value → Value → Sem Value} {r r' : R2} (h : OpR X op r) (h' : OpR X op r') : OpR X op (fun x y H Q => r x y H Q ∨ r' x y H Q) := by
  intro pins s σ H x y v u Q I rx ry q
  rcases q with q | q
  · exact h pins s σ H x y v u Q I rx ry q
  · exact h' pins s σ H x y v u Q I rx ry q
theorem CallR.or {f : Value} {r r' : List V → Hp → VK → Prop} (h : CallR X f r) (h' : CallR X f r') : CallR X f (fun xs H Q => r xs H Q ∨ r' xs H Q) := by
  intro pins s σ H xs us Q I rx q
  rcases q with q | q
  · exact h pins s σ H xs us Q I rx q
  · exact h' pins s σ H xs us Q I rx q
/-- a comparison by values and its data -/
def CR (κ : Kit) (X : Cx) (op : CmpOp) (φ : D → D → Nat → (D → Nat → Prop) → Prop) : Prop := ∃ r, LiftR κ r φ ∧ OpR X (compareOp op) r
theorem CR.de {op : CmpOp} {φ : D → D → Nat → (D → Nat → Prop) → Prop} (c : CR κ X op φ) (ha : DE κ X a fa) (hb : DE κ X b fb) (hm : behindInMarks op b = false) : DE κ X (.Compare a [op] [b] pos) (f2 φ fa fb) := by
  obtain ⟨r, h1, h2⟩ := c
  exact de_cmp h1 h2 ha hb hm
/-- it has to be True or False -/
def gB (d : D) (m : Nat) (Q : Bool → Nat → Prop) : Prop := ∃ b, d = .bl b ∧ Q b m
@[simp] theorem gB_bl {b : Bool} {m : Nat} {Q : Bool → Nat → Prop} : gB (.bl b) m Q = Q b m := by
  refine propext ⟨?_, fun h => ⟨b, rfl, h⟩⟩
  rintro ⟨c, e, h⟩
  cases e
  exact h
@[simp] def tVal (f : FE) : FT := fun env n Q => f env n fun d m => gB d m Q
theorem rep_bl' {G : Hp} {iv : IV} {v : V} {k : Bool} (r : Rep κ G iv v (.bl k)) : v = .bl k := by cases r; rfl
theorem CR.dt {op : CmpOp} {φ : D → D → Nat → (D → Nat → Prop) → Prop} (c : CR κ X op φ) (ha : DE κ X a fa) (hb : DE κ X b fb) (hm : behindInMarks op b = false) : DT κ X (.Compare a [op] [b] pos) (tVal (f2 φ fa fb)) := by
  obtain ⟨r, h1, h2⟩ := c
  obtain ⟨ta, pa, qa⟩ := ha
  obtain ⟨tb, pb, qb⟩ := hb
  refine ⟨_, pt_cmpR h2 pa pb hm, fun P G H σ env Q R g ev hf hR => op_lift h1 qa qb P G H σ env _ _ g ev hf fun v P' G' H' d gr g' rv hq => ?_⟩
  obtain ⟨b, e, hq⟩ := hq
  subst e
  exact ⟨b, rep_bl' rv, hR b P' G' H' gr g' hq⟩
theorem str_app (s t : List Nat) : ((⟨s.toArray⟩ : Str) ++ ⟨t.toArray⟩) = ⟨(s ++ t).toArray⟩ := by
  show (⟨s.toArray ++ t.toArray⟩ : Str) = _
  simp
theorem str_len (s : List Nat) : (⟨s.toArray⟩ : Str).length = s.length := by show s.toArray.size = s.length; simp
/-- a + b: ints, texts -/
def gAdd (x y : D) (n : Nat) (Q : D → Nat → Prop) : Prop := match x, y with
  | .int i, .int j => Q (.int (i + j)) n
  | .str s, .str t => s.length + t.length ≤ sizeLine ∧ Q (.str (s ++ t)) n
  | _, _ => False
def gSub (x y : D) (n : Nat) (Q : D → Nat → Prop) : Prop := match x, y with
  | .int i, .int j => Q (.int (i - j)) n
  | _, _ => False
theorem de_sub (ha : DE κ X a fa) (hb : DE κ X b fb) : DE κ X (.BinOp a .Sub b pos) (f2 gSub fa fb) := by
  refine de_op ?_ op_sub ha hb
  intro P G H x y dx dy Q R g rx ry hf hR
  cases rx <;> cases ry <;> try (exact False.elim hf)
  exact ⟨_, _, rfl, rfl, hR _ P G H _ .refl g .int hf⟩
/-- a + b of lists: a new list -/
def oAdd (x y : D) (n : Nat) (Q : List D → Nat → Prop) : Prop := match x, y with
  | .lst xs, .lst ys => xs.length + ys.length ≤ sizeLine ∧ Q (xs ++ ys) n
  | _, _ => False
end
end DL
namespace DL
open PySem PySem.Spec PyProof.Rows L2
/-- when a product is made -/
def MulOk (i j : Int) : Prop := (i.natAbs < 2 ^ 64 ∨ j.natAbs < 2 ^ 64) ∨ (i.natAbs.log2 + j.natAbs.log2 < 1000000)
theorem MulOk.left {i j : Int} (h : i.natAbs < 2 ^ 64) : MulOk i j := .inl (.inl h)
theorem MulOk.right {i j : Int} (h : j.natAbs < 2 ^ 64) : MulOk i j := .inl (.inr h)
theorem MulOk.ok {i j : Int} (h : MulOk i j) : IntMulOk i j := by
  rcases h with (h | h) | h
  · exact (show CMul i j from .inl (by omega)).ok
  · exact (show CMul i j from .inr (by omega)).ok
  · exact CMulW.ok h
def DivOk (j : Int) : Prop := 0 < j ∧ j.natAbs.log2 < 9000
section
variable {κ : Kit} {X : Cx} {a b c e : Expr} {es : List Expr} {fa fb fc f : FE} {far : FA} {pos : Pos}
theorem op_mulA : OpR X (binaryOp .Mult) (rI MulOk fun i j => .int (i * j)) := opI fun _ _ _ _ _ _ _ hc q => mul_int q hc.ok
theorem foldl_rep (s : List Nat) (n : Nat) : ∀ a : Array Nat, (List.replicate n s.toArray).foldl (· ++ ·) a = (a.toList ++ (List.replicate n s).flatten).toArray := by
  induction n with
  | zero => intro a; simp
  | succ n ih =>
    intro a
    rw [List.replicate_succ, List.foldl_cons, ih, List.replicate_succ, List.flatten_cons]
    simp
theorem op_mulS : OpR X (binaryOp .Mult) (fun x y H Q => ∃ s k, x = .str s ∧ y = .int k ∧ k < 2 ^ 62 ∧ -(2 ^ 62) < k ∧ s.length * k.toNat ≤ sizeLine ∧ Q (.str ⟨(List.replicate k.toNat s.cps.toList).flatten.toArray⟩) H) := by
  intro pins s σ H x y v u Q I rx ry h
  obtain ⟨z, k, rfl, rfl, h1, h2, h3, q⟩ := h
  obtain ⟨t, rfl⟩ := rx
  obtain ⟨t', rfl⟩ := ry
  have hl : sizeLine = 16777216 := sizeLine_eq
  refine P.mul_str ?_ ?_ ?_ ?_
  · have e1 : ¬ k < -(2 ^ 63 : Int) := by omega
    have e2 : ¬ k ≥ 2 ^ 63 := by omega
    rw [decide_eq_false e1, decide_eq_false e2]; rfl
  · intro e1 _ e2
    have e3 : (z.length : Int) * k ≤ 16777216 := by
      have h4 : z.length * k.toNat ≤ 16777216 := Nat.le_trans h3 (Nat.le_of_eq hl)
      have h5 : ((z.length * k.toNat : Nat) : Int) ≤ ((16777216 : Nat) : Int) := Int.ofNat_le.mpr h4
      rw [Int.natCast_mul, Int.toNat_of_nonneg (by omega)] at h5
      exact h5
    have e4 : ((2 ^ 63 - 1) / k + 1) * k ≤ (z.length : Int) * k := Int.mul_le_mul_of_nonneg_right (by omega) (by omega)
    have e5 : (2 ^ 63 - 1 : Int) < ((2 ^ 63 - 1) / k + 1) * k := Int.lt_ediv_add_one_mul_self _ (by omega)
    omega
  · intro _ _
    unfold Builtin.Str.tooLong
    simp only [decide_eq_false_iff_not, Nat.not_lt, gt_iff_lt]
    exact h3
  · have key : ∀ s' : Shared, Inv X pins σ H s' → ∀ t : Tok, EP X pins σ Q (.str ⟨(List.replicate k.toNat z.cps.toList).flatten.toArray⟩ t) s' := fun s' I' t => ⟨V.str ⟨(List.replicate k.toNat z.cps.toList).flatten.toArray⟩, H, I', ⟨_, rfl⟩, q⟩
    by_cases hk : k < 1
    · rw [if_pos hk]
      have e0 : k.toNat = 0 := by omega
      have e1 : (⟨(List.replicate k.toNat z.cps.toList).flatten.toArray⟩ : Str) = Str.empty := by rw [e0]; rfl
      exact ⟨by decide, by have := key _ (I.tok (s.toks + 1)) s.toks; rw [e1] at this; exact this⟩
    · rw [if_neg hk]
      by_cases hc : (k == 1 || z.length == 0) = true
      · rw [if_pos hc]
        have e1 : (⟨(List.replicate k.toNat z.cps.toList).flatten.toArray⟩ : Str) = z := by
          rcases Bool.or_eq_true _ _ ▸ hc with c | c
          · have : k = 1 := by simpa using c
            subst this
            simp
          · have c' : z.cps.size = 0 := by simpa [Str.length] using c
            have : z.cps = #[] := Array.eq_empty_of_size_eq_zero c'
            cases z with
            | mk cps => simp only at this; subst this; simp
        show EP X pins σ Q (.str z t) s
        have := key s I t
        rw [e1] at this; exact this
      · rw [if_neg hc]
        have e2 : (List.replicate k.toNat z.cps).foldl (· ++ ·) #[] = (List.replicate k.toNat z.cps.toList).flatten.toArray := by
          have := foldl_rep z.cps.toList k.toNat #[]
          simpa using this
        rw [e2]
        refine ⟨?_, key _ (I.tok (s.toks + 1)) s.toks⟩
        show (List.replicate k.toNat z.cps.toList).flatten.toArray.size ≤ sizeLine
        rw [List.size_toArray, List.length_flatten, List.map_replicate, List.sum_replicate_nat, Array.length_toList, Nat.mul_comm]
        exact h3
theorem OkS.rep {s : List Nat} (h : OkS s) {k : Nat} (z : s.length * k ≤ sizeLine) : OkS (List.replicate k s).flatten := by
  refine ⟨?_, fun c hc => ?_⟩
  · rw [List.length_flatten, List.map_replicate, List.sum_replicate_nat, Nat.mul_comm]; exact z
  · obtain ⟨l, hl, hc⟩ := List.mem_flatten.mp hc
    rw [List.eq_of_mem_replicate hl] at hc
    exact h.2 c hc
/-- a * b: ints; a text so many times -/
def gMul (x y : D) (n : Nat) (Q : D → Nat → Prop) : Prop := match x, y with
  | .int i, .int j => MulOk i j ∧ Q (.int (i * j)) n
  | .str s, .int k => (k < 2 ^ 62 ∧ -(2 ^ 62) < k ∧ s.length * k.toNat ≤ sizeLine) ∧ Q (.str (List.replicate k.toNat s).flatten) n
  | _, _ => False
theorem de_mul (ha : DE κ X a fa) (hb : DE κ X b fb) : DE κ X (.BinOp a .Mult b pos) (f2 gMul fa fb) := by
  refine de_op (r := fun x y H Q => (rI MulOk fun i j => .int (i * j)) x y H Q ∨ (∃ s k, x = .str s ∧ y = .int k ∧ k < 2 ^ 62 ∧ -(2 ^ 62) < k ∧ s.length * k.toNat ≤ sizeLine ∧ Q (.str ⟨(List.replicate k.toNat s.cps.toList).flatten.toArray⟩) H)) ?_ (OpR.or op_mulA op_mulS) ha hb
  intro P G H x y dx dy Q R g rx ry hf hR
  cases rx <;> cases ry <;> try (exact False.elim hf)
  · exact .inl ⟨_, _, rfl, rfl, hf.1, hR _ P G H _ .refl g .int hf.2⟩
  · rename_i s hs k
    refine .inr ⟨_, _, rfl, rfl, hf.1.1, hf.1.2.1, by rw [str_len]; exact hf.1.2.2, ?_⟩
    have e : (⟨s.toArray⟩ : Str).cps.toList = s := by simp
    rw [e]
    exact hR _ P G H _ .refl g (.str (hs.rep hf.1.2.2)) hf.2
def gDiv (x y : D) (n : Nat) (Q : D → Nat → Prop) : Prop := match x, y with
  | .int i, .int j => DivOk j ∧ Q (.int (i / j)) n
  | _, _ => False
theorem de_div (ha : DE κ X a fa) (hb : DE κ X b fb) : DE κ X (.BinOp a .FloorDiv b pos) (f2 gDiv fa fb) := by
  refine de_op ?_ op_fdivW ha hb
  intro P G H x y dx dy Q R g rx ry hf hR
  cases rx <;> cases ry <;> try (exact False.elim hf)
  exact ⟨_, _, rfl, rfl, hf.1, hR _ P G H _ .refl g .int hf.2⟩
def gMod (x y : D) (n : Nat) (Q : D → Nat → Prop) : Prop := match x, y with
  | .int i, .int j => 0 < j ∧ Q (.int (i % j)) n
  | _, _ => False
theorem de_mod (ha : DE κ X a fa) (hb : DE κ X b fb) : DE κ X (.BinOp a .Mod b pos) (f2 gMod fa fb) := by
  refine de_op ?_ op_mod ha hb
  intro P G H x y dx dy Q R g rx ry hf hR
  cases rx <;> cases ry <;> try (exact False.elim hf)
  exact ⟨_, _, rfl, rfl, hf.1, hR _ P G H _ .refl g .int hf.2⟩
def CPowW (i j : Int) : Prop := 0 ≤ j ∧ (Builtin.Int.intBits i : Int) * j ≤ 134217728
theorem op_powW : OpR X (binaryOp .Pow) (rI CPowW fun i j => .int (i ^ j.toNat)) := opI fun _ _ _ _ _ _ _ hc q => pow_int hc.1 (by have := hc.2; omega) q
def gPow (x y : D) (n : Nat) (Q : D → Nat → Prop) : Prop := match x, y with
  | .int i, .int j => CPowW i j ∧ Q (.int (i ^ j.toNat)) n
  | _, _ => False
theorem de_pow (ha : DE κ X a fa) (hb : DE κ X b fb) : DE κ X (.BinOp a .Pow b pos) (f2 gPow fa fb) := by
  refine de_op ?_ op_powW ha hb
  intro P G H x y dx dy Q R g rx ry hf hR
  cases rx <;> cases ry <;> try (exact False.elim hf)
  exact ⟨_, _, rfl, rfl, hf.1, hR _ P G H _ .refl g .int hf.2⟩
def gNeg (x : D) (n : Nat) (Q : D → Nat → Prop) : Prop := match x with
  | .int i => Q (.int (-i)) n
  | _ => False
theorem de_neg (ha : DE κ X a fa) : DE κ X (.UnaryOp .USub a pos) (f1 gNeg fa) := by
  refine de_un ?_ un_neg ha
  intro P G H x dx Q R g rx hf hR
  cases rx <;> try (exact False.elim hf)
  exact ⟨_, rfl, hR _ P G H _ .refl g .int hf⟩
mutual
def toPy : D → PyData
  | .non => .none
  | .bl b => .bool b
  | .int i => .int i
  | .str s => .str ⟨s.toArray⟩
  | .lst xs => .list (toPys xs)
  | .tup xs => .tuple (toPys xs)
  | _ => .none
def toPys : List D → List PyData
  | [] => []
  | x :: xs => toPy x :: toPys xs
/-- plain data of depth at most k -/
@[simp] def plain : Nat → D → Bool
  | _, .non => true
  | _, .bl _ => true
  | _, .int _ => true
  | _, .str _ => true
  | k + 1, .lst xs => plains k xs
  | k + 1, .tup xs => plains k xs
  | _, _ => false
@[simp] def plains : Nat → List D → Bool
  | _, [] => true
  | k, x :: xs => plain k x && plains k xs
end
mutual
def eqD : D → D → Bool
  | .non, .non => true
  | .bl a, .bl b => a == b
  | .bl a, .int b => (if a then 1 else 0) == b
  | .int a, .bl b => a == (if b then 1 else 0)
  | .int a, .int b => a == b
  | .str a, .str b => a == b
  | .lst a, .lst b => eqDs a b
  | .tup a, .tup b => eqDs a b
  | _, _ => false
def eqDs : List D → List D → Bool
  | [], [] => true
  | x :: xs, y :: ys => eqD x y && eqDs xs ys
  | _, _ => false
end
@[simp] theorem eqD_non_non   : eqD D.non D.non = true := by simp only [eqD]
@[simp] theorem eqD_non_bl  (b : Bool) : eqD D.non (D.bl b) = false := by simp only [eqD]
@[simp] theorem eqD_non_int  (b : Int) : eqD D.non (D.int b) = false := by simp only [eqD]
@[simp] theorem eqD_non_str  (b : List Nat) : eqD D.non (D.str b) = false := by simp only [eqD]
@[simp] theorem eqD_non_lst  (b : List D) : eqD D.non (D.lst b) = false := by simp only [eqD]
@[simp] theorem eqD_non_tup  (b : List D) : eqD D.non (D.tup b) = false := by simp only [eqD]
@[simp] theorem eqD_bl_non (a : Bool)  : eqD (D.bl a) D.non = false := by simp only [eqD]
@[simp] theorem eqD_bl_bl (a : Bool) (b : Bool) : eqD (D.bl a) (D.bl b) = (a == b) := by simp only [eqD]
@[simp] theorem eqD_bl_int (a : Bool) (b : Int) : eqD (D.bl a) (D.int b) = ((if a then 1 else 0) == b) := by simp only [eqD]
@[simp] theorem eqD_bl_str (a : Bool) (b : List Nat) : eqD (D.bl a) (D.str b) = false := by simp only [eqD]
@[simp] theorem eqD_bl_lst (a : Bool) (b : List D) : eqD (D.bl a) (D.lst b) = false := by simp only [eqD]
@[simp] theorem eqD_bl_tup (a : Bool) (b : List D) : eqD (D.bl a) (D.tup b) = false := by simp only [eqD]
@[simp] theorem eqD_int_non (a : Int)  : eqD (D.int a) D.non = false := by simp only [eqD]
@[simp] theorem eqD_int_bl (a : Int) (b : Bool) : eqD (D.int a) (D.bl b) = (a == (if b then 1 else 0)) := by simp only [eqD]
@[simp] theorem eqD_int_int (a : Int) (b : Int) : eqD (D.int a) (D.int b) = (a == b) := by simp only [eqD]
@[simp] theorem eqD_int_str (a : Int) (b : List Nat) : eqD (D.int a) (D.str b) = false := by simp only [eqD]
@[simp] theorem eqD_int_lst (a : Int) (b : List D) : eqD (D.int a) (D.lst b) = false := by simp only [eqD]
@[simp] theorem eqD_int_tup (a : Int) (b : List D) : eqD (D.int a) (D.tup b) = false := by simp only [eqD]
@[simp] theorem eqD_str_non (a : List Nat)  : eqD (D.str a) D.non = false := by simp only [eqD]
@[simp] theorem eqD_str_bl (a : List Nat) (b : Bool) : eqD (D.str a) (D.bl b) = false := by simp only [eqD]
@[simp] theorem eqD_str_int (a : List Nat) (b : Int) : eqD (D.str a) (D.int b) = false := by simp only [eqD]
@[simp] theorem eqD_str_str (a : List Nat) (b : List Nat) : eqD (D.str a) (D.str b) = (a == b) := by simp only [eqD]
@[simp] theorem eqD_str_lst (a : List Nat) (b : List D) : eqD (D.str a) (D.lst b) = false := by simp only [eqD]
@[simp] theorem eqD_str_tup (a : List Nat) (b : List D) : eqD (D.str a) (D.tup b) = false := by simp only [eqD]
@[simp] theorem eqD_lst_non (a : List D)  : eqD (D.lst a) D.non = false := by simp only [eqD]
@[simp] theorem eqD_lst_bl (a : List D) (b : Bool) : eqD (D.lst a) (D.bl b) = false := by simp only [eqD]
@[simp] theorem eqD_lst_int (a : List D) (b : Int) : eqD (D.lst a) (D.int b) = false := by simp only [eqD]
@[simp] theorem eqD_lst_str (a : List D) (b : List Nat) : eqD (D.lst a) (D.str b) = false := by simp only [eqD]
@[simp] theorem eqD_lst_lst (a : List D) (b : List D) : eqD (D.lst a) (D.lst b) = eqDs a b := by simp only [eqD]
@[simp] theorem eqD_lst_tup (a : List D) (b : List D) : eqD (D.lst a) (D.tup b) = false := by simp only [eqD]
@[simp] theorem eqD_tup_non (a : List D)  : eqD (D.tup a) D.non = false := by simp only [eqD]
@[simp] theorem eqD_tup_bl (a : List D) (b : Bool) : eqD (D.tup a) (D.bl b) = false := by simp only [eqD]
@[simp] theorem eqD_tup_int (a : List D) (b : Int) : eqD (D.tup a) (D.int b) = false := by simp only [eqD]
@[simp] theorem eqD_tup_str (a : List D) (b : List Nat) : eqD (D.tup a) (D.str b) = false := by simp only [eqD]
@[simp] theorem eqD_tup_lst (a : List D) (b : List D) : eqD (D.tup a) (D.lst b) = false := by simp only [eqD]
@[simp] theorem eqD_tup_tup (a : List D) (b : List D) : eqD (D.tup a) (D.tup b) = eqDs a b := by simp only [eqD]
@[simp] theorem eqDs_nil : eqDs [] [] = true := by simp only [eqDs]
@[simp] theorem eqDs_cons (x y : D) (xs ys : List D) : eqDs (x :: xs) (y :: ys) = (eqD x y && eqDs xs ys) := by simp only [eqDs]
@[simp] theorem eqDs_nil_cons (y : D) (ys : List D) : eqDs [] (y :: ys) = false := by simp only [eqDs]
@[simp] theorem eqDs_cons_nil (y : D) (ys : List D) : eqDs (y :: ys) [] = false := by simp only [eqDs]
theorem str_beq (a b : List Nat) : ((⟨a.toArray⟩ : Str) == ⟨b.toArray⟩) = (a == b) := by
  rw [Bool.eq_iff_iff, beq_iff_eq, beq_iff_eq]
  exact ⟨fun e => by injection e with e; simpa using e, fun e => by rw [e]⟩
mutual
theorem eqv_toPy : ∀ (k l : Nat) (x y : D), plain k x = true → plain l y = true → PyData.eqv (toPy x) (toPy y) = eqD x y
  | k, l, .non, y, hx, hy => by cases y <;> simp [toPy, PyData.eqv, eqD] <;> cases l <;> simp [plain] at hy
  | k, l, .bl _, y, hx, hy => by cases y <;> simp [toPy, PyData.eqv, eqD]
  | k, l, .int _, y, hx, hy => by cases y <;> simp [toPy, PyData.eqv, eqD]
  | k, l, .str _, y, hx, hy => by cases y <;> simp [toPy, PyData.eqv, eqD, str_beq]
  | 0, _, .lst _, _, hx, _ => by simp [plain] at hx
  | 0, _, .tup _, _, hx, _ => by simp [plain] at hx
  | k + 1, l, .lst xs, y, hx, hy => by
    cases y with
    | lst ys =>
      cases l with
      | zero => simp [plain] at hy
      | succ l =>
        simp only [plain] at hx hy
        simp only [toPy, PyData.eqv, eqD]
        exact eqvAll_toPy k l xs ys hx hy
    | _ => simp [toPy, PyData.eqv, eqD]
  | k + 1, l, .tup xs, y, hx, hy => by
    cases y with
    | tup ys =>
      cases l with
      | zero => simp [plain] at hy
      | succ l =>
        simp only [plain] at hx hy
        simp only [toPy, PyData.eqv, eqD]
        exact eqvAll_toPy k l xs ys hx hy
    | _ => simp [toPy, PyData.eqv, eqD]
  | k, _, .dct _ _, _, hx, _ => by cases k <;> simp [plain] at hx
  | k, _, .dcu _ _, _, hx, _ => by cases k <;> simp [plain] at hx
  | k, _, .obj _ _, _, hx, _ => by cases k <;> simp [plain] at hx
  | k, _, .box _ _, _, hx, _ => by cases k <;> simp [plain] at hx
  | k, _, .scr _, _, hx, _ => by cases k <;> simp [plain] at hx
  | k, _, .ati _ _, _, hx, _ => by cases k <;> simp [plain] at hx
theorem eqvAll_toPy : ∀ (k l : Nat) (x y : List D), plains k x = true → plains l y = true → PyData.eqvAll (toPys x) (toPys y) = eqDs x y
  | _, _, [], [], _, _ => by simp [toPys, PyData.eqvAll, eqDs]
  | _, _, [], _ :: _, _, _ => by simp [toPys, PyData.eqvAll, eqDs]
  | _, _, _ :: _, [], _, _ => by simp [toPys, PyData.eqvAll, eqDs]
  | k, l, x :: xs, y :: ys, hx, hy => by
    rw [plains, Bool.and_eq_true] at hx hy
    simp only [toPys, PyData.eqvAll, eqDs, eqv_toPy k l x y hx.1 hy.1, eqvAll_toPy k l xs ys hx.2 hy.2]
end
section
variable {K : PySem.W.Frag} {G : Hp} {iv : IV}
mutual
theorem Rep.dp : ∀ (k : Nat) {v : V} {d : D}, Rep κ G iv v d → plain k d = true → Dp K G v (toPy d) ∧ (toPy d).canLay0 = true ∧ (toPy d).depth ≤ k
  | _, _, _, .non, _ => ⟨.non, rfl, Nat.zero_le _⟩
  | _, _, _, .bl, _ => ⟨.bl _, rfl, Nat.zero_le _⟩
  | _, _, _, .int, _ => ⟨.int _, rfl, Nat.zero_le _⟩
  | _, _, _, .str h, _ => ⟨.str _, by
      show PyData.strOk _ = true
      unfold PyData.strOk
      rw [Array.all_eq_true_iff_forall_mem]
      intro c hc
      exact decide_eq_true (h.2 c (by simpa using hc)), Nat.zero_le _⟩
  | 0, _, _, .lst h z r, q => by simp [plain] at q
  | 0, _, _, .tup h z r, q => by simp [plain] at q
  | k + 1, _, _, .lst h z r, q => by
    obtain ⟨h1, h2, h3⟩ := Reps.dp k r (by simpa [plain] using q)
    exact ⟨.lst (SqL.of h) h1, h2, Nat.succ_le_succ h3⟩
  | k + 1, _, _, .tup h z r, q => by
    obtain ⟨h1, h2, h3⟩ := Reps.dp k r (by simpa [plain] using q)
    exact ⟨.tup (SqT.of h) h1, h2, Nat.succ_le_succ h3⟩
  | k, _, _, .dctK .., q => by cases k <;> simp [plain] at q
  | k, _, _, .dctT .., q => by cases k <;> simp [plain] at q
  | k, _, _, .obj .., q => by cases k <;> simp [plain] at q
  | k, _, _, .box .., q => by cases k <;> simp [plain] at q
  | k, _, _, .scr .., q => by cases k <;> simp [plain] at q
  | k, _, _, .ati .., q => by cases k <;> simp [plain] at q
theorem Reps.dp : ∀ (k : Nat) {v : List V} {d : List D}, Reps κ G iv v d → plains k d = true → DpAll K G v (toPys d) ∧ PyData.canLayAll0 (toPys d) = true ∧ PyData.depthAll (toPys d) ≤ k
  | _, _, _, .nil, _ => ⟨.nil, rfl, Nat.zero_le _⟩
  | k, _, _, .cons r t, q => by
    simp only [plains, Bool.and_eq_true] at q
    obtain ⟨h1, h2, h3⟩ := Rep.dp k r q.1
    obtain ⟨t1, t2, t3⟩ := Reps.dp k t q.2
    exact ⟨.cons h1 t1, by simp only [toPys, PyData.canLayAll0, h2, t2]; rfl, Nat.max_le.mpr ⟨h3, t3⟩⟩
end
end
mutual
theorem Dp.mono {K : PySem.W.Frag} {G H : Hp} (h : ∀ a o, G a = some o → At H a o) : ∀ {v : V} {d : PyData}, Dp K G v d → Dp K H v d
  | _, _, .non => .non
  | _, _, .bl b => .bl b
  | _, _, .int b => .int b
  | _, _, .str b => .str b
  | _, _, .lst q r => .lst (by
      rcases q with (q | ⟨o, q⟩) | q
      · exact .inl (.inl ((h _ _ q).x rfl))
      · exact .inl (.inr ⟨o, (h _ _ q).x rfl⟩)
      · exact .inr q) (DpAll.mono h r)
  | _, _, .tup q r => .tup (by
      rcases q with (q | ⟨o, q⟩) | q
      · exact .inl (.inl ((h _ _ q).x rfl))
      · exact .inl (.inr ⟨o, (h _ _ q).x rfl⟩)
      · exact .inr q) (DpAll.mono h r)
theorem DpAll.mono {K : PySem.W.Frag} {G H : Hp} (h : ∀ a o, G a = some o → At H a o) : ∀ {v : List V} {d : List PyData}, DpAll K G v d → DpAll K H v d
  | _, _, .nil => .nil
  | _, _, .cons r t => .cons (Dp.mono h r) (DpAll.mono h t)
end
@[simp] def gEq (x y : D) (n : Nat) (Q : D → Nat → Prop) : Prop := (plain 64 x = true ∧ plain 64 y = true) ∧ Q (.bl (eqD x y)) n
@[simp] def gNe (x y : D) (n : Nat) (Q : D → Nat → Prop) : Prop := (plain 64 x = true ∧ plain 64 y = true) ∧ Q (.bl (!eqD x y)) n
theorem shaped_of {d : PyData} (h1 : d.canLay0 = true) (h2 : d.depth ≤ 64) : SeqAt.shaped d = true := by
  unfold SeqAt.shaped
  rw [h1, decide_eq_true h2]; rfl
theorem cr_eq (hu : X.A.units + 64 < cLine)  : CR κ X .Eq gEq := by
  refine ⟨_, ?_, (op_eqD hu)⟩
  intro P G H x y dx dy Q R g rx ry hf hR
  obtain ⟨x1, x2, x3⟩ := Rep.dp (K := X.K) 64 rx hf.1.1
  obtain ⟨y1, y2, y3⟩ := Rep.dp (K := X.K) 64 ry hf.1.2
  refine ⟨_, _, Dp.mono g.gh x1, Dp.mono g.gh y1, shaped_of x2 x3, shaped_of y2 y3, ?_⟩
  rw [eqv_toPy 64 64 dx dy hf.1.1 hf.1.2]
  exact hR _ P G H _ .refl g .bl hf.2
theorem cr_ne (hu : X.A.units + 64 < cLine)  : CR κ X .NotEq gNe := by
  refine ⟨_, ?_, (op_neD hu)⟩
  intro P G H x y dx dy Q R g rx ry hf hR
  obtain ⟨x1, x2, x3⟩ := Rep.dp (K := X.K) 64 rx hf.1.1
  obtain ⟨y1, y2, y3⟩ := Rep.dp (K := X.K) 64 ry hf.1.2
  refine ⟨_, _, Dp.mono g.gh x1, Dp.mono g.gh y1, shaped_of x2 x3, shaped_of y2 y3, ?_⟩
  rw [eqv_toPy 64 64 dx dy hf.1.1 hf.1.2]
  exact hR _ P G H _ .refl g .bl hf.2
end
end DL
namespace DL
open PySem PySem.Spec PyProof.Rows L2
section
variable {κ : Kit} {X : Cx} {a b c e : Expr} {es : List Expr} {fa fb fc f : FE} {far : FA} {pos : Pos}
def gLt (x y : D) (n : Nat) (Q : D → Nat → Prop) : Prop := match x, y with
  | .int i, .int j => Q (.bl (decide (i < j))) n
  | .str s, .str t => Q (.bl (decide (s < t))) n
  | _, _ => False
def gLe (x y : D) (n : Nat) (Q : D → Nat → Prop) : Prop := match x, y with
  | .int i, .int j => Q (.bl (decide (i ≤ j))) n
  | .str s, .str t => Q (.bl (!decide (t < s))) n
  | _, _ => False
@[simp] def gGt (x y : D) (n : Nat) (Q : D → Nat → Prop) : Prop := gLt y x n Q
@[simp] def gGe (x y : D) (n : Nat) (Q : D → Nat → Prop) : Prop := gLe y x n Q
abbrev rLtA : R2 := fun x y H Q => (rI0 fun i j => .bl (decide (i < j))) x y H Q ∨ (∃ i j, x = .str i ∧ y = .str j ∧ Q (.bl (decide (i.cps.toList < j.cps.toList))) H)
abbrev rLeA : R2 := fun x y H Q => (rI0 fun i j => .bl (decide (i ≤ j))) x y H Q ∨ (∃ i j, x = .str i ∧ y = .str j ∧ Q (.bl (!decide (j.cps.toList < i.cps.toList))) H)
abbrev rGtA : R2 := fun x y H Q => (rI0 fun i j => .bl (decide (j < i))) x y H Q ∨ (∃ i j, x = .str i ∧ y = .str j ∧ Q (.bl (decide (j.cps.toList < i.cps.toList))) H)
abbrev rGeA : R2 := fun x y H Q => (rI0 fun i j => .bl (decide (j ≤ i))) x y H Q ∨ (∃ i j, x = .str i ∧ y = .str j ∧ Q (.bl (!decide (i.cps.toList < j.cps.toList))) H)
theorem cpsL (s : List Nat) : (⟨s.toArray⟩ : Str).cps.toList = s := by simp
theorem lift_lt : LiftR κ rLtA gLt := by
  intro P G H x y dx dy Q R g rx ry hf hR
  cases rx <;> cases ry <;> try (exact False.elim hf)
  · exact .inl ⟨_, _, rfl, rfl, hR _ P G H _ .refl g .bl hf⟩
  · exact .inr ⟨_, _, rfl, rfl, by rw [cpsL, cpsL]; exact hR _ P G H _ .refl g .bl hf⟩
theorem lift_le : LiftR κ rLeA gLe := by
  intro P G H x y dx dy Q R g rx ry hf hR
  cases rx <;> cases ry <;> try (exact False.elim hf)
  · exact .inl ⟨_, _, rfl, rfl, hR _ P G H _ .refl g .bl hf⟩
  · exact .inr ⟨_, _, rfl, rfl, by rw [cpsL, cpsL]; exact hR _ P G H _ .refl g .bl hf⟩
theorem lift_gt : LiftR κ rGtA gGt := by
  intro P G H x y dx dy Q R g rx ry hf hR
  cases rx <;> cases ry <;> try (exact False.elim hf)
  · exact .inl ⟨_, _, rfl, rfl, hR _ P G H _ .refl g .bl hf⟩
  · exact .inr ⟨_, _, rfl, rfl, by rw [cpsL, cpsL]; exact hR _ P G H _ .refl g .bl hf⟩
theorem lift_ge : LiftR κ rGeA gGe := by
  intro P G H x y dx dy Q R g rx ry hf hR
  cases rx <;> cases ry <;> try (exact False.elim hf)
  · exact .inl ⟨_, _, rfl, rfl, hR _ P G H _ .refl g .bl hf⟩
  · exact .inr ⟨_, _, rfl, rfl, by rw [cpsL, cpsL]; exact hR _ P G H _ .refl g .bl hf⟩
theorem op_ltA : OpR X (compareOp .Lt) rLtA := OpR.or op_lt op_lt_str
theorem op_leA : OpR X (compareOp .LtE) rLeA := OpR.or op_le op_le_str
theorem op_gtA : OpR X (compareOp .Gt) rGtA := OpR.or op_gt op_gt_str
theorem op_geA : OpR X (compareOp .GtE) rGeA := OpR.or op_ge op_ge_str
theorem cr_lt : CR κ X .Lt gLt := ⟨_, lift_lt, op_ltA⟩
theorem cr_le : CR κ X .LtE gLe := ⟨_, lift_le, op_leA⟩
theorem cr_gt : CR κ X .Gt gGt := ⟨_, lift_gt, op_gtA⟩
theorem cr_ge : CR κ X .GtE gGe := ⟨_, lift_ge, op_geA⟩
/-- a op b op' c -/
@[simp] def fChain (g g' : D → D → Nat → (D → Nat → Prop) → Prop) (fa fb fc : FE) : FE := fun env n Q => fa env n fun x n1 => fb env n1 fun y n2 => g x y n2 fun z n3 => gB z n3 fun k n3 => (if k = true then fc env n3 fun w n4 => g' y w n4 Q else Q (.bl false) n3)
theorem rep_bl {G : Hp} {iv : IV} {v : V} {k : Bool} (r : Rep κ G iv v (.bl k)) : v = .bl k := by cases r; rfl
theorem chain_lift {r r' : R2} {φ φ' : D → D → Nat → (D → Nat → Prop) → Prop} {ta tb tc : TE} (hl : LiftR κ r φ) (hl' : LiftR κ r' φ') (qa : RdE κ fa ta) (qb : RdE κ fb tb) (qc : RdE κ fc tc) : RdE κ (fChain φ φ' fa fb fc) (tChain r r' ta tb tc) := fun P G H σ env Q R g ev hf hR => by
  refine qa P G H σ env _ _ g ev hf fun x P1 G1 H1 dx gr1 g1 rx hf1 => qb P1 G1 H1 σ env _ _ g1 (ev.grow gr1) hf1 fun y P2 G2 H2 dy gr2 g2 ry hf2 => ?_
  refine hl P2 G2 H2 x y dx dy _ (fun z H3 => ∃ k, z = .bl k ∧ (if k = true then tc σ H3 fun w' H4 => r' y w' H4 R else R (.bl false) H3)) g2 (gr2.rep rx) ry hf2 ?_
  intro z P3 G3 H3 dz gr3 g3 rz hf3
  obtain ⟨k, ek, hf4⟩ := hf3
  subst ek
  refine ⟨k, rep_bl rz, ?_⟩
  cases k with
  | false => exact hR _ P3 G3 H3 _ ((gr1.trans gr2).trans gr3) g3 .bl hf4
  | true => exact qc P3 G3 H3 σ env _ _ g3 (((ev.grow gr1).grow gr2).grow gr3) hf4 fun w P4 G4 H4 dw gr4 g4 rw' hf5 => hl' P4 G4 H4 y w dy dw Q R g4 (gr4.rep (gr3.rep ry)) rw' hf5 (Lk.grow (((gr1.trans gr2).trans gr3).trans gr4) hR)
theorem e_chain {op op' : CmpOp} {φ φ' : D → D → Nat → (D → Nat → Prop) → Prop} (h1 : CR κ X op φ) (h2 : CR κ X op' φ') (ha : DE κ X a fa) (hb : DE κ X b fb) (hc : DE κ X c fc)
    (hm : lastMarks [op, op'] [b, c] = false := by with_unfolding_all rfl) : DE κ X (.Compare a [op, op'] [b, c] pos) (fChain φ φ' fa fb fc) := by
  obtain ⟨r, hl, ho⟩ := h1
  obtain ⟨r', hl', ho'⟩ := h2
  obtain ⟨ta, pa, qa⟩ := ha
  obtain ⟨tb, pb, qb⟩ := hb
  obtain ⟨tc, pc, qc⟩ := hc
  exact ⟨_, pe_chain ho ho' pa pb pc hm, chain_lift hl hl' qa qb qc⟩
theorem t_chain {op op' : CmpOp} {φ φ' : D → D → Nat → (D → Nat → Prop) → Prop} (h1 : CR κ X op φ) (h2 : CR κ X op' φ') (ha : DE κ X a fa) (hb : DE κ X b fb) (hc : DE κ X c fc)
    (hm : lastMarks [op, op'] [b, c] = false := by with_unfolding_all rfl) : DT κ X (.Compare a [op, op'] [b, c] pos) (tVal (fChain φ φ' fa fb fc)) := by
  obtain ⟨r, hl, ho⟩ := h1
  obtain ⟨r', hl', ho'⟩ := h2
  obtain ⟨ta, pa, qa⟩ := ha
  obtain ⟨tb, pb, qb⟩ := hb
  obtain ⟨tc, pc, qc⟩ := hc
  refine ⟨_, pt_chain ho ho' pa pb pc hm, fun P G H σ env Q R g ev hf hR => chain_lift hl hl' qa qb qc P G H σ env _ _ g ev hf fun v P' G' H' d gr g' rv hq => ?_⟩
  obtain ⟨b, e, hq⟩ := hq
  subst e
  exact ⟨b, rep_bl rv, hR b P' G' H' gr g' hq⟩
@[simp] def gIsN (x y : D) (n : Nat) (Q : D → Nat → Prop) : Prop := y = .non ∧ Q (.bl (decide (x = .non))) n
@[simp] def gNotN (x y : D) (n : Nat) (Q : D → Nat → Prop) : Prop := y = .non ∧ Q (.bl (!decide (x = .non))) n
theorem rep_non {G : Hp} {iv : IV} {v : V} {d : D} (r : Rep κ G iv v d) : decide (v = .non) = decide (d = .non) := by cases r <;> rfl
theorem cr_isN  : CR κ X .Is gIsN := by
  refine ⟨_, ?_, op_isN⟩
  intro P G H x y dx dy Q R g rx ry hf hR
  obtain ⟨e, hf⟩ := hf
  subst e
  cases ry
  exact ⟨rfl, by rw [rep_non rx]; exact hR _ P G H _ .refl g .bl hf⟩
def flatD : D → Bool
  | .non => true | .bl _ => true | .int _ => true | .str _ => true | _ => false
@[simp] theorem flatD_non : flatD .non = true := rfl
@[simp] theorem flatD_bl (b : Bool) : flatD (.bl b) = true := rfl
@[simp] theorem flatD_int (i : Int) : flatD (.int i) = true := rfl
@[simp] theorem flatD_str (s : List Nat) : flatD (.str s) = true := rfl
@[simp] theorem flatD_lst (s : List D) : flatD (.lst s) = false := rfl
@[simp] theorem flatD_tup (s : List D) : flatD (.tup s) = false := rfl
@[simp] def isKeyD : D → Bool
  | .int _ => true | .str _ => true | _ => false
@[simp] def dGet : List D → List D → D → Option D
  | k :: ks, v :: vs, x => if k = x then some v else dGet ks vs x
  | _, _, _ => none
theorem keyD_inj {k l : Key} (h : keyD k = keyD l) : k = l := by
  cases k with
  | inl i => cases l with
    | inl j => simp [keyD] at h; rw [h]
    | inr y => simp [keyD] at h
  | inr x => cases l with
    | inl j => simp [keyD] at h
    | inr y =>
      simp only [keyD, D.str.injEq] at h
      have : x = y := by cases x; cases y; congr; exact Array.toList_inj.mp h
      rw [this]
theorem keyDs_inj : ∀ {k l : List Key}, k.map keyD = l.map keyD → k = l
  | [], [], _ => rfl
  | [], _ :: _, h => by simp at h
  | _ :: _, [], h => by simp at h
  | a :: k, b :: l, h => by
    simp only [List.map_cons, List.cons.injEq] at h
    rw [keyD_inj h.1, keyDs_inj h.2]
theorem valV_get {κ' : Type} [DecidableEq κ'] (κ : Kit) {f : κ' → D} (inj : ∀ {x y}, f x = f y → x = y) {G : Hp} {iv : IV} : ∀ {ks : List κ'} {us : List V} {vs : List D} {k : κ'}, ks.length = us.length → Reps κ G iv us vs →
    (∀ d, dGet (ks.map f) vs (f k) = some d → ∃ v, valV (ks.zip us) k = some v ∧ Rep κ G iv v d) ∧ (dGet (ks.map f) vs (f k) = none → valV (ks.zip us) k = none)
  | [], us, vs, k, _, _ => ⟨fun d h => by simp [dGet] at h, fun _ => rfl⟩
  | k0 :: ks, [], vs, k, hl, r => by simp at hl
  | k0 :: ks, u :: us, _, k, hl, .cons (d := d0) (ds := ds) r t => by
    have ih := valV_get κ inj (ks := ks) (us := us) (k := k) (by simpa using hl) t
    by_cases h : k0 = k
    · subst h
      refine ⟨fun d hd => ?_, fun hd => ?_⟩
      · simp only [List.map_cons, dGet, if_true, Option.some.injEq] at hd
        subst hd
        exact ⟨u, by simp [valV], r⟩
      · simp [dGet] at hd
    · have h' : ¬ f k0 = f k := fun e => h (inj e)
      simp only [List.map_cons, dGet, if_neg h']
      have e : valV ((k0 :: ks).zip (u :: us)) k = valV (ks.zip us) k := by simp [valV, h]
      rw [e]
      exact ih
theorem rep_key {G : Hp} {iv : IV} {v : V} {d : D} (r : Rep κ G iv v d) (h : isKeyD d = true) : ∃ k, v = kV k ∧ d = keyD k := by
  cases r <;> try (simp [isKeyD] at h)
  · exact ⟨.inl _, rfl, rfl⟩
  · rename_i s hs
    exact ⟨.inr ⟨s.toArray⟩, rfl, by simp [keyD]⟩
theorem reps_key {G : Hp} {iv : IV} : ∀ {v : List V} {d : List D}, Reps κ G iv v d → d.all isKeyD = true → ∃ k : List Key, v = k.map kV ∧ d = k.map keyD
  | _, _, .nil, _ => ⟨[], rfl, rfl⟩
  | _, _, .cons r t, h => by
    simp only [List.all_cons, Bool.and_eq_true] at h
    obtain ⟨k, e1, e2⟩ := rep_key r h.1
    obtain ⟨ks, e3, e4⟩ := reps_key t h.2
    exact ⟨k :: ks, by rw [e1, e3]; rfl, by rw [e2, e4]; rfl⟩
/-- a key of a dict that has keys of its kind -/
@[simp] def dKind : D → D → Bool
  | .dct _ _, k => isKeyD k
  | .dcu _ _, .tup xs => xs.all isKeyD
  | _, _ => false
def dLook : D → D → Option D
  | .dct ks vs, k => dGet ks vs k
  | .dcu ks vs, k => dGet ks vs k
  | _, _ => none
theorem rep_dget {G H : Hp} {iv : IV} {a : V} {dd : D} {y : V} {k : D} (hgh : ∀ a o, G a = some o → At H a o) (r : Rep κ G iv a dd) (ry : Rep κ G iv y k) (hk : dKind dd k = true) :
    ∃ p, a = .ref p ∧ ((∀ d, dLook dd k = some d → ∃ v, DGet H p y (some v) ∧ Rep κ G iv v d) ∧ (dLook dd k = none → DGet H p y none)) := by
  cases r with
  | @dctK p kk us _ h hl z nd r =>
    refine ⟨p, rfl, ?_⟩
    obtain ⟨k1, e1, e2⟩ := rep_key ry hk
    subst e1 e2
    have q := valV_get κ (f := keyD) keyD_inj (k := k1) hl r
    exact ⟨fun d hd => by
      obtain ⟨v, h1, h2⟩ := q.1 d hd
      exact ⟨v, .inl ⟨_, k1, (hgh _ _ h).rd, rfl, h1.symm⟩, h2⟩, fun hd => .inl ⟨_, k1, (hgh _ _ h).rd, rfl, (q.2 hd).symm⟩⟩
  | @dctT p kk us _ h hl z nd r =>
    refine ⟨p, rfl, ?_⟩
    cases ry with
    | tup hy zy ry' =>
      obtain ⟨k1, e1, e2⟩ := reps_key ry' hk
      subst e1 e2
      have q := valV_get κ (f := fun k : List Key => D.tup (k.map keyD)) (fun h => keyDs_inj (by simpa using h)) (k := k1) hl r
      exact ⟨fun d hd => by
        obtain ⟨v, h1, h2⟩ := q.1 d hd
        exact ⟨v, .inr ⟨_, k1, _, (hgh _ _ h).rd, rfl, (hgh _ _ hy).x rfl, h1.symm⟩, h2⟩, fun hd => .inr ⟨_, k1, _, (hgh _ _ h).rd, rfl, (hgh _ _ hy).x rfl, (q.2 hd).symm⟩⟩
    | _ => exact absurd hk (by simp [dKind])
  | _ => exact absurd hk (by simp [dKind])
/-- x in y: a list or tuple of flat things, a sign in a text, a key of a dict -/
def gIn (x y : D) (n : Nat) (Q : D → Nat → Prop) : Prop := match y with
  | .lst ys => (flatD x = true ∧ ys.all flatD = true) ∧ Q (.bl (ys.any fun y => eqD y x)) n
  | .tup ys => (flatD x = true ∧ ys.all flatD = true) ∧ Q (.bl (ys.any fun y => eqD y x)) n
  | .str t => ∃ c, x = .str [c] ∧ Q (.bl (decide (c ∈ t))) n
  | .dct ks vs => isKeyD x = true ∧ Q (.bl (dGet ks vs x).isSome) n
  | .dcu ks vs => dKind (.dcu ks vs) x = true ∧ Q (.bl (dGet ks vs x).isSome) n
  | _ => False
@[simp] def gNotIn (x y : D) (n : Nat) (Q : D → Nat → Prop) : Prop := gIn x y n fun d m => gB d m fun b m => Q (.bl (!b)) m
theorem flatV_of {G : Hp} {iv : IV} {v : V} {d : D} (r : Rep κ G iv v d) (h : flatD d = true) : flatV v = true := by
  cases r <;> first | rfl | (simp [flatD] at h)
theorem flatVs_of {G : Hp} {iv : IV} : ∀ {v : List V} {d : List D}, Reps κ G iv v d → d.all flatD = true → v.all flatV = true
  | _, _, .nil, _ => rfl
  | _, _, .cons r t, h => by
    simp only [List.all_cons, Bool.and_eq_true] at h ⊢
    exact ⟨flatV_of r h.1, flatVs_of t h.2⟩
theorem eqV_of {G : Hp} {iv : IV} {v u : V} {d e : D} (r : Rep κ G iv v d) (q : Rep κ G iv u e) (h : flatD d = true) (k : flatD e = true) : eqV v u = eqD d e := by
  cases r <;> (try (simp [flatD] at h; done)) <;> cases q <;> (try (simp [flatD] at k; done)) <;> simp [eqV, eqD, str_beq]
theorem inV_of {G : Hp} {iv : IV} {v : V} {d : D} (r : Rep κ G iv v d) (h : flatD d = true) : ∀ {us : List V} {es : List D}, Reps κ G iv us es → es.all flatD = true → inV v us = es.any fun y => eqD y d
  | _, _, .nil, _ => rfl
  | _, _, .cons q t, k => by
    simp only [List.all_cons, Bool.and_eq_true] at k
    have ih := inV_of r h t k.2
    unfold inV at ih ⊢
    rw [List.any_cons, List.any_cons, eqV_of q r k.1 h, ih]
abbrev rInD : R2 := fun y x H Q => ∃ a o, x = .ref a ∧ DGet H a y o ∧ Q (.bl o.isSome) H
abbrev rNotInD : R2 := fun y x H Q => ∃ a o, x = .ref a ∧ DGet H a y o ∧ Q (.bl (!o.isSome)) H
theorem op_inD (hu : X.A.units + 1 < cLine) : OpR X (compareOp .In) rInD := by
  intro pins s σ H x y v u Q I rx ry h
  obtain ⟨a, o, rfl, g, q⟩ := h
  obtain rfl : u = Value.ref a := ry
  exact d_in hu I g rx fun s' I' => ⟨.bl o.isSome, H, I', rfl, q⟩
theorem op_notInD (hu : X.A.units + 1 < cLine) : OpR X (compareOp .NotIn) rNotInD := by
  intro pins s σ H x y v u Q I rx ry h
  obtain ⟨a, o, rfl, g, q⟩ := h
  obtain rfl : u = Value.ref a := ry
  exact d_notIn hu I g rx fun s' I' => ⟨.bl (!o.isSome), H, I', rfl, q⟩
theorem cr_in (hu : X.A.units + 1 < cLine)  : CR κ X .In gIn := by
  refine ⟨fun x y H Q => rIn X.K false x y H Q ∨ ((∃ (c : Nat) (z : Str), x = .str ⟨#[c]⟩ ∧ y = .str z ∧ Q (.bl (decide (c ∈ z.cps.toList))) H) ∨ rInD x y H Q), ?_, (OpR.or op_in_seq (OpR.or op_in_sign (op_inD hu)))⟩
  intro P G H x y dx dy Q R g rx ry hf hR
  cases ry <;> try (exact False.elim hf)
  · obtain ⟨c, e, hf⟩ := hf
    subst e
    cases rx
    exact .inr (.inl ⟨c, _, rfl, rfl, by rw [cpsL]; exact hR _ P G H _ .refl g .bl hf⟩)
  · rename_i p us ys h z r
    refine .inl ⟨p, us, rfl, .inl (SqL.of (g.gx h rfl)), flatV_of rx hf.1.1, flatVs_of r hf.1.2, ?_⟩
    rw [show (if false = true then !inV x us else inV x us) = inV x us from rfl, inV_of rx hf.1.1 r hf.1.2]
    exact hR _ P G H _ .refl g .bl hf.2
  · rename_i p us ys h z r
    refine .inl ⟨p, us, rfl, .inr (SqT.of (g.gx h rfl)), flatV_of rx hf.1.1, flatVs_of r hf.1.2, ?_⟩
    rw [show (if false = true then !inV x us else inV x us) = inV x us from rfl, inV_of rx hf.1.1 r hf.1.2]
    exact hR _ P G H _ .refl g .bl hf.2
  · rename_i p kk us vs h hl z nd r
    have q := rep_dget g.gh (Rep.dctK h hl z nd r) rx hf.1
    obtain ⟨p', e, q1, q2⟩ := q
    cases e
    refine .inr (.inr ?_)
    cases e : dGet (kk.map keyD) vs dx with
    | none =>
      have hf2 := hf.2
      rw [e] at hf2
      exact ⟨p, none, rfl, q2 e, hR _ P G H _ .refl g .bl hf2⟩
    | some d =>
      obtain ⟨v, w1, w2⟩ := q1 d e
      have hf2 := hf.2
      rw [e] at hf2
      exact ⟨p, some v, rfl, w1, hR _ P G H _ .refl g .bl hf2⟩
  · rename_i p kk us vs h hl z nd r
    have q := rep_dget g.gh (Rep.dctT h hl z nd r) rx hf.1
    obtain ⟨p', e, q1, q2⟩ := q
    cases e
    refine .inr (.inr ?_)
    cases e : dGet (kk.map fun k => .tup (k.map keyD)) vs dx with
    | none =>
      have hf2 := hf.2
      rw [e] at hf2
      exact ⟨p, none, rfl, q2 e, hR _ P G H _ .refl g .bl hf2⟩
    | some d =>
      obtain ⟨v, w1, w2⟩ := q1 d e
      have hf2 := hf.2
      rw [e] at hf2
      exact ⟨p, some v, rfl, w1, hR _ P G H _ .refl g .bl hf2⟩
theorem cr_notIn (hu : X.A.units + 1 < cLine)  : CR κ X .NotIn gNotIn := by
  refine ⟨fun x y H Q => rIn X.K true x y H Q ∨ ((∃ (c : Nat) (z : Str), x = .str ⟨#[c]⟩ ∧ y = .str z ∧ Q (.bl (!decide (c ∈ z.cps.toList))) H) ∨ rNotInD x y H Q), ?_, (OpR.or op_notIn_seq (OpR.or op_notIn_sign (op_notInD hu)))⟩
  intro P G H x y dx dy Q R g rx ry hf hR
  cases ry <;> try (exact False.elim hf)
  · obtain ⟨c, e, b, eb, hf⟩ := hf
    subst e
    cases eb
    cases rx
    exact .inr (.inl ⟨c, _, rfl, rfl, by rw [cpsL]; exact hR _ P G H _ .refl g .bl hf⟩)
  · rename_i p us ys h z r
    obtain ⟨hf1, b, eb, hf⟩ := hf
    cases eb
    refine .inl ⟨p, us, rfl, .inl (SqL.of (g.gx h rfl)), flatV_of rx hf1.1, flatVs_of r hf1.2, ?_⟩
    rw [show (if true = true then !inV x us else inV x us) = !inV x us from rfl, inV_of rx hf1.1 r hf1.2]
    exact hR _ P G H _ .refl g .bl hf
  · rename_i p us ys h z r
    obtain ⟨hf1, b, eb, hf⟩ := hf
    cases eb
    refine .inl ⟨p, us, rfl, .inr (SqT.of (g.gx h rfl)), flatV_of rx hf1.1, flatVs_of r hf1.2, ?_⟩
    rw [show (if true = true then !inV x us else inV x us) = !inV x us from rfl, inV_of rx hf1.1 r hf1.2]
    exact hR _ P G H _ .refl g .bl hf
  · rename_i p kk us vs h hl z nd r
    obtain ⟨hf1, b, eb, hf⟩ := hf
    cases eb
    have q := rep_dget g.gh (Rep.dctK h hl z nd r) rx hf1
    obtain ⟨p', e, q1, q2⟩ := q
    cases e
    refine .inr (.inr ?_)
    cases e : dGet (kk.map keyD) vs dx with
    | none =>
      rw [e] at hf
      exact ⟨p, none, rfl, q2 e, hR _ P G H _ .refl g .bl hf⟩
    | some d =>
      obtain ⟨v, w1, w2⟩ := q1 d e
      rw [e] at hf
      exact ⟨p, some v, rfl, w1, hR _ P G H _ .refl g .bl hf⟩
  · rename_i p kk us vs h hl z nd r
    obtain ⟨hf1, b, eb, hf⟩ := hf
    cases eb
    have q := rep_dget g.gh (Rep.dctT h hl z nd r) rx hf1
    obtain ⟨p', e, q1, q2⟩ := q
    cases e
    refine .inr (.inr ?_)
    cases e : dGet (kk.map fun k => .tup (k.map keyD)) vs dx with
    | none =>
      rw [e] at hf
      exact ⟨p, none, rfl, q2 e, hR _ P G H _ .refl g .bl hf⟩
    | some d =>
      obtain ⟨v, w1, w2⟩ := q1 d e
      rw [e] at hf
      exact ⟨p, some v, rfl, w1, hR _ P G H _ .refl g .bl hf⟩
end
end DL
namespace DL
open PySem PySem.Spec PyProof.Rows L2
section
variable {κ : Kit} {X : Cx} {a b c e : Expr} {es : List Expr} {fa fb fc f : FE} {far : FA} {pos : Pos} {t1 t2 : FT}
theorem dt_val (h : DE κ X e f) (he : ∀ whole, isTrue e X.env whole = (do let v ← whole; standAt e.pos; holding [v] (truthy v)) := by intro _; rfl) : DT κ X e (tVal f) := by
  obtain ⟨t, p, q⟩ := h
  refine ⟨_, pt_val p he, fun P G H σ env Q R g ev hf hR => q P G H σ env _ _ g ev hf fun v P' G' H' d gr g' r hq => ?_⟩
  obtain ⟨b, e, hq⟩ := hq
  subst e
  exact ⟨b, rep_bl r, hR b P' G' H' gr g' hq⟩
@[simp] def truD : D → Option Bool
  | .non => some false
  | .bl b => some b
  | .int i => some (i != 0)
  | .str s => some (!s.isEmpty)
  | .lst xs => some (!xs.isEmpty)
  | .tup xs => some (!xs.isEmpty)
  | _ => none
/-- its truth -/
def gTr (d : D) (m : Nat) (Q : Bool → Nat → Prop) : Prop := ∃ b, truD d = some b ∧ Q b m
theorem gTr_of {d : D} {b : Bool} {m : Nat} {Q : Bool → Nat → Prop} (e : truD d = some b) : gTr d m Q = Q b m := by
  refine propext ⟨?_, fun h => ⟨b, e, h⟩⟩
  rintro ⟨c, e', h⟩
  rw [e] at e'; cases e'
  exact h
@[simp] theorem gTr_non {m : Nat} {Q : Bool → Nat → Prop} : gTr .non m Q = Q false m := gTr_of rfl
@[simp] theorem gTr_bl {b : Bool} {m : Nat} {Q : Bool → Nat → Prop} : gTr (.bl b) m Q = Q b m := gTr_of rfl
@[simp] theorem gTr_int {i : Int} {m : Nat} {Q : Bool → Nat → Prop} : gTr (.int i) m Q = Q (i != 0) m := gTr_of rfl
@[simp] theorem gTr_str {s : List Nat} {m : Nat} {Q : Bool → Nat → Prop} : gTr (.str s) m Q = Q (!s.isEmpty) m := gTr_of rfl
@[simp] theorem gTr_lst {s : List D} {m : Nat} {Q : Bool → Nat → Prop} : gTr (.lst s) m Q = Q (!s.isEmpty) m := gTr_of rfl
@[simp] theorem gTr_tup {s : List D} {m : Nat} {Q : Bool → Nat → Prop} : gTr (.tup s) m Q = Q (!s.isEmpty) m := gTr_of rfl
@[simp] def tTru (f : FE) : FT := fun env n Q => f env n fun d m => gTr d m Q
theorem emp_of {G : Hp} {iv : IV} {vs : List V} {ds : List D} (r : Reps κ G iv vs ds) : vs.isEmpty = ds.isEmpty := by cases r <;> rfl
theorem rep_tru {K : PySem.W.Frag} {G H : Hp} {iv : IV} {v : V} {d : D} {b : Bool} (hgh : ∀ a o, G a = some o → At H a o) (r : Rep κ G iv v d) (h : truD d = some b) : TruV K v H b := by
  cases r <;> simp only [truD, Option.some.injEq, reduceCtorEq] at h
  · exact h.symm
  · exact h.symm
  · exact h.symm
  · rename_i s hs
    refine ⟨by rw [str_len]; exact hs.1, ?_⟩
    rw [str_len, ← h]
    cases s with
    | nil => rfl
    | cons c s => show true = (((c :: s).length : Int) != 0); rw [eq_comm, bne_iff_ne]; simp only [List.length_cons]; omega
  · rename_i p us ys h1 z r
    exact .inl ⟨us, SqL.of ((hgh _ _ h1).x rfl), by rw [emp_of r]; exact h.symm⟩
  · rename_i p us ys h1 z r
    exact .inr (.inl ⟨us, SqT.of ((hgh _ _ h1).x rfl), by rw [emp_of r]; exact h.symm⟩)
theorem dt_tru (h : DE κ X e f) (he : ∀ whole, isTrue e X.env whole = (do let v ← whole; standAt e.pos; holding [v] (truthy v)) := by intro _; rfl) : DT κ X e (tTru f) := by
  obtain ⟨t, p, q⟩ := h
  refine ⟨_, pt_truth p he, fun P G H σ env Q R g ev hf hR => q P G H σ env _ _ g ev hf fun v P' G' H' d gr g' r hq => ?_⟩
  obtain ⟨b, e, hq⟩ := hq
  exact ⟨b, rep_tru g'.gh r e, hR b P' G' H' gr g' hq⟩
/-- and, or as tests -/
def DW (κ : Kit) (X : Cx) (e : Expr) (f : FT) : Prop := ∃ t, PW X e t ∧ RdT κ f t
theorem DW.dt (h : DW κ X e t1) : DT κ X e t1 := by
  obtain ⟨t, p, q⟩ := h
  exact ⟨t, p.pt, q⟩
@[simp] def tAndD (a b : FT) : FT := fun env n Q => a env n fun c m => if c = true then b env m Q else Q false m
@[simp] def tOrD (a b : FT) : FT := fun env n Q => a env n fun c m => if c = true then Q true m else b env m Q
@[simp] def tNotD (a : FT) : FT := fun env n Q => a env n fun c m => Q (!c) m
theorem dw_or1 (h : DT κ X a t1) : DW κ X (.BoolOp .Or [a] pos) t1 := by
  obtain ⟨t, p, q⟩ := h
  exact ⟨t, pw_or1 p, q⟩
theorem LkT.grow {P P1 : Wd} {G H G1 H1 : Hp} {Q : Bool → Nat → Prop} {R : Bool → Hp → Prop} (gr : Grow P G H P1 G1 H1) (h : LkT κ P G H Q R) : LkT κ P1 G1 H1 Q R := fun b P' G' H' gr' g' q => h b P' G' H' (gr.trans gr') g' q
theorem dw_or (h1 : DT κ X a t1) (h2 : DW κ X (.BoolOp .Or (b :: es) pos) t2) : DW κ X (.BoolOp .Or (a :: b :: es) pos) (tOrD t1 t2) := by
  obtain ⟨u1, p1, q1⟩ := h1
  obtain ⟨u2, p2, q2⟩ := h2
  refine ⟨_, pw_or p1 p2, fun P G H σ env Q R g ev hf hR => q1 P G H σ env _ _ g ev hf fun c P' G' H' gr g' hq => ?_⟩
  cases c with
  | false => exact q2 P' G' H' σ env _ _ g' (ev.grow gr) hq (hR.grow gr)
  | true => exact hR true P' G' H' gr g' hq
theorem dt_not (h1 : DT κ X a t1) : DT κ X (.UnaryOp .Not a pos) (tNotD t1) := by
  obtain ⟨u1, p1, q1⟩ := h1
  exact ⟨_, pt_not p1, fun P G H σ env Q R g ev hf hR => q1 P G H σ env _ _ g ev hf fun c P' G' H' gr g' hq => hR (!c) P' G' H' gr g' hq⟩
/-- and, or, not as values, all but the last True or False -/
@[simp] def fAnd (fa fb : FE) : FE := fun env n Q => fa env n fun x m => gB x m fun c m => if c = true then fb env m Q else Q (.bl false) m
@[simp] def fOr (fa fb : FE) : FE := fun env n Q => fa env n fun x m => gB x m fun c m => if c = true then Q (.bl true) m else fb env m Q
@[simp] def fNot (fa : FE) : FE := fun env n Q => fa env n fun x m => gB x m fun c m => Q (.bl (!c)) m
theorem de_one {op} (h : DE κ X a f) : DE κ X (.BoolOp op [a] pos) f := by
  obtain ⟨t, p, q⟩ := h
  exact ⟨t, pe_one p, q⟩
theorem de_and (ha : DE κ X a fa) (hb : DE κ X (.BoolOp .And (b :: es) pos) fb) : DE κ X (.BoolOp .And (a :: b :: es) pos) (fAnd fa fb) := by
  obtain ⟨u1, p1, q1⟩ := ha
  obtain ⟨u2, p2, q2⟩ := hb
  refine ⟨_, pe_and p1 p2, fun P G H σ env Q R g ev hf hR => q1 P G H σ env _ _ g ev hf fun v P' G' H' d gr g' r hq => ?_⟩
  obtain ⟨c, e, hq⟩ := hq
  subst e
  refine ⟨c, rep_bl r, ?_⟩
  cases c with
  | true => exact q2 P' G' H' σ env _ _ g' (ev.grow gr) hq (hR.grow gr)
  | false => exact hR _ P' G' H' _ gr g' .bl hq
theorem de_or (ha : DE κ X a fa) (hb : DE κ X (.BoolOp .Or (b :: es) pos) fb) : DE κ X (.BoolOp .Or (a :: b :: es) pos) (fOr fa fb) := by
  obtain ⟨u1, p1, q1⟩ := ha
  obtain ⟨u2, p2, q2⟩ := hb
  refine ⟨_, pe_or p1 p2, fun P G H σ env Q R g ev hf hR => q1 P G H σ env _ _ g ev hf fun v P' G' H' d gr g' r hq => ?_⟩
  obtain ⟨c, e, hq⟩ := hq
  subst e
  refine ⟨c, rep_bl r, ?_⟩
  cases c with
  | false => exact q2 P' G' H' σ env _ _ g' (ev.grow gr) hq (hR.grow gr)
  | true => exact hR _ P' G' H' _ gr g' .bl hq
theorem de_not (ha : DE κ X a fa) : DE κ X (.UnaryOp .Not a pos) (fNot fa) := by
  obtain ⟨u1, p1, q1⟩ := ha
  refine ⟨_, pe_not p1, fun P G H σ env Q R g ev hf hR => q1 P G H σ env _ _ g ev hf fun v P' G' H' d gr g' r hq => ?_⟩
  obtain ⟨c, e, hq⟩ := hq
  subst e
  exact ⟨c, rep_bl r, hR _ P' G' H' _ gr g' .bl hq⟩
@[simp] def fIf (t : FT) (fa fb : FE) : FE := fun env n Q => t env n fun c m => if c = true then fa env m Q else fb env m Q
theorem de_if (hc : DT κ X c t1) (ha : DE κ X a fa) (hb : DE κ X b fb) : DE κ X (.IfExp c a b pos) (fIf t1 fa fb) := by
  obtain ⟨u0, p0, q0⟩ := hc
  obtain ⟨u1, p1, q1⟩ := ha
  obtain ⟨u2, p2, q2⟩ := hb
  refine ⟨_, pe_ifExp p0 p1 p2, fun P G H σ env Q R g ev hf hR => q0 P G H σ env _ _ g ev hf fun c P' G' H' gr g' hq => ?_⟩
  cases c with
  | true => exact q1 P' G' H' σ env _ _ g' (ev.grow gr) hq (hR.grow gr)
  | false => exact q2 P' G' H' σ env _ _ g' (ev.grow gr) hq (hR.grow gr)
inductive Ty where | int | str | bool | list | tuple | dict
  deriving DecidableEq
def Ty.nm : Ty → String
  | .int => "int" | .str => "str" | .bool => "bool" | .list => "list" | .tuple => "tuple" | .dict => "dict"
def tyNm : D → Option String
  | .non => some "NoneType" | .bl _ => some "bool" | .int _ => some "int" | .str _ => some "str" | .lst _ => some "list" | .tup _ => some "tuple" | .dct _ _ => some "dict"
  | _ => none
@[simp] def isiD : Ty → D → Bool
  | .int, .int _ => true | .int, .bl _ => true | .str, .str _ => true | .bool, .bl _ => true | .list, .lst _ => true | .tuple, .tup _ => true | .dict, .dct _ _ => true
  | _, _ => false
@[simp] def hasTy : D → Bool
  | .obj _ _ => false | .dcu _ _ => false | .box _ _ => false | .scr _ => false | .ati _ _ => false | _ => true
theorem kit_isi (K : PySem.W.Frag) (T : Ty) (d : D) (h : hasTy d = true) : ∃ s, tyNm d = some s ∧ PySem.W.kitOne K (.type s) (.type T.nm) = some (isiD T d) := by
  cases d <;> try (simp [hasTy] at h)
  all_goals (refine ⟨_, rfl, kit_ty ?_⟩; cases T <;> (dsimp only [isiD, Ty.nm]; decide +kernel))
theorem rep_tyx {K : PySem.W.Frag} {G H : Hp} {iv : IV} {v : V} {d : D} {s : String} (hgh : ∀ a o, G a = some o → At H a o) (r : Rep κ G iv v d) (h : tyNm d = some s) : TyX K H v (.type s) := by
  cases r <;> simp only [tyNm, Option.some.injEq, reduceCtorEq] at h <;> subst h
  · exact .base .non
  · exact .base (.bl _)
  · exact .base (.int _)
  · exact .base (.str _)
  · rename_i h1 _ _; exact .base (.lst ((hgh _ _ h1).x rfl))
  · rename_i h1 _ _; exact .base (.tup ((hgh _ _ h1).x rfl))
  · rename_i h1 _ _ _ _
    rcases hgh _ _ h1 with q | ⟨_, od, q⟩
    · exact .base (.dK q)
    · exact .fDict q
@[simp] def fIsi (T : Ty) (f : FE) : FE := fun env n Q => f env n fun d m => hasTy d = true ∧ Q (.bl (isiD T d)) m
theorem de_isi (T : Ty) {p p2 : Pos} {y : Str} (ha : DE κ X a f) (hg : Gl X "isinstance") (hm : X.mg "isinstance" = none) (hgT : Gl X y) (hmT : X.mg y = none) (hy : y = Str.ofString T.nm)
    (he : starEach [a, .Name y p2] X.env = (false, eval a X.env) :: starEach [.Name y p2] X.env := by rfl) (he2 : starEach [.Name y p2] X.env = (false, eval (.Name y p2) X.env) :: starEach [] X.env := by rfl) (hpl : (backTo pos (starEach [.Name y p2] X.env)).any (·.1) = false := by rfl) :
    DE κ X (.Call (.Name "isinstance" p) [a, .Name y p2] [] pos) (fIsi T f) := by
  obtain ⟨t, pa, q⟩ := ha
  have hT : PE X (.Name y p2) (tC (.ty T.nm)) := by
    subst hy
    cases T <;> exact pe_bltn hgT hmT (u := .type _) (by decide +kernel) rfl
  refine ⟨_, pe_callB call_isi hg hm boot_isinstance (pa_cons pa (pa_cons hT pa_nil he2) he) (by decide) (by decide) he hpl, fun P G H σ env Q R g ev hf hR => q P G H σ env _ _ g ev hf fun v P' G' H' d gr g' r hq => ?_⟩
  obtain ⟨s, h1, h2⟩ := kit_isi X.K T d hq.1
  exact ⟨v, .ty T.nm, .type s, .type T.nm, isiD T d, rfl, .ty _, rep_tyx g'.gh r h1, h2, hR _ P' G' H' _ gr g' .bl hq.2⟩
/-- the names of built-in types, as arguments -/
structure DTys (X : Cx) (es : List Expr) (Ts : List Ty) : Prop where
  pa : PA X es (fun _ H Q => Q (Ts.map fun T => V.ty T.nm) H)
theorem dtys_nil : DTys X [] [] := ⟨pa_nil⟩
theorem dtys_cons (T : Ty) {Ts : List Ty} {p2 : Pos} {y : Str} (r : DTys X es Ts) (hgT : Gl X y) (hmT : X.mg y = none) (hy : y = Str.ofString T.nm) (he2 : starEach (.Name y p2 :: es) X.env = (false, eval (.Name y p2) X.env) :: starEach es X.env := by rfl) : DTys X (.Name y p2 :: es) (T :: Ts) := by
  have hT : PE X (.Name y p2) (tC (.ty T.nm)) := by
    subst hy
    cases T <;> exact pe_bltn hgT hmT (u := .type _) (by decide +kernel) rfl
  exact ⟨pa_cons hT r.pa he2⟩
@[simp] def fIsiT (Ts : List Ty) (f : FE) : FE := fun env n Q => f env n fun d m => hasTy d = true ∧ Q (.bl (Ts.any fun T => isiD T d)) m
theorem kitAny_tys (K : PySem.W.Frag) {s : String} {d : D} (hd : hasTy d = true) (hs : tyNm d = some s) : ∀ Ts : List Ty, PySem.W.kitAny K (.type s) (Ts.map fun T => Value.type T.nm) = some (Ts.any fun T => isiD T d)
  | [] => kitAny_nil
  | T :: Ts => by
    obtain ⟨s', h1, h2⟩ := kit_isi K T d hd
    rw [hs] at h1
    cases h1
    refine kitAny_cons h2 (fun hb => ?_) (fun hb => ?_)
    · rw [kitAny_tys K hd hs Ts, List.any_cons, hb]; rfl
    · rw [List.any_cons, hb]; rfl
theorem de_isiT (Ts : List Ty) {p p2 : Pos} {x1} (hz : Ts.length ≤ 100) (ha : DE κ X a f) (hTs : DTys X es Ts) (hg : Gl X "isinstance") (hm : X.mg "isinstance" = none)
    (he : starEach [a, .Tuple es x1 p2] X.env = (false, eval a X.env) :: starEach [.Tuple es x1 p2] X.env := by rfl) (he2 : starEach [.Tuple es x1 p2] X.env = (false, eval (.Tuple es x1 p2) X.env) :: starEach [] X.env := by rfl) (hpl : (backTo pos (starEach [.Tuple es x1 p2] X.env)).any (·.1) = false := by rfl) :
    DE κ X (.Call (.Name "isinstance" p) [a, .Tuple es x1 p2] [] pos) (fIsiT Ts f) := by
  obtain ⟨t, pa, q⟩ := ha
  refine ⟨_, pe_callB call_isiT hg hm boot_isinstance (pa_cons pa (pa_cons (pe_tup hTs.pa) pa_nil he2) he) (by decide) (by decide) he hpl, fun P G H σ env Q R g ev hf hR => q P G H σ env _ _ g ev hf fun v P' G' H' d gr g' r hq => ?_⟩
  refine ⟨?_, fun tp htp => ?_⟩
  · rw [List.length_map]; exact Nat.le_trans hz (by decide)
  · cases hn : tyNm d with
    | none => cases d <;> simp [tyNm, hasTy] at hn hq
    | some s =>
      refine ⟨v, tp, _, .type s, Ts.map fun T => Value.type T.nm, _, rfl, upd_same, ?_, ?_, kitAny_tys X.K hq.1 hn Ts, hR _ P' G' _ _ (gr.trans (Grow.new htp)) (g'.new htp) .bl hq.2⟩
      · have : ∀ Ts : List Ty, Paired ClsV (Ts.map fun T => V.ty T.nm) (Ts.map fun T => Value.type T.nm) := fun Ts => by
          induction Ts with
          | nil => exact .nil
          | cons T Ts ih => exact .cons (.ty _) ih
        exact this Ts
      · exact rep_tyx (fun b o h => (g'.new htp).gh b o h) r hn
end
end DL
namespace DL
open PySem PySem.Spec PyProof.Rows L2
theorem val1 {κ : Kit} {G : Hp} {iv : IV} {vs : List V} {d : D} (r : Reps κ G iv vs [d]) : ∃ v, vs = [v] ∧ Rep κ G iv v d := by
  cases r with | cons r t => cases t; exact ⟨_, rfl, r⟩
theorem val2 {κ : Kit} {G : Hp} {iv : IV} {vs : List V} {d e : D} (r : Reps κ G iv vs [d, e]) : ∃ v u, vs = [v, u] ∧ Rep κ G iv v d ∧ Rep κ G iv u e := by
  cases r with | cons r t => cases t with | cons r2 t => cases t; exact ⟨_, _, rfl, r, r2⟩
theorem vals_at : ∀ {vs : List V} {us : List Value}, vs.length = us.length → (∀ (j : Nat) (y : V) (u : Value), vs[j]? = some y → us[j]? = some u → RelV y u) → Vals vs us
  | [], [], _, _ => .nil
  | [], _ :: _, h, _ => by simp at h
  | _ :: _, [], h, _ => by simp at h
  | v :: vs, u :: us, h, f => .cons (f 0 v u rfl rfl) (vals_at (by simpa using h) fun j y w h1 h2 => f (j + 1) y w (by simpa using h1) (by simpa using h2))
section
variable {κ : Kit} {X : Cx} {a b c e : Expr} {es : List Expr} {fa fb fc f : FE} {far : FA} {pos : Pos} {t1 t2 : FT}
@[simp] def lenD : D → Option Nat
  | .str s => some s.length | .lst xs => some xs.length | .tup xs => some xs.length | .dct ks _ => some ks.length | .scr ns => some ns.length | _ => none
def gLen (ds : List D) (n : Nat) (Q : D → Nat → Prop) : Prop := match ds with
  | [.str s] => Q (.int s.length) n
  | [.lst s] => Q (.int s.length) n
  | [.tup s] => Q (.int s.length) n
  | [.dct s _] => Q (.int s.length) n
  | [.scr s] => Q (.int s.length) n
  | _ => False
theorem call_lenR : CallR X (.builtin "len") (fun xs H Q => ∃ a kvs, xs = [V.ref a] ∧ Rd H a (.dK kvs) ∧ Q (.int kvs.length) H) := by
  intro pins s σ H xs us Q I r h
  obtain ⟨a, kvs, rfl, ha, q⟩ := h
  obtain ⟨u, rfl, ru⟩ := vals1 r
  cases ru
  exact d_len I ha fun t s' I' => ⟨.int kvs.length, H, I', ⟨t, rfl⟩, q⟩
theorem de_len {x : Str} {p : Pos} (hK : κ.K = X.K) (hx : x = "len") (hg : Gl X x) (hm : X.mg x = none) (ha : DA κ X (e :: es) far)
    (he : starEach (e :: es) X.env = (false, eval e X.env) :: starEach es X.env := by rfl) (hpl : (backTo pos (starEach es X.env)).any (·.1) = false := by rfl) : DE κ X (.Call (.Name x p) (e :: es) [] pos) (fCl gLen far) := by
  subst hx
  refine de_callB ?_ (CallR.or call_len_seq (CallR.or call_len_str call_lenR)) hg hm boot_len ha (by decide) (by decide) he hpl
  intro P G H vs ds Q R g r hf hR
  unfold gLen at hf
  split at hf
  · obtain ⟨v, rfl, rv⟩ := val1 r
    cases rv with
    | str h => exact .inr (.inl ⟨_, rfl, by rw [str_len]; exact h.1, by rw [str_len]; exact hR _ P G H _ .refl g .int hf⟩)
  · obtain ⟨v, rfl, rv⟩ := val1 r
    cases rv with
    | lst h z r => exact .inl ⟨_, _, rfl, .inl (SqL.of (g.gx h rfl)), by rw [r.length]; exact hR _ P G H _ .refl g .int hf⟩
  · obtain ⟨v, rfl, rv⟩ := val1 r
    cases rv with
    | tup h z r => exact .inl ⟨_, _, rfl, .inr (SqT.of (g.gx h rfl)), by rw [r.length]; exact hR _ P G H _ .refl g .int hf⟩
  · obtain ⟨v, rfl, rv⟩ := val1 r
    cases rv with
    | dctK h hl z nd r => exact .inr (.inr ⟨_, _, rfl, (g.gh _ _ h).rd, by
        rw [List.length_map] at hf
        rw [List.length_zip, ← hl, Nat.min_self]; exact hR _ P G H _ .refl g .int hf⟩)
  · obtain ⟨v, rfl, rv⟩ := val1 r
    cases rv with
    | scr h z => exact .inl ⟨_, _, rfl, .inl (by rw [← hK]; exact sql_at g.gh h), by rw [List.length_map]; exact hR _ P G H _ .refl g .int hf⟩
  · exact hf.elim
@[simp] def gAll (ds : List D) (n : Nat) (Q : D → Nat → Prop) : Prop := ∃ bs : List Bool, ds = [.lst (bs.map D.bl)] ∧ Q (.bl (bs.all id)) n
@[simp] def gAny (ds : List D) (n : Nat) (Q : D → Nat → Prop) : Prop := ∃ bs : List Bool, ds = [.lst (bs.map D.bl)] ∧ Q (.bl (bs.any id)) n
@[simp] def gSum (ds : List D) (n : Nat) (Q : D → Nat → Prop) : Prop := ∃ ns : List Int, ds = [.lst (ns.map D.int)] ∧ Q (.int ns.sum) n
def gMin (ds : List D) (n : Nat) (Q : D → Nat → Prop) : Prop := match ds with
  | [.int i, .int j] => Q (.int (min i j)) n
  | _ => ∃ ns : List Int, ds = [.lst (ns.map D.int)] ∧ ns ≠ [] ∧ ∀ m, m ∈ ns → (∀ y ∈ ns, m ≤ y) → Q (.int m) n
def gMax (ds : List D) (n : Nat) (Q : D → Nat → Prop) : Prop := match ds with
  | [.int i, .int j] => Q (.int (max i j)) n
  | _ => ∃ ns : List Int, ds = [.lst (ns.map D.int)] ∧ ns ≠ [] ∧ ∀ m, m ∈ ns → (∀ y ∈ ns, y ≤ m) → Q (.int m) n
theorem de_all {x : Str} {p : Pos} (hc : X.calm = true) (hx : x = "all") (hg : Gl X x) (hm : X.mg x = none) (ha : DA κ X (e :: es) far)
    (he : starEach (e :: es) X.env = (false, eval e X.env) :: starEach es X.env := by rfl) (hpl : (backTo pos (starEach es X.env)).any (·.1) = false := by rfl) : DE κ X (.Call (.Name x p) (e :: es) [] pos) (fCl gAll far) := by
  subst hx
  refine de_callB ?_ (cr_all hc) hg hm (by decide +kernel) ha (by decide) (by decide) he hpl
  intro P G H vs ds Q R g r hf hR
  obtain ⟨bs, rfl, hf⟩ := hf
  obtain ⟨v, rfl, rv⟩ := val1 r
  cases rv with
  | lst h z r => rw [r.of_bls] at h; exact ⟨_, bs, rfl, SqL.of (g.gx h rfl), hR _ P G H _ .refl g .bl hf⟩
theorem de_any {x : Str} {p : Pos} (hc : X.calm = true) (hx : x = "any") (hg : Gl X x) (hm : X.mg x = none) (ha : DA κ X (e :: es) far)
    (he : starEach (e :: es) X.env = (false, eval e X.env) :: starEach es X.env := by rfl) (hpl : (backTo pos (starEach es X.env)).any (·.1) = false := by rfl) : DE κ X (.Call (.Name x p) (e :: es) [] pos) (fCl gAny far) := by
  subst hx
  refine de_callB ?_ (cr_any hc) hg hm (by decide +kernel) ha (by decide) (by decide) he hpl
  intro P G H vs ds Q R g r hf hR
  obtain ⟨bs, rfl, hf⟩ := hf
  obtain ⟨v, rfl, rv⟩ := val1 r
  cases rv with
  | lst h z r => rw [r.of_bls] at h; exact ⟨_, bs, rfl, SqL.of (g.gx h rfl), hR _ P G H _ .refl g .bl hf⟩
theorem de_sum {x : Str} {p : Pos} (hc : X.calm = true) (hx : x = "sum") (hg : Gl X x) (hm : X.mg x = none) (ha : DA κ X (e :: es) far)
    (he : starEach (e :: es) X.env = (false, eval e X.env) :: starEach es X.env := by rfl) (hpl : (backTo pos (starEach es X.env)).any (·.1) = false := by rfl) : DE κ X (.Call (.Name x p) (e :: es) [] pos) (fCl gSum far) := by
  subst hx
  refine de_callB ?_ (cr_sum hc) hg hm (by decide +kernel) ha (by decide) (by decide) he hpl
  intro P G H vs ds Q R g r hf hR
  obtain ⟨bs, rfl, hf⟩ := hf
  obtain ⟨v, rfl, rv⟩ := val1 r
  cases rv with
  | lst h z r => rw [r.of_ints] at h; exact ⟨_, bs, rfl, SqL.of (g.gx h rfl), hR _ P G H _ .refl g .int hf⟩
theorem de_min {x : Str} {p : Pos} (hc : X.calm = true) (hx : x = "min") (hg : Gl X x) (hm : X.mg x = none) (ha : DA κ X (e :: es) far)
    (he : starEach (e :: es) X.env = (false, eval e X.env) :: starEach es X.env := by rfl) (hpl : (backTo pos (starEach es X.env)).any (·.1) = false := by rfl) : DE κ X (.Call (.Name x p) (e :: es) [] pos) (fCl gMin far) := by
  subst hx
  refine de_callB ?_ (CallR.or (call_min2 hc) (cr_min hc)) hg hm (by decide +kernel) ha (by decide) (by decide) he hpl
  intro P G H vs ds Q R g r hf hR
  unfold gMin at hf
  split at hf
  · obtain ⟨v, u, rfl, r1, r2⟩ := val2 r
    cases r1; cases r2
    rename_i i j
    have e : (if j < i then j else i) = min i j := by rw [Int.min_def]; split <;> split <;> omega
    exact .inl ⟨_, _, rfl, by rw [e]; exact hR _ P G H _ .refl g .int hf⟩
  · obtain ⟨ns, rfl, hne, hf⟩ := hf
    obtain ⟨v, rfl, rv⟩ := val1 r
    cases rv with
    | lst h z r => rw [r.of_ints] at h; exact .inr ⟨_, ns, rfl, SqL.of (g.gx h rfl), List.length_pos_iff.mpr hne, fun m h1 h2 => hR _ P G H _ .refl g .int (hf m h1 h2)⟩
theorem de_max {x : Str} {p : Pos} (hc : X.calm = true) (hx : x = "max") (hg : Gl X x) (hm : X.mg x = none) (ha : DA κ X (e :: es) far)
    (he : starEach (e :: es) X.env = (false, eval e X.env) :: starEach es X.env := by rfl) (hpl : (backTo pos (starEach es X.env)).any (·.1) = false := by rfl) : DE κ X (.Call (.Name x p) (e :: es) [] pos) (fCl gMax far) := by
  subst hx
  refine de_callB ?_ (CallR.or (call_max2 hc) (cr_max hc)) hg hm (by decide +kernel) ha (by decide) (by decide) he hpl
  intro P G H vs ds Q R g r hf hR
  unfold gMax at hf
  split at hf
  · obtain ⟨v, u, rfl, r1, r2⟩ := val2 r
    cases r1; cases r2
    rename_i i j
    have e : (if j > i then j else i) = max i j := by rw [Int.max_def]; split <;> split <;> omega
    exact .inl ⟨_, _, rfl, by rw [e]; exact hR _ P G H _ .refl g .int hf⟩
  · obtain ⟨ns, rfl, hne, hf⟩ := hf
    obtain ⟨v, rfl, rv⟩ := val1 r
    cases rv with
    | lst h z r => rw [r.of_ints] at h; exact .inr ⟨_, ns, rfl, SqL.of (g.gx h rfl), List.length_pos_iff.mpr hne, fun m h1 h2 => hR _ P G H _ .refl g .int (hf m h1 h2)⟩
def gAbs (ds : List D) (n : Nat) (Q : D → Nat → Prop) : Prop := match ds with
  | [.int i] => Q (.int (i.natAbs : Int)) n
  | _ => False
theorem de_abs {x : Str} {p : Pos} (hx : x = "abs") (hg : Gl X x) (hm : X.mg x = none) (ha : DA κ X (e :: es) far)
    (he : starEach (e :: es) X.env = (false, eval e X.env) :: starEach es X.env := by rfl) (hpl : (backTo pos (starEach es X.env)).any (·.1) = false := by rfl) : DE κ X (.Call (.Name x p) (e :: es) [] pos) (fCl gAbs far) := by
  subst hx
  refine de_callB ?_ call_abs hg hm (by decide +kernel) ha (by decide) (by decide) he hpl
  intro P G H vs ds Q R g r hf hR
  unfold gAbs at hf
  split at hf
  · obtain ⟨v, rfl, rv⟩ := val1 r
    cases rv
    rename_i i
    have e : (if i < 0 then -i else i) = (i.natAbs : Int) := by split <;> omega
    exact ⟨_, rfl, by rw [e]; exact hR _ P G H _ .refl g .int hf⟩
  · exact hf.elim
def gInt (ds : List D) (n : Nat) (Q : D → Nat → Prop) : Prop := match ds with
  | [.int i] => Q (.int i) n
  | [.bl b] => Q (.int (if b then 1 else 0)) n
  | _ => False
theorem de_intc {x : Str} {p : Pos} (hx : x = "int") (hg : Gl X x) (hm : X.mg x = none) (ha : DA κ X (e :: es) far)
    (he : starEach (e :: es) X.env = (false, eval e X.env) :: starEach es X.env := by rfl) (hpl : (backTo pos (starEach es X.env)).any (·.1) = false := by rfl) : DE κ X (.Call (.Name x p) (e :: es) [] pos) (fCl gInt far) := by
  subst hx
  refine de_callTy ?_ call_int1 hg hm (by decide +kernel) ha (by decide) (by decide) he hpl
  intro P G H vs ds Q R g r hf hR
  unfold gInt at hf
  split at hf
  · obtain ⟨v, rfl, rv⟩ := val1 r
    cases rv
    exact .inl ⟨_, rfl, hR _ P G H _ .refl g .int hf⟩
  · obtain ⟨v, rfl, rv⟩ := val1 r
    cases rv
    exact .inr ⟨_, rfl, hR _ P G H _ .refl g .int hf⟩
  · exact hf.elim
theorem call_listS (hc : X.calm = true) : CallR X (.type "list") (fun xs H Q => ∃ z : Str, xs = [.str z] ∧ z.length ≤ sizeLine ∧ ∀ l, H l = none → Q (.ref l) (upd H l (.lst (z.cps.toList.map fun c => V.str ⟨#[c]⟩)))) := by
  intro pins s σ H xs us Q I r h
  obtain ⟨z, rfl, hz, q⟩ := h
  obtain ⟨u, rfl, rx⟩ := vals1 r
  obtain ⟨t, rfl⟩ := rx
  refine call_list_str (I.ok.hd hc) z t (fun h' tk acc' c' kp e hit => ?_) hz
  have hv : Vals (z.cps.toList.map fun c => V.str ⟨#[c]⟩) acc'.toList := by
    refine vals_at (by rw [List.length_map, Array.length_toList, Array.length_toList]; exact hit.1.symm) fun j y v hy hv => ?_
    rw [Array.getElem?_toList] at hv
    obtain ⟨c, u, hcu, ev⟩ := hit.2 j v hv
    rw [List.getElem?_map, Array.getElem?_toList, hcu] at hy
    simp only [Option.map_some, Option.some.injEq] at hy
    rw [← hy]
    exact ⟨u, ev⟩
  exact ⟨.ref s.heap.objs.size, _, I.laid (t' := tk) kp (Nat.le_refl _) (show ObjOk X.prog X.w _ h' _ (.lst (z.cps.toList.map fun c => V.str ⟨#[c]⟩)) from ⟨by rw [List.length_map, Array.length_toList]; exact hz, acc'.toList, c', hv, by simpa using e⟩), rfl, q _ (I.hok.fresh (Nat.le_refl _))⟩
end
end DL
namespace DL
open PySem PySem.Spec PyProof.Rows L2
section
variable {κ : Kit} {X : Cx} {a b c e o : Expr} {es : List Expr} {fa fb fc f : FE} {far : FA} {pos : Pos} {t1 t2 : FT}
theorem reps_signs {G : Hp} {iv : IV} : ∀ {s : List Nat}, (∀ c ∈ s, c < 1114112) → Reps κ G iv (s.map fun c => V.str ⟨#[c]⟩) (s.map fun c => D.str [c])
  | [], _ => .nil
  | c :: s, h => .cons (.str ⟨by show 1 ≤ sizeLine; decide, fun d hd => by rw [List.mem_singleton.mp hd]; exact h c (List.mem_cons_self ..)⟩) (reps_signs fun d hd => h d (List.mem_cons_of_mem _ hd))
/-- list(x): a text's signs, a copy -/
def oList (ds : List D) (n : Nat) (Q : List D → Nat → Prop) : Prop := match ds with
  | [.str s] => Q (s.map fun c => .str [c]) n
  | [.lst xs] => Q xs n
  | [.tup xs] => Q xs n
  | _ => False
theorem do_list {x : Str} {p : Pos} (hc : X.calm = true) (hx : x = "list") (hg : Gl X x) (hm : X.mg x = none) (ha : DA κ X (e :: es) far)
    (he : starEach (e :: es) X.env = (false, eval e X.env) :: starEach es X.env := by rfl) (hpl : (backTo pos (starEach es X.env)).any (·.1) = false := by rfl) : DO κ X (.Call (.Name x p) (e :: es) [] pos) (oCl oList far) := by
  subst hx
  refine do_callTy ?_ (CallR.or (call_listS hc) call_list_of) hg hm (by decide +kernel) ha (by decide) (by decide) he hpl
  intro P G H vs ds Q R g r hf hR
  unfold oList at hf
  split at hf
  · obtain ⟨v, rfl, rv⟩ := val1 r
    cases rv with
    | str h =>
      refine .inl ⟨_, rfl, by rw [str_len]; exact h.1, fun l hl => ?_⟩
      rw [cpsL]
      exact hR l P G _ _ _ (Grow.new hl) (g.new hl) hl (g.gnone hl) (g.inone hl) upd_same (by rw [List.length_map]; exact h.1) (reps_signs h.2) hf
  · obtain ⟨v, rfl, rv⟩ := val1 r
    cases rv with
    | lst h z r => exact .inr ⟨_, _, rfl, .inl (SqL.of (g.gx h rfl)), fun l hl => hR l P G _ _ _ (Grow.new hl) (g.new hl) hl (g.gnone hl) (g.inone hl) upd_same z r hf⟩
  · obtain ⟨v, rfl, rv⟩ := val1 r
    cases rv with
    | tup h z r => exact .inr ⟨_, _, rfl, .inr (SqT.of (g.gx h rfl)), fun l hl => hR l P G _ _ _ (Grow.new hl) (g.new hl) hl (g.gnone hl) (g.inone hl) upd_same z r hf⟩
  · exact hf.elim
/-- sorted(xs): texts or ints, below 64 -/
@[simp] def oSorted (ds : List D) (n : Nat) (Q : List D → Nat → Prop) : Prop :=
  (∃ ss : List (List Nat), ds = [.lst (ss.map D.str)] ∧ ss.length < 64 ∧ ∀ ts : List (List Nat), ts.Perm ss → sortedS (ts.map fun s => (⟨s.toArray⟩ : Str)) = true → Q (ts.map D.str) n) ∨
  (∃ ns : List Int, ds = [.lst (ns.map D.int)] ∧ ns.length < 64 ∧ ∀ ms : List Int, ms.Perm ns → ms.Pairwise (· ≤ ·) → Q (ms.map D.int) n)
theorem reps_strs {G : Hp} {iv : IV} : ∀ {ss : List (List Nat)}, (∀ s ∈ ss, OkS s) → Reps κ G iv (ss.map fun s => V.str ⟨s.toArray⟩) (ss.map D.str)
  | [], _ => .nil
  | s :: ss, h => .cons (.str (h s (List.mem_cons_self ..))) (reps_strs fun t ht => h t (List.mem_cons_of_mem _ ht))
theorem do_sorted {x : Str} {p : Pos} (hx : x = "sorted") (hg : Gl X x) (hm : X.mg x = none) (ha : DA κ X (e :: es) far)
    (he : starEach (e :: es) X.env = (false, eval e X.env) :: starEach es X.env := by rfl) (hpl : (backTo pos (starEach es X.env)).any (·.1) = false := by rfl) : DO κ X (.Call (.Name x p) (e :: es) [] pos) (oCl oSorted far) := by
  subst hx
  refine do_callB ?_ (CallR.or cr_sortedS cr_sorted) hg hm (by decide +kernel) ha (by decide) (by decide) he hpl
  intro P G H vs ds Q R g r hf hR
  rcases hf with ⟨ss, rfl, hz, hf⟩ | ⟨ns, rfl, hz, hf⟩
  · obtain ⟨v, rfl, rv⟩ := val1 r
    cases rv with
    | lst h z r =>
      obtain ⟨e1, e2⟩ := r.of_strs
      subst e1
      refine .inl ⟨_, _, rfl, SqL.of (g.gx h rfl), by rw [List.length_map]; exact hz, fun ys p hp hs hn => ?_⟩
      -- the texts that come back
      obtain ⟨ts, et, ht⟩ : ∃ ts : List (List Nat), ys = ts.map (fun s => (⟨s.toArray⟩ : Str)) ∧ ts.Perm ss := by
        refine ⟨ys.map fun y => y.cps.toList, ?_, ?_⟩
        · rw [List.map_map]
          have : ((fun s : List Nat => (⟨s.toArray⟩ : Str)) ∘ fun y : Str => y.cps.toList) = id := by funext y; cases y; simp
          rw [this, List.map_id]
        · have h1 := hp.map (fun y : Str => y.cps.toList)
          rw [List.map_map] at h1
          have : ((fun y : Str => y.cps.toList) ∘ fun s : List Nat => (⟨s.toArray⟩ : Str)) = id := by funext y; simp
          rw [this, List.map_id] at h1
          exact h1
      subst et
      rw [List.map_map]
      exact hR p P G _ _ _ (Grow.new hn) (g.new hn) hn (g.gnone hn) (g.inone hn) upd_same (by rw [List.length_map, ht.length_eq]; exact small64 hz) (reps_strs fun s hs' => e2 s (ht.mem_iff.mp hs')) (hf ts ht hs)
  · obtain ⟨v, rfl, rv⟩ := val1 r
    cases rv with
    | lst h z r =>
      rw [r.of_ints] at h
      refine .inr ⟨_, ns, rfl, SqL.of (g.gx h rfl), hz, fun ms p hp hs hn => ?_⟩
      exact hR p P G _ _ _ (Grow.new hn) (g.new hn) hn (g.gnone hn) (g.inone hn) upd_same (by rw [List.length_map, hp.length_eq]; exact small64 hz) Reps.ints (hf ms hp hs)
abbrev rIxD : R2 := fun x y H Q => ∃ a v, x = .ref a ∧ DGet H a y (some v) ∧ Q v H
theorem ix_dict (hu : X.A.units + 1 < cLine) : IxR X rIxD := by
  intro value slice pins s σ H x y v u Q I rx ry h hs
  obtain ⟨p, z, rfl, hg, q⟩ := h
  obtain rfl : v = Value.ref p := rx
  exact PyProof.Rows.tail_any (dict_typeIs I hg) PySem.F.slot_dict_getitem.lookup (d_getItem hu I hg ry fun w' s3 I3 rw' => ⟨z, H, I3, rw', q⟩) hs
/-- x[y]: a list, a tuple, a text by an int; a dict by a key that is there -/
def gIx (x y : D) (n : Nat) (Q : D → Nat → Prop) : Prop := match x, y with
  | .lst xs, .int i => ∃ v, atI xs i = some v ∧ Q v n
  | .tup xs, .int i => ∃ v, atI xs i = some v ∧ Q v n
  | .str s, .int i => ∃ c, atI s i = some c ∧ Q (.str [c]) n
  | .dct ks vs, k => isKeyD k = true ∧ ∃ v, dGet ks vs k = some v ∧ Q v n
  | .dcu ks vs, k => dKind (.dcu ks vs) k = true ∧ ∃ v, dGet ks vs k = some v ∧ Q v n
  | _, _ => False
theorem atI_reps {G : Hp} {iv : IV} {vs : List V} {ds : List D} {i : Int} {d : D} (r : Reps κ G iv vs ds) (h : atI ds i = some d) : ∃ v, atI vs i = some v ∧ Rep κ G iv v d := by
  unfold atI at h ⊢
  rw [r.length]
  cases hi : ixN ds.length i with
  | none => rw [hi] at h; cases h
  | some k =>
    rw [hi] at h
    exact r.get h
theorem atI_mem {α : Type} {xs : List α} {i : Int} {x : α} (h : atI xs i = some x) : x ∈ xs := by
  unfold atI at h
  cases hi : ixN xs.length i with
  | none => rw [hi] at h; cases h
  | some k =>
    rw [hi] at h
    exact List.mem_of_getElem? h
theorem de_ix (hu : X.A.units + 1 < cLine) (ha : DE κ X a fa) (hb : DE κ X b fb) (hs : PlainIx b := by exact fun _ _ => rfl) : DE κ X (.Subscript a b pos) (f2 gIx fa fb) := by
  obtain ⟨ta, pa, qa⟩ := ha
  obtain ⟨tb, pb, qb⟩ := hb
  refine ⟨_, pe_ix (ix_seq.or (ix_dict hu)) pa pb hs, op_lift ?_ qa qb⟩
  intro P G H x y dx dy Q R g rx ry hf hR
  unfold gIx at hf
  split at hf
  · obtain ⟨v, h1, hf⟩ := hf
    cases ry
    cases rx with
    | lst h z r =>
      obtain ⟨u, h2, ru⟩ := atI_reps r h1
      exact .inl (.inl ⟨_, _, _, u, rfl, rfl, SqL.of (g.gx h rfl), h2, hR u P G H _ .refl g ru hf⟩)
  · obtain ⟨v, h1, hf⟩ := hf
    cases ry
    cases rx with
    | tup h z r =>
      obtain ⟨u, h2, ru⟩ := atI_reps r h1
      exact .inl (.inr (.inl ⟨_, _, _, u, rfl, rfl, SqT.of (g.gx h rfl), h2, hR u P G H _ .refl g ru hf⟩))
  · obtain ⟨c, h1, hf⟩ := hf
    cases ry
    cases rx with
    | str h => exact .inl (.inr (.inr ⟨_, _, c, rfl, rfl, by rw [str_len]; exact h.1, by rw [cpsL]; exact h1, hR _ P G H _ .refl g (.str (h.one (atI_mem h1))) hf⟩))
  · obtain ⟨hk, v, h1, hf⟩ := hf
    obtain ⟨p, e, q1, q2⟩ := rep_dget g.gh rx ry hk
    obtain ⟨u, h2, ru⟩ := q1 v h1
    exact .inr ⟨p, u, e, h2, hR u P G H _ .refl g ru hf⟩
  · obtain ⟨hk, v, h1, hf⟩ := hf
    obtain ⟨p, e, q1, q2⟩ := rep_dget g.gh rx ry hk
    obtain ⟨u, h2, ru⟩ := q1 v h1
    exact .inr ⟨p, u, e, h2, hR u P G H _ .refl g ru hf⟩
  · exact hf.elim
abbrev FO := DEnv → Nat → (Option Int → Nat → Prop) → Prop
def DP (κ : Kit) (X : Cx) (e : Option Expr) (f : FO) : Prop := ∃ t, PO X e t ∧ ∀ (P : Wd) (G H : Hp) (σ : L2.St) (env : DEnv) (Q : Option Int → Nat → Prop) (R : Option Int → Hp → Prop), Good κ P G H → EnvR κ G P.iv σ env → f env P.n Q →
  (∀ o P' G' H', Grow P G H P' G' H' → Good κ P' G' H' → Q o P'.n → R o H') → t σ H R
@[simp] def oNo : FO := fun _ n Q => Q none n
/-- it has to be a number -/
def gI (d : D) (m : Nat) (Q : Int → Nat → Prop) : Prop := ∃ i, d = .int i ∧ Q i m
@[simp] theorem gI_int {i : Int} {m : Nat} {Q : Int → Nat → Prop} : gI (.int i) m Q = Q i m := by
  refine propext ⟨?_, fun h => ⟨i, rfl, h⟩⟩
  rintro ⟨c, e, h⟩
  cases e
  exact h
@[simp] def oSo (f : FE) : FO := fun env n Q => f env n fun d m => gI d m fun i m => Q (some i) m
theorem dp_none : DP κ X none oNo := ⟨_, po_none, fun P G H σ env Q R g ev hf hR => hR none P G H .refl g hf⟩
theorem dp_some (h : DE κ X e f) : DP κ X (some e) (oSo f) := by
  obtain ⟨t, p, q⟩ := h
  refine ⟨_, po_some p, fun P G H σ env Q R g ev hf hR => q P G H σ env _ _ g ev hf fun v P' G' H' d gr g' r hq => ?_⟩
  obtain ⟨i, e, hq⟩ := hq
  subst e
  cases r
  exact ⟨i, rfl, hR (some i) P' G' H' gr g' hq⟩
/-- what a slice takes -/
def cutL {α : Type} (xs : List α) (lo hi : Option Int) : List α := (xs.drop (HT.sIx xs.length 0 lo)).take (HT.sIx xs.length xs.length hi - HT.sIx xs.length 0 lo)
@[simp] def fSlice (f : FE) (l h : FO) : FE := fun env n Q => f env n fun x n1 => l env n1 fun lo n2 => h env n2 fun hi n3 => match x with
  | .str s => Q (.str (cutL s lo hi)) n3
  | .tup xs => ¬ (HT.sIx xs.length 0 lo = 0 ∧ HT.sIx xs.length xs.length hi = xs.length) ∧ Q (.tup (cutL xs lo hi)) n3
  | _ => False
@[simp] def oSlice (f : FE) (l h : FO) : FA := fun env n Q => f env n fun x n1 => l env n1 fun lo n2 => h env n2 fun hi n3 => match x with
  | .lst xs => Q (cutL xs lo hi) n3
  | .scr ns => Q ((cutL ns lo hi).map D.int) n3
  | _ => False
theorem cutL_le {α : Type} (xs : List α) (lo hi : Option Int) : (cutL xs lo hi).length ≤ xs.length := by
  unfold cutL; rw [List.length_take, List.length_drop]; omega
theorem reps_cut {G : Hp} {iv : IV} {vs : List V} {ds : List D} (r : Reps κ G iv vs ds) (lo hi : Option Int) : Reps κ G iv (cutV vs lo hi) (cutL ds lo hi) := by
  unfold cutV cutL
  rw [r.length]
  exact (r.drop _).take _
theorem cut_map (ns : List Int) (lo hi : Option Int) : cutV (ns.map V.int) lo hi = (cutL ns lo hi).map V.int := by
  unfold cutV cutL
  rw [List.length_map, List.map_take, List.map_drop]
theorem OkS.cut {s : List Nat} (h : OkS s) (lo hi : Option Int) : OkS (cutL s lo hi) := (h.drop _).take _
theorem cutS_eq (s : List Nat) (lo hi : Option Int) : cutS ⟨s.toArray⟩ lo hi = ⟨(cutL s lo hi).toArray⟩ := by
  unfold cutS cutL
  rw [cpsL, str_len]
variable {lo hi : Option Expr} {fl fh : FO} {p2 : Pos}
def joinL (sep : List Nat) : List (List Nat) → List Nat
  | [] => []
  | [s] => s
  | s :: t :: r => s ++ sep ++ joinL sep (t :: r)
/-- it is a text -/
def isS (x : D) : Prop := ∃ s, x = .str s
@[simp] theorem isS_str {s : List Nat} : isS (.str s) = True := eq_true ⟨s, rfl⟩
@[simp] def fM1 (φ : D → D → Nat → (D → Nat → Prop) → Prop) (fa fb : FE) : FE := fun env n Q => fa env n fun x n1 => isS x ∧ fb env n1 fun y n2 => φ x y n2 Q
theorem m1_lift {r : V → List V → Hp → VK → Prop} {φ : D → D → Nat → (D → Nat → Prop) → Prop} {ta tb : TE} (hl : LiftR κ (fun x y => r x [y]) φ) (ha : RdE κ fa ta) (hb : RdE κ fb tb) : RdE κ (fM1 φ fa fb) (tM1 r ta tb) := fun P G H σ env Q R g ev hf hR => by
  refine ha P G H σ env _ _ g ev hf fun x P1 G1 H1 dx gr1 g1 rx hf1 => ?_
  obtain ⟨⟨s, e⟩, hf1⟩ := hf1
  subst e
  have hx : ∃ a, x = .str a := by cases rx; exact ⟨_, rfl⟩
  exact ⟨hx, hb P1 G1 H1 σ env _ _ g1 (ev.grow gr1) hf1 fun y P2 G2 H2 dy gr2 g2 ry hf2 => hl P2 G2 H2 x y _ dy Q R g2 (gr2.rep rx) ry hf2 (hR.grow (gr1.trans gr2))⟩
def gStarts (x y : D) (n : Nat) (Q : D → Nat → Prop) : Prop := match x, y with
  | .str s, .str t => Q (.bl (s.take t.length == t)) n
  | _, _ => False
def gJoin (x y : D) (n : Nat) (Q : D → Nat → Prop) : Prop := ∃ (sp : List Nat) (ss : List (List Nat)), x = .str sp ∧ (y = .lst (ss.map D.str) ∨ y = .tup (ss.map D.str)) ∧ (ss.map List.length).sum + ss.length * sp.length ≤ 16777216 ∧ Q (.str (joinL sp ss)) n
theorem join_eq (sp : List Nat) : ∀ ss : List (List Nat), Txt.join ⟨sp.toArray⟩ (ss.map fun s => (⟨s.toArray⟩ : Str)) = ⟨(joinL sp ss).toArray⟩ := by
  intro ss
  unfold Txt.join
  rw [PySem.StrLaws.glued_eq_join]
  induction ss with
  | nil => rfl
  | cons s ss ih =>
    cases ss with
    | nil => rfl
    | cons t r =>
      show (⟨s.toArray⟩ : Str) ++ ⟨sp.toArray⟩ ++ Str.join ⟨sp.toArray⟩ ((t :: r).map fun s => (⟨s.toArray⟩ : Str)) = _
      rw [ih, str_app, str_app]
      rfl
theorem joinL_len (sp : List Nat) : ∀ ss : List (List Nat), (joinL sp ss).length ≤ (ss.map List.length).sum + ss.length * sp.length
  | [] => Nat.zero_le _
  | [s] => by simp [joinL]
  | s :: t :: r => by
    have ih := joinL_len sp (t :: r)
    simp only [joinL, List.length_append, List.map_cons, List.sum_cons, List.length_cons] at ih ⊢
    rw [Nat.succ_mul]
    omega
theorem joinL_mem {sp : List Nat} {c : Nat} : ∀ {ss : List (List Nat)}, c ∈ joinL sp ss → c ∈ sp ∨ ∃ s ∈ ss, c ∈ s
  | [], h => by simp [joinL] at h
  | [s], h => .inr ⟨s, List.mem_singleton.mpr rfl, h⟩
  | s :: t :: r, h => by
    simp only [joinL, List.mem_append] at h
    rcases h with (h | h) | h
    · exact .inr ⟨s, List.mem_cons_self .., h⟩
    · exact .inl h
    · rcases joinL_mem h with h | ⟨u, hu, h⟩
      · exact .inl h
      · exact .inr ⟨u, List.mem_cons_of_mem _ hu, h⟩
theorem de_join {apos : Pos} (ho : DE κ X o fa) (he : DE κ X e fb) (hs : starEach [e] X.env = [(false, eval e X.env)] := by rfl) (hbase : attributeBase o "join" X.env (eval o X.env) = eval o X.env := by rfl) (hline : (apos.endLine == pos.line) = true := by rfl) :
    DE κ X (.Call (.Attribute o "join" apos) [e] [] pos) (fM1 gJoin fa fb) := by
  obtain ⟨ta, pa, qa⟩ := ho
  obtain ⟨tb, pb, qb⟩ := he
  refine ⟨_, pe_join pa pb hs hbase hline, m1_lift ?_ qa qb⟩
  intro P G H x y dx dy Q R g rx ry hf hR
  obtain ⟨sp, ss, e, ey, hz, hf⟩ := hf
  subst e
  have hl : sizeLine = 16777216 := sizeLine_eq
  cases rx with
  | str hsp =>
  have fin : ∀ us : List V, Reps κ G P.iv us (ss.map D.str) → us = (ss.map fun s => (⟨s.toArray⟩ : Str)).map V.str ∧ Rep κ G P.iv (.str ⟨(joinL sp ss).toArray⟩) (.str (joinL sp ss)) := fun us r => by
    obtain ⟨e1, e2⟩ := r.of_strs
    refine ⟨e1, .str ⟨Nat.le_trans (joinL_len sp ss) (by omega), fun c hc => ?_⟩⟩
    rcases joinL_mem hc with h | ⟨s, h1, h2⟩
    · exact hsp.2 c h
    · exact (e2 s h1).2 c h2
  have hz' : ((ss.map fun s => (⟨s.toArray⟩ : Str)).map (·.length)).sum + (ss.map fun s => (⟨s.toArray⟩ : Str)).length * (⟨sp.toArray⟩ : Str).length ≤ 16777216 := by
    rw [List.map_map, List.length_map, str_len]
    have : ((fun x : Str => x.length) ∘ fun s : List Nat => (⟨s.toArray⟩ : Str)) = List.length := by funext s; exact str_len s
    rw [this]; exact hz
  rcases ey with e | e
  · subst e
    cases ry with
    | lst h z r =>
      obtain ⟨e1, r1⟩ := fin _ r
      exact ⟨_, _, _, rfl, rfl, .inl (SqL.of (by rw [← e1]; exact g.gx h rfl)), hz', by rw [join_eq]; exact hR _ P G H _ .refl g r1 hf⟩
  · subst e
    cases ry with
    | tup h z r =>
      obtain ⟨e1, r1⟩ := fin _ r
      exact ⟨_, _, _, rfl, rfl, .inr (SqT.of (by rw [← e1]; exact g.gx h rfl)), hz', by rw [join_eq]; exact hR _ P G H _ .refl g r1 hf⟩
def gBits (x : D) (n : Nat) (Q : D → Nat → Prop) : Prop := match x with
  | .int i => Q (.int (Builtin.Int.intBits i : Nat)) n
  | _ => False
theorem de_bits {apos : Pos} (ho : DE κ X o fa) (hbase : attributeBase o "bit_length" X.env (eval o X.env) = eval o X.env := by rfl) (hline : (apos.endLine == pos.line) = true := by rfl) :
    DE κ X (.Call (.Attribute o "bit_length" apos) [] [] pos) (f1 gBits fa) := by
  obtain ⟨ta, pa, qa⟩ := ho
  refine ⟨_, pe_bits pa hbase hline, fun P G H σ env Q R g ev hf hR => qa P G H σ env _ _ g ev hf fun v P' G' H' d gr g' r hq => ?_⟩
  cases r <;> try (exact False.elim hq)
  exact ⟨_, rfl, hR _ P' G' H' _ gr g' .int hq⟩
@[simp] def aStar (f : FE) (r : FA) : FA := fun env n Q => f env n fun x n1 => ∃ xs, (x = .lst xs ∨ x = .tup xs) ∧ r env n1 fun ys n2 => Q (xs ++ ys) n2
end
end DL
namespace DL
open PySem PySem.Spec PyProof.Rows L2
/-- the frozen part grows -/
structure Ext (P : Wd) (G : Hp) (P' : Wd) (G' : Hp) : Prop where
  fz : ∀ a o, P.fz a = some o → P'.fz a = some o
  iv : ∀ a t, P.iv a = some t → P'.iv a = some t
  n : P.n ≤ P'.n
  g : ∀ a o, G a = some o → G' a = some o
theorem Grow.ext {P P1 : Wd} {G H G1 H1 : Hp} (gr : Grow P G H P1 G1 H1) : Ext P G P1 G1 := ⟨gr.fz, gr.iv, gr.n, gr.g⟩
theorem Ext.trans {P P1 P2 : Wd} {G G1 G2 : Hp} (a : Ext P G P1 G1) (b : Ext P1 G1 P2 G2) : Ext P G P2 G2 := ⟨fun x o h => b.fz x o (a.fz x o h), fun x o h => b.iv x o (a.iv x o h), Nat.le_trans a.n b.n, fun x o h => b.g x o (a.g x o h)⟩
theorem Ext.refl {P : Wd} {G : Hp} : Ext P G P G := ⟨fun _ _ h => h, fun _ _ h => h, Nat.le_refl _, fun _ _ h => h⟩
theorem Ext.reps {κ : Kit} {P P1 : Wd} {G G1 : Hp} {v : List V} {d : List D} (a : Ext P G P1 G1) (r : Reps κ G P.iv v d) : Reps κ G1 P1.iv v d := r.mono a.g a.iv
/-- an iterator that gives xs, whatever else grows -/
def IterD (κ : Kit) (J : It) (P : Wd) (G H : Hp) (xs : List D) : Prop := xs.length ≤ sizeLine ∧ ∀ (i : Nat) (P1 : Wd) (G1 H1 : Hp), Ext P G P1 G1 → Good κ P1 G1 H1 →
  (i < xs.length → J.go i H1 ∧ ∀ (v : V) (H2 : Hp), J.yld i H1 v H2 → ∃ G2 d, Grow P1 G1 H1 P1 G2 H2 ∧ Good κ P1 G2 H2 ∧ xs[i]? = some d ∧ Rep κ G2 P1.iv v d) ∧ (i = xs.length → J.stop i H1)
theorem IterD.grow {κ : Kit} {J : It} {P P1 : Wd} {G H G1 H1 : Hp} {xs : List D} (it : IterD κ J P G H xs) (gr : Grow P G H P1 G1 H1) : IterD κ J P1 G1 H1 xs := ⟨it.1, fun i P2 G2 H2 gr2 g2 => it.2 i P2 G2 H2 (gr.ext.trans gr2) g2⟩
abbrev LkI (κ : Kit) (P : Wd) (G H : Hp) (Q : List D → Nat → Prop) (R : It → Hp → Prop) : Prop := ∀ J P' G' H' xs, Grow P G H P' G' H' → Good κ P' G' H' → IterD κ J P' G' H' xs → Q xs P'.n → R J H'
abbrev RdI (κ : Kit) (f : FA) (w : TI) : Prop := ∀ (P : Wd) (G H : Hp) (σ : L2.St) (env : DEnv) (Q : List D → Nat → Prop) (R : It → Hp → Prop), Good κ P G H → EnvR κ G P.iv σ env → f env P.n Q → LkI κ P G H Q R → w σ H R
def DI0 (κ : Kit) (X : Cx) (tg iter : Expr) (f : FA) : Prop := ∃ w, PI X tg iter w ∧ RdI κ f w
/-- .. that gives xs while S holds -/
def IterS (κ : Kit) (S : Hp → Prop) (J : It) (P : Wd) (G : Hp) (xs : List D) : Prop := xs.length ≤ sizeLine ∧ ∀ (i : Nat) (P1 : Wd) (G1 H1 : Hp), Ext P G P1 G1 → Good κ P1 G1 H1 → S H1 →
  (i < xs.length → J.go i H1 ∧ ∀ (v : V) (H2 : Hp), J.yld i H1 v H2 → ∃ G2 d, Grow P1 G1 H1 P1 G2 H2 ∧ Good κ P1 G2 H2 ∧ xs[i]? = some d ∧ Rep κ G2 P1.iv v d) ∧ (i = xs.length → J.stop i H1)
theorem IterD.s {κ : Kit} {J : It} {P : Wd} {G H : Hp} {xs : List D} (it : IterD κ J P G H xs) : IterS κ (fun _ => True) J P G xs := ⟨it.1, fun i P1 G1 H1 e g _ => it.2 i P1 G1 H1 e g⟩
/-- walked as it is, or a dict that is locked for the walk -/
def RdJ (κ : Kit) (f : FA) (w : TI) : Prop := ∀ (P : Wd) (G H : Hp) (σ : L2.St) (env : DEnv) (Q : List D → Nat → Prop), Good κ P G H → EnvR κ G P.iv σ env → f env P.n Q → (∀ R : It → Hp → Prop, LkI κ P G H Q R → w σ H R) ∨
  ∃ (a : Addr) (u : HO), G a = some u ∧ isDk u = true ∧ ∀ (od : Obj) (H1 : Hp), H1 a = some (.frz od u) → Good κ P G H1 → ∀ R : It → Hp → Prop, (∀ J xs, IterS κ (fun H' => H' a = some (.frz od u)) J P G xs → Q xs P.n → R J H1) → w σ H1 R
def DI (κ : Kit) (X : Cx) (tg iter : Expr) (f : FA) : Prop := ∃ w, PI X tg iter w ∧ RdJ κ f w
theorem DI0.j {κ : Kit} {X : Cx} {tg iter : Expr} {f : FA} (h : DI0 κ X tg iter f) : DI κ X tg iter f := by
  obtain ⟨w, p, q⟩ := h
  exact ⟨w, p, fun P G H σ env Q g ev hf => .inl fun R hR => q P G H σ env Q R g ev hf hR⟩
/-- an expression, a statement that runs as it is or while a dict is locked -/
def tLk (t : TE) : TE := fun σ H Q => tLockE t σ H Q ∨ t σ H Q
theorem PE.lk {X : Cx} {e : Expr} {t : TE} (h : PE X e t) : PE X e (tLk t) := ⟨fun pins s σ H Q I hw => by
  rcases hw with hw | hw
  · exact (pe_lock h).run pins s σ H Q I hw
  · exact h.run pins s σ H Q I hw⟩
theorem PS.lk {X : Cx} {st : Stmt} {t : TE} {i : Nat} (h : PS X st (tAsg t (gName i))) : PS X st (tAsg (tLk t) (gName i)) := ⟨fun pins s σ H D I hw => by
  rcases hw with hw | hw
  · exact (ps_lock h).run pins s σ H D I hw
  · exact h.run pins s σ H D I hw⟩
theorem dk_mut {u : HO} (h : isDk u = true) : Mut (some u) := by cases u <;> first | trivial | exact absurd h (by simp [isDk])
section
variable {κ : Kit} {X : Cx} {a b c e o tg : Expr} {es : List Expr} {fa fb fc f : FE} {far : FA} {pos : Pos} {t1 t2 : FT}
theorem PI.or {iter : Expr} {w1 w2 : TI} (h1 : PI X tg iter w1) (h2 : PI X tg iter w2) : PI X tg iter (fun σ H R => w1 σ H R ∨ w2 σ H R) := ⟨fun pins s σ H R I h => by
  rcases h with h | h
  · exact h1.run pins s σ H R I h
  · exact h2.run pins s σ H R I h⟩
theorem iter_list {K : PySem.W.Frag} {P : Wd} {G H : Hp} {a : Addr} {vs : List V} {xs : List D} (g : Good κ P G H) (h : G a = some (.lst vs)) (z : vs.length ≤ sizeLine) (r : Reps κ G P.iv vs xs) : IterD κ (Itl K a) P G H xs := by
  refine ⟨by rw [← r.length]; exact z, fun i P1 G1 H1 gr g1 => ⟨fun hi => ?_, fun hi => ?_⟩⟩
  · have h1 : H1 a = some (.lst vs) := g1.gx (gr.g _ _ h) rfl
    have r1 := gr.reps r
    obtain ⟨v, hv, rv⟩ := r1.get (List.getElem?_eq_getElem hi)
    refine ⟨⟨vs, v, SqL.of h1, hv⟩, fun u H2 hy => ?_⟩
    obtain ⟨e, hu⟩ := hy
    subst e
    have := hu vs (SqL.of h1)
    rw [hv] at this
    cases this
    exact ⟨G1, _, .refl, g1, List.getElem?_eq_getElem hi, rv⟩
  · have h1 : H1 a = some (.lst vs) := g1.gx (gr.g _ _ h) rfl
    exact ⟨vs, SqL.of h1, by rw [r.length]; omega⟩
theorem iter_tup {K : PySem.W.Frag} {P : Wd} {G H : Hp} {a : Addr} {vs : List V} {xs : List D} (g : Good κ P G H) (h : G a = some (.tup vs)) (z : vs.length ≤ sizeLine) (r : Reps κ G P.iv vs xs) : IterD κ (Itt K a) P G H xs := by
  refine ⟨by rw [← r.length]; exact z, fun i P1 G1 H1 gr g1 => ⟨fun hi => ?_, fun hi => ?_⟩⟩
  · have h1 : H1 a = some (.tup vs) := g1.gx (gr.g _ _ h) rfl
    have r1 := gr.reps r
    obtain ⟨v, hv, rv⟩ := r1.get (List.getElem?_eq_getElem hi)
    refine ⟨⟨vs, v, SqT.of h1, hv⟩, fun u H2 hy => ?_⟩
    obtain ⟨e, hu⟩ := hy
    subst e
    have := hu vs (SqT.of h1)
    rw [hv] at this
    cases this
    exact ⟨G1, _, .refl, g1, List.getElem?_eq_getElem hi, rv⟩
  · have h1 : H1 a = some (.tup vs) := g1.gx (gr.g _ _ h) rfl
    exact ⟨vs, SqT.of h1, by rw [r.length]; omega⟩
/-- over a list, a tuple, a text -/
def iAny (K : PySem.W.Frag) (te : TE) : TI := fun σ H R => te σ H fun v H1 => (∃ a, v = .ref a ∧ (∃ xs, SqL K H1 a xs) ∧ R (Itl K a) H1) ∨ (∃ a, v = .ref a ∧ (∃ xs, SqT K H1 a xs) ∧ R (Itt K a) H1) ∨ (∃ x, v = .str x ∧ R (Its x) H1)
theorem pi_any {l : Expr} {tl : TE} (hl : PE X l tl) : PI X tg l (iAny X.K tl) := by
  refine ⟨fun pins s σ H R I h => ?_⟩
  refine thn (hl.run pins s σ H _ I h) fun v s1 ⟨x, H1, I1, r1, q1⟩ => ?_
  rcases q1 with ⟨a, e, ⟨xs, hq⟩, q⟩ | ⟨a, e, ⟨xs, hq⟩, q⟩ | ⟨x, e, q⟩
  · subst e
    cases r1
    obtain ⟨its, rv, p, hz⟩ := I1.list hq
    refine wpAny_pyIter_list p.isList ?_
    refine ⟨s1.heap.objs.size, [s1.heap.objs.size], _, _, H1, rfl, I1.kept (t' := s1.toks) fun b o e => Heap.get?_push_of_some _ e, turn_list a _, ⟨_, Heap.get?_push_size _ rfl, rfl, rfl⟩, fun b hb => ?_, q⟩
    have e : b = s1.heap.objs.size := by simpa using hb
    subst e
    exact I1.fpOk (Nat.le_refl _) (I1.hok.fresh (Nat.le_refl _))
  · subst e
    cases r1
    obtain ⟨its, rv, p, hz⟩ := I1.tuple hq
    refine wpAny_pyIter_tuple (show s1.heap.IsTuple a its.toArray from p) ?_
    refine ⟨s1.heap.objs.size, [s1.heap.objs.size], _, _, H1, rfl, I1.kept (t' := s1.toks) fun b o e => Heap.get?_push_of_some _ e, turn_tuple a _, ⟨_, Heap.get?_push_size _ rfl, rfl, rfl⟩, fun b hb => ?_, q⟩
    have e : b = s1.heap.objs.size := by simpa using hb
    subst e
    exact I1.fpOk (Nat.le_refl _) (I1.hok.fresh (Nat.le_refl _))
  · subst e
    obtain ⟨t, rfl⟩ := r1
    cases ha : x.cps.all (· < 128)
    · exact wpAny_pyIter_wide ha (pi_one (tk := s1.toks) I1 _ (turn_str _ x t "str_iterator" (.inr rfl)) ⟨_, Heap.get?_push_size _ rfl, rfl, rfl⟩ q)
    · exact wpAny_pyIter_ascii ha (pi_one (tk := s1.toks) I1 _ (turn_str _ x t "str_ascii_iterator" (.inl rfl)) ⟨_, Heap.get?_push_size _ rfl, rfl, rfl⟩ q)
theorem iter_str {P : Wd} {G H : Hp} {s : List Nat} (h : OkS s) : IterD κ (Its ⟨s.toArray⟩) P G H (s.map fun c => .str [c]) := by
  refine ⟨by rw [List.length_map]; exact h.1, fun i P1 G1 H1 gr g1 => ⟨fun hi => ?_, fun hi => ?_⟩⟩
  · rw [List.length_map] at hi
    refine ⟨by show i < s.toArray.size; simpa using hi, fun u H2 hy => ?_⟩
    obtain ⟨e, c, hc, eu⟩ := hy
    subst e eu
    have hc' : s[i]? = some c := by simpa using hc
    exact ⟨G1, .str [c], .refl, g1, by rw [List.getElem?_map, hc']; rfl, .str (h.one (List.mem_of_getElem? hc'))⟩
  · rw [List.length_map] at hi
    show s.toArray.size ≤ i
    rw [List.size_toArray]; omega
def gSeq (x : D) (m : Nat) (Q : List D → Nat → Prop) : Prop := match x with
  | .lst xs => Q xs m
  | .tup xs => Q xs m
  | .str s => Q (s.map fun c => .str [c]) m
  | _ => False
@[simp] def iSeq (f : FE) : FA := fun env n Q => f env n fun x m => gSeq x m Q
theorem di_seq (ha : DE κ X e f) : DI0 κ X tg e (iSeq f) := by
  obtain ⟨ta, pa, qa⟩ := ha
  refine ⟨_, pi_any pa, fun P G H σ env Q R g ev hf hR => ?_⟩
  refine qa P G H σ env _ _ g ev hf fun v P1 G1 H1 d gr g1 r hq => ?_
  unfold gSeq at hq
  split at hq
  · cases r with
    | lst h z r => exact .inl ⟨_, rfl, ⟨_, SqL.of (g1.gx h rfl)⟩, hR _ P1 G1 H1 _ gr g1 (iter_list g1 h z r) hq⟩
  · cases r with
    | tup h z r => exact .inr (.inl ⟨_, rfl, ⟨_, SqT.of (g1.gx h rfl)⟩, hR _ P1 G1 H1 _ gr g1 (iter_tup g1 h z r) hq⟩)
  · cases r with
    | str h => exact .inr (.inr ⟨_, rfl, hR _ P1 G1 H1 _ gr g1 (iter_str h) hq⟩)
  · exact hq.elim
/-- a row of whole numbers -/
def ups (lo : Int) (n : Nat) : List D := (List.range n).map fun i => .int (lo + (i : Nat))
theorem iter_rng {P : Wd} {G H : Hp} {lo : Int} {n : Nat} (hn : n ≤ sizeLine) : IterD κ (Itr lo n) P G H (ups lo n) := by
  have hl : (ups lo n).length = n := by unfold ups; rw [List.length_map, List.length_range]
  refine ⟨by rw [hl]; exact hn, fun i P1 G1 H1 gr g1 => ⟨fun hi => ?_, fun hi => ?_⟩⟩
  · rw [hl] at hi
    refine ⟨hi, fun u H2 hy => ?_⟩
    obtain ⟨e, eu⟩ := hy
    subst e eu
    exact ⟨G1, _, .refl, g1, by unfold ups; rw [List.getElem?_map, List.getElem?_range hi]; rfl, .int⟩
  · rw [hl] at hi
    show n ≤ i
    omega
/-- over range(..): one bound, two, downwards -/
def gRange1 (ds : List D) (m : Nat) (Q : List D → Nat → Prop) : Prop := match ds with
  | [.int j] => (j ≤ 16777216 ∧ -(2 ^ 61) < j) ∧ Q (ups 0 j.toNat) m
  | _ => False
def gRange2 (ds : List D) (m : Nat) (Q : List D → Nat → Prop) : Prop := match ds with
  | [.int i, .int j] => (j - i ≤ 16777216 ∧ -(2 ^ 61) < i ∧ i < 2 ^ 61 ∧ -(2 ^ 61) < j) ∧ Q (ups i (j - i).toNat) m
  | _ => False
@[simp] def iRange1 (fa : FA) : FA := fun env n Q => fa env n fun ds m => gRange1 ds m Q
@[simp] def iRange2 (fa : FA) : FA := fun env n Q => fa env n fun ds m => gRange2 ds m Q
theorem di_range1 {p : Pos} (hg : Gl X "range") (hm : X.mg "range" = none) (ha : DA κ X [a] far) (hs : starEach [a] X.env = [(false, eval a X.env)] := by rfl) : DI0 κ X tg (.Call (.Name "range" p) [a] [] pos) (iRange1 far) := by
  obtain ⟨ta, pa, qa⟩ := ha
  refine ⟨_, pi_range1 hg hm pa hs, fun P G H σ env Q R g ev hf hR => ?_⟩
  refine qa P G H σ env _ _ g ev hf fun vs P1 G1 H1 ds gr g1 r hq => ?_
  have hl : sizeLine = 16777216 := sizeLine_eq
  unfold gRange1 at hq
  split at hq
  · obtain ⟨hj, hq⟩ := hq
    obtain ⟨v, rfl, rv⟩ := val1 r
    cases rv
    exact ⟨_, rfl, by omega, by omega, hR _ P1 G1 H1 _ gr g1 (iter_rng (by omega)) hq⟩
  · exact hq.elim
theorem di_range2 {p : Pos} (hg : Gl X "range") (hm : X.mg "range" = none) (ha : DA κ X [a, b] far) (hs : starEach [a, b] X.env = [(false, eval a X.env), (false, eval b X.env)] := by rfl) (hs2 : starEach [b] X.env = [(false, eval b X.env)] := by rfl) : DI0 κ X tg (.Call (.Name "range" p) [a, b] [] pos) (iRange2 far) := by
  obtain ⟨ta, pa, qa⟩ := ha
  refine ⟨_, pi_range2 hg hm pa hs hs2, fun P G H σ env Q R g ev hf hR => ?_⟩
  refine qa P G H σ env _ _ g ev hf fun vs P1 G1 H1 ds gr g1 r hq => ?_
  have hl : sizeLine = 16777216 := sizeLine_eq
  unfold gRange2 at hq
  split at hq
  · obtain ⟨hj, hq⟩ := hq
    obtain ⟨v, u, rfl, rv, ru⟩ := val2 r
    cases rv; cases ru
    exact ⟨_, _, rfl, by omega, hR _ P1 G1 H1 _ gr g1 (iter_rng (by omega)) hq⟩
  · exact hq.elim
/-- enumerate(xs) -/
def enumD : Nat → List D → List D
  | _, [] => []
  | k, x :: xs => .tup [.int (k : Nat), x] :: enumD (k + 1) xs
theorem enumD_len : ∀ (k : Nat) (xs : List D), (enumD k xs).length = xs.length
  | _, [] => rfl
  | k, _ :: xs => by rw [enumD, List.length_cons, enumD_len, List.length_cons]
theorem enumD_get : ∀ (k : Nat) (xs : List D) (i : Nat) (d : D), xs[i]? = some d → (enumD k xs)[i]? = some (.tup [.int ((k + i : Nat) : Int), d])
  | _, [], _, _, h => by simp at h
  | k, x :: xs, 0, d, h => by simp at h; subst h; simp [enumD]
  | k, x :: xs, i + 1, d, h => by
    have := enumD_get (k + 1) xs i d (by simpa using h)
    simp only [enumD, List.getElem?_cons_succ, this]
    congr 5
    omega
def gEnumD (ds : List D) (m : Nat) (Q : List D → Nat → Prop) : Prop := match ds with
  | [.lst xs] => Q (enumD 0 xs) m
  | _ => False
@[simp] def iEnumD (fa : FA) : FA := fun env n Q => fa env n fun ds m => gEnumD ds m Q
theorem new_tup {P1 : Wd} {G1 H1 : Hp} {T : Addr} {us : List V} {ds : List D} (g1 : Good κ P1 G1 H1) (hT : H1 T = none) (z : us.length ≤ sizeLine) (r : Reps κ G1 P1.iv us ds) :
    Grow P1 G1 H1 P1 (upd G1 T (.tup us)) (upd H1 T (.tup us)) ∧ Good κ P1 (upd G1 T (.tup us)) (upd H1 T (.tup us)) ∧ Rep κ (upd G1 T (.tup us)) P1.iv (.ref T) (.tup ds) :=
  ⟨(Grow.new hT).frz hT (g1.gnone hT), (g1.new hT).frz (g1.gnone hT) (g1.inone hT) upd_same, .tup upd_same z (reps_frz (g1.gnone hT) r)⟩
theorem iter_enum {K : PySem.W.Frag} {P : Wd} {G H : Hp} {a : Addr} {vs : List V} {xs : List D} (g : Good κ P G H) (h : G a = some (.lst vs)) (z : vs.length ≤ sizeLine) (r : Reps κ G P.iv vs xs) : IterD κ (Ite K a) P G H (enumD 0 xs) := by
  refine ⟨by rw [enumD_len, ← r.length]; exact z, fun i P1 G1 H1 gr g1 => ⟨fun hi => ?_, fun hi => ?_⟩⟩
  · rw [enumD_len] at hi
    have h1 : H1 a = some (.lst vs) := g1.gx (gr.g _ _ h) rfl
    have r1 := gr.reps r
    obtain ⟨v, hv, rv⟩ := r1.get (List.getElem?_eq_getElem hi)
    refine ⟨⟨vs, v, SqL.of h1, hv⟩, fun u H2 hy => ?_⟩
    obtain ⟨T, x, e, hT, eH, hu⟩ := hy
    subst e eH
    have := hu vs (SqL.of h1)
    rw [hv] at this
    cases this
    obtain ⟨q1, q2, q3⟩ := new_tup (κ := κ) (us := [.int (i : Nat), v]) (ds := [.int (i : Nat), xs[i]]) g1 hT (by show 2 ≤ sizeLine; decide) (.cons .int (.cons rv .nil))
    exact ⟨_, _, q1, q2, by rw [enumD_get 0 xs i _ (List.getElem?_eq_getElem hi), Nat.zero_add], q3⟩
  · rw [enumD_len] at hi
    have h1 : H1 a = some (.lst vs) := g1.gx (gr.g _ _ h) rfl
    exact ⟨vs, SqL.of h1, by rw [r.length]; omega⟩
theorem di_enum {p tpos : Pos} {elts : List Expr} {kk : Nat} (hg : Gl X "enumerate") (hm : X.mg "enumerate" = none) (ha : DA κ X [e] far) (hs : starEach [e] X.env = [(false, eval e X.env)] := by rfl) : DI0 κ X (.Tuple elts kk tpos) (.Call (.Name "enumerate" p) [e] [] pos) (iEnumD far) := by
  obtain ⟨ta, pa, qa⟩ := ha
  refine ⟨_, pi_enum hg hm pa hs, fun P G H σ env Q R g ev hf hR => ?_⟩
  refine qa P G H σ env _ _ g ev hf fun vs P1 G1 H1 ds gr g1 r hq => ?_
  unfold gEnumD at hq
  split at hq
  · obtain ⟨v, rfl, rv⟩ := val1 r
    cases rv with
    | lst h z r => exact ⟨_, _, rfl, SqL.of (g1.gx h rfl), hR _ P1 G1 H1 _ gr g1 (iter_enum g1 h z r) hq⟩
  · exact hq.elim
/-- zip(xs, ys) -/
def zipD : List D → List D → List D
  | x :: xs, y :: ys => .tup [x, y] :: zipD xs ys
  | _, _ => []
theorem zipD_len : ∀ xs ys : List D, (zipD xs ys).length = min xs.length ys.length
  | [], _ => by simp [zipD]
  | _ :: _, [] => by simp [zipD]
  | _ :: xs, _ :: ys => by simp only [zipD, List.length_cons, zipD_len]; omega
theorem zipD_get : ∀ (xs ys : List D) (i : Nat) (x y : D), xs[i]? = some x → ys[i]? = some y → (zipD xs ys)[i]? = some (.tup [x, y])
  | [], _, _, _, _, h, _ => by simp at h
  | _ :: _, [], _, _, _, _, h => by simp at h
  | x :: xs, y :: ys, 0, a, b, h, h' => by simp at h h'; subst h h'; rfl
  | x :: xs, y :: ys, i + 1, a, b, h, h' => by simpa [zipD] using zipD_get xs ys i a b (by simpa using h) (by simpa using h')
def gZipD (ds : List D) (m : Nat) (Q : List D → Nat → Prop) : Prop := match ds with
  | [.lst xs, .lst ys] => Q (zipD xs ys) m
  | [.tup xs, .tup ys] => Q (zipD xs ys) m
  | _ => False
@[simp] def iZipD (fa : FA) : FA := fun env n Q => fa env n fun ds m => gZipD ds m Q
theorem iter_zip {K : PySem.W.Frag} {P : Wd} {G H : Hp} {a b : Addr} {vs us : List V} {xs ys : List D} (g : Good κ P G H) (h : G a = some (.lst vs)) (h' : G b = some (.lst us)) (z : vs.length ≤ sizeLine) (r : Reps κ G P.iv vs xs) (r' : Reps κ G P.iv us ys) : IterD κ (Itz K a b) P G H (zipD xs ys) := by
  refine ⟨by rw [zipD_len, ← r.length]; exact Nat.le_trans (Nat.min_le_left _ _) z, fun i P1 G1 H1 gr g1 => ⟨fun hi => ?_, fun hi => ?_⟩⟩
  · rw [zipD_len] at hi
    have h1 : H1 a = some (.lst vs) := g1.gx (gr.g _ _ h) rfl
    have h2 : H1 b = some (.lst us) := g1.gx (gr.g _ _ h') rfl
    have hi1 : i < xs.length := by omega
    have hi2 : i < ys.length := by omega
    obtain ⟨v, hv, rv⟩ := (gr.reps r).get (List.getElem?_eq_getElem hi1)
    obtain ⟨u, hu, ru⟩ := (gr.reps r').get (List.getElem?_eq_getElem hi2)
    refine ⟨⟨vs, us, v, u, SqL.of h1, SqL.of h2, hv, hu⟩, fun w H2 hy => ?_⟩
    obtain ⟨T, x, y, e, hT, eH, hx, hy⟩ := hy
    subst e eH
    have e1 := hx vs (SqL.of h1)
    have e2 := hy us (SqL.of h2)
    rw [hv] at e1; cases e1
    rw [hu] at e2; cases e2
    obtain ⟨q1, q2, q3⟩ := new_tup (κ := κ) (us := [v, u]) (ds := [xs[i], ys[i]]) g1 hT (by show 2 ≤ sizeLine; decide) (.cons rv (.cons ru .nil))
    exact ⟨_, _, q1, q2, zipD_get xs ys i _ _ (List.getElem?_eq_getElem hi1) (List.getElem?_eq_getElem hi2), q3⟩
  · rw [zipD_len] at hi
    have h1 : H1 a = some (.lst vs) := g1.gx (gr.g _ _ h) rfl
    have h2 : H1 b = some (.lst us) := g1.gx (gr.g _ _ h') rfl
    exact ⟨vs, us, SqL.of h1, SqL.of h2, by rw [r.length, r'.length]; omega⟩
theorem iter_zipT {K : PySem.W.Frag} {P : Wd} {G H : Hp} {a b : Addr} {vs us : List V} {xs ys : List D} (g : Good κ P G H) (h : G a = some (.tup vs)) (h' : G b = some (.tup us)) (z : vs.length ≤ sizeLine) (r : Reps κ G P.iv vs xs) (r' : Reps κ G P.iv us ys) : IterD κ (RZ.ItzT K a b) P G H (zipD xs ys) := by
  refine ⟨by rw [zipD_len, ← r.length]; exact Nat.le_trans (Nat.min_le_left _ _) z, fun i P1 G1 H1 gr g1 => ⟨fun hi => ?_, fun hi => ?_⟩⟩
  · rw [zipD_len] at hi
    have h1 : H1 a = some (.tup vs) := g1.gx (gr.g _ _ h) rfl
    have h2 : H1 b = some (.tup us) := g1.gx (gr.g _ _ h') rfl
    have hi1 : i < xs.length := by omega
    have hi2 : i < ys.length := by omega
    obtain ⟨v, hv, rv⟩ := (gr.reps r).get (List.getElem?_eq_getElem hi1)
    obtain ⟨u, hu, ru⟩ := (gr.reps r').get (List.getElem?_eq_getElem hi2)
    refine ⟨⟨vs, us, v, u, SqT.of h1, SqT.of h2, hv, hu⟩, fun w H2 hy => ?_⟩
    obtain ⟨T, x, y, e, hT, eH, hx, hy⟩ := hy
    subst e eH
    have e1 := hx vs (SqT.of h1)
    have e2 := hy us (SqT.of h2)
    rw [hv] at e1; cases e1
    rw [hu] at e2; cases e2
    obtain ⟨q1, q2, q3⟩ := new_tup (κ := κ) (us := [v, u]) (ds := [xs[i], ys[i]]) g1 hT (by show 2 ≤ sizeLine; decide) (.cons rv (.cons ru .nil))
    exact ⟨_, _, q1, q2, zipD_get xs ys i _ _ (List.getElem?_eq_getElem hi1) (List.getElem?_eq_getElem hi2), q3⟩
  · rw [zipD_len] at hi
    have h1 : H1 a = some (.tup vs) := g1.gx (gr.g _ _ h) rfl
    have h2 : H1 b = some (.tup us) := g1.gx (gr.g _ _ h') rfl
    exact ⟨vs, us, SqT.of h1, SqT.of h2, by rw [r.length, r'.length]; omega⟩
theorem di_zip {p tpos : Pos} {elts : List Expr} {kk : Nat} (hg : Gl X "zip") (hm : X.mg "zip" = none) (ha : DA κ X [a, b] far) (hs : starEach [a, b] X.env = (false, eval a X.env) :: starEach [b] X.env := by rfl) (hpl : (backTo pos (starEach [b] X.env)).any (·.1) = false := by rfl) :
    DI0 κ X (.Tuple elts kk tpos) (.Call (.Name "zip" p) [a, b] [] pos) (iZipD far) := by
  obtain ⟨ta, pa, qa⟩ := ha
  refine ⟨_, RZ.pi_zipA hg hm pa hs hpl, fun P G H σ env Q R g ev hf hR => ?_⟩
  refine qa P G H σ env _ _ g ev hf fun vs P1 G1 H1 ds gr g1 r hq => ?_
  unfold gZipD at hq
  split at hq
  · obtain ⟨v, u, rfl, rv, ru⟩ := val2 r
    cases rv with
    | lst h z rx =>
      cases ru with
      | lst h' z' ry => exact ⟨_, _, _, _, rfl, .inl ⟨SqL.of (g1.gx h rfl), SqL.of (g1.gx h' rfl), hR _ P1 G1 H1 _ gr g1 (iter_zip g1 h h' z rx ry) hq⟩⟩
  · obtain ⟨v, u, rfl, rv, ru⟩ := val2 r
    cases rv with
    | tup h z rx =>
      cases ru with
      | tup h' z' ry => exact ⟨_, _, _, _, rfl, .inr ⟨SqT.of (g1.gx h rfl), SqT.of (g1.gx h' rfl), hR _ P1 G1 H1 _ gr g1 (iter_zipT g1 h h' z rx ry) hq⟩⟩
  · exact hq.elim
abbrev FG := D → DEnv → (DEnv → Prop) → Prop
def LiftG (κ : Kit) (g : TG) (sl : List Nat) (φ : FG) : Prop := ∀ (P : Wd) (G H : Hp) (v : V) (d : D) (σ : L2.St) (env : DEnv) (Q : DEnv → Prop) (R : L2.St → Hp → Prop), Good κ P G H → EnvR κ G P.iv σ env → Rep κ G P.iv v d → φ d env Q →
  (∀ σ' env', EnvR κ G P.iv σ' env' → (∀ vs : List Nat, (∀ i ∈ sl, i ∈ vs) → wipe σ' vs = wipe σ vs) → Q env' → R σ' H) → g v σ H R
abbrev FGs := List D → DEnv → (DEnv → Prop) → Prop
def LiftGs (κ : Kit) (g : TGs) (sl : List Nat) (φ : FGs) : Prop := ∀ (P : Wd) (G H : Hp) (v : List V) (d : List D) (σ : L2.St) (env : DEnv) (Q : DEnv → Prop) (R : L2.St → Hp → Prop), Good κ P G H → EnvR κ G P.iv σ env → Reps κ G P.iv v d → φ d env Q →
  (∀ σ' env', EnvR κ G P.iv σ' env' → (∀ vs : List Nat, (∀ i ∈ sl, i ∈ vs) → wipe σ' vs = wipe σ vs) → Q env' → R σ' H) → g v σ H R
theorem wipe_set {σ : L2.St} {i : Nat} {x : Option V} : ∀ vs : List Nat, wipe (σ.set i x) vs = if i ∈ vs then wipe σ vs else (wipe σ vs).set i x
  | [] => by simp [wipe]
  | v :: vs => by
    unfold wipe
    rw [wipe_set vs]
    by_cases h1 : i ∈ vs
    · rw [if_pos h1, if_pos (List.mem_cons_of_mem _ h1)]
    · rw [if_neg h1]
      by_cases h2 : i = v
      · subst h2
        rw [if_pos (List.mem_cons_self ..), List.set_set]
      · rw [if_neg (by simp [h1, h2]), List.set_comm _ _ h2]
theorem wipe_wipe (σ : L2.St) (vs : List Nat) : wipe (wipe σ vs) vs = wipe σ vs := by
  have key : ∀ us vs : List Nat, (∀ i ∈ us, i ∈ vs) → wipe (wipe σ us) vs = wipe σ vs := by
    intro us
    induction us with
    | nil => intro vs _; rfl
    | cons u us ih =>
      intro vs h
      rw [show wipe σ (u :: us) = (wipe σ us).set u none from rfl, wipe_set, if_pos (h u (List.mem_cons_self ..))]
      exact ih vs fun i hi => h i (List.mem_cons_of_mem _ hi)
  exact key vs vs fun _ h => h
theorem wipe_in {σ : L2.St} {i : Nat} {x : Option V} {vs : List Nat} (h : i ∈ vs) : wipe (σ.set i x) vs = wipe σ vs := by rw [wipe_set, if_pos h]
@[simp] def gN (i : Nat) : FG := fun d env Q => Q (env.set i (some d))
theorem lg_name (i : Nat) : LiftG κ (gName i) [i] (gN i) := fun P G H v d σ env Q R g ev r hf hR => hR _ _ (ev.set r) (fun vs h => wipe_in (h i (List.mem_singleton.mpr rfl))) hf
def gsNil : FGs := fun ds env Q => match ds with
  | [] => Q env
  | _ => False
def gsCons (φ : FG) (ψ : FGs) : FGs := fun ds env Q => match ds with
  | d :: r => φ d env fun env' => ψ r env' Q
  | [] => False
theorem lgs_nil : LiftGs κ gNil [] gsNil := fun P G H v d σ env Q R g ev r hf hR => by
  cases r with
  | nil => exact ⟨rfl, hR _ _ ev (fun _ _ => rfl) hf⟩
  | cons r t => exact False.elim hf
theorem lgs_cons {g : TG} {gs : TGs} {s1 s2 : List Nat} {φ : FG} {ψ : FGs} (h1 : LiftG κ g s1 φ) (h2 : LiftGs κ gs s2 ψ) : LiftGs κ (gCons g gs) (s1 ++ s2) (gsCons φ ψ) := fun P G H v d σ env Q R g ev r hf hR => by
  cases r with
  | nil => exact False.elim hf
  | @cons v0 d0 vs0 ds r t =>
    refine ⟨_, _, rfl, h1 P G H _ d0 σ env _ _ g ev r hf fun σ1 env1 ev1 w1 hf1 => ?_⟩
    exact h2 P G H _ ds σ1 env1 Q R g ev1 t hf1 fun σ2 env2 ev2 w2 hq => hR σ2 env2 ev2 (fun vs hvs => (w2 vs fun i hi => hvs i (List.mem_append_right _ hi)).trans (w1 vs fun i hi => hvs i (List.mem_append_left _ hi))) hq
def gT (n : Nat) (ψ : FGs) : FG := fun d env Q => match d with
  | .tup ds => ds.length = n ∧ ψ ds env Q
  | _ => False
theorem lg_tup {K : PySem.W.Frag} {n : Nat} {gs : TGs} {sl : List Nat} {ψ : FGs} (h : LiftGs κ gs sl ψ) : LiftG κ (gTup K n gs) sl (gT n ψ) := fun P G H v d σ env Q R g ev r hf hR => by
  unfold gT at hf
  split at hf
  · obtain ⟨hn, hf⟩ := hf
    cases r with
    | tup ht z r => exact ⟨_, _, rfl, SqT.of (g.gx ht rfl), by rw [r.length]; exact hn, h P G H _ _ σ env Q R g ev r hf hR⟩
  · exact hf.elim
/-- a target of the text and its data -/
def DG (κ : Kit) (X : Cx) (tg : Expr) (sl : List Nat) (φ : FG) : Prop := ∃ g, PG X tg g ∧ LiftG κ g sl φ
def DGs (κ : Kit) (X : Cx) (tgs : List Expr) (sl : List Nat) (ψ : FGs) : Prop := ∃ g, PGs X tgs g ∧ LiftGs κ g sl ψ
theorem dg_name (i : Nat) {x : Str} (hN : X.N.Nodup) (hi : X.N[i]? = some x) (hx : Loc X.env.scope x) (hf : X.fn x = true ∨ X.env.scope.names.lookup x = some .local := by first | exact .inl rfl | exact .inr rfl) : DG κ X (.Name x pos) [i] (gN i) :=
  ⟨_, pg_name hN hi hx hf, lg_name i⟩
theorem dgs_nil : DGs κ X [] [] gsNil := ⟨_, pgs_nil, lgs_nil⟩
theorem dgs_cons {s1 s2 : List Nat} {φ : FG} {ψ : FGs} (h1 : DG κ X e s1 φ) (h2 : DGs κ X es s2 ψ) (hs : (assignEach (e :: es) X.env).map (·.2) = assign e X.env :: (assignEach es X.env).map (·.2) := by rfl) : DGs κ X (e :: es) (s1 ++ s2) (gsCons φ ψ) := by
  obtain ⟨g, p, q⟩ := h1
  obtain ⟨gs, ps, qs⟩ := h2
  exact ⟨_, pgs_cons p ps hs, lgs_cons q qs⟩
theorem dg_tup {k n : Nat} {sl : List Nat} {ψ : FGs} (hc : X.calm = true) (h : DGs κ X es sl ψ) (hn : (assignEach es X.env).length = n := by rfl) (hst : (assignEach es X.env).findIdx? (·.1) = none := by rfl) : DG κ X (.Tuple es k pos) sl (gT n ψ) := by
  obtain ⟨gs, ps, qs⟩ := h
  exact ⟨_, pg_tup hc ps hn hst, lg_tup qs⟩
@[simp] def wipeE (env : DEnv) : List Nat → DEnv
  | [] => env
  | v :: vs => (wipeE env vs).set v none
theorem EnvR.wipe {G : Hp} {iv : IV} {σ : L2.St} {env : DEnv} (ev : EnvR κ G iv σ env) : ∀ vs : List Nat, EnvR κ G iv (L2.wipe σ vs) (wipeE env vs)
  | [] => ev
  | v :: vs => (EnvR.wipe ev vs).setN
/-- the tests of a clause -/
def DTs (κ : Kit) (X : Cx) (ifs : List Expr) (f : FT) : Prop := ∃ t, PTs X ifs t ∧ RdT κ f t
@[simp] def tYesD : FT := fun _ n Q => Q true n
theorem dts_nil : DTs κ X [] tYesD := ⟨_, pts_nil, fun P G H σ env Q R g ev hf hR => hR true P G H .refl g hf⟩
theorem dts_one (h : DT κ X c t1) : DTs κ X [c] t1 := by
  obtain ⟨t, p, q⟩ := h
  exact ⟨_, pts_one p, q⟩
@[simp] def goD (tg : FG) (tt : FT) (te : FE) (env : DEnv) : List D → Nat → (List D → Nat → Prop) → Prop
  | [], n, Q => Q [] n
  | x :: xs, n, Q => tg x env fun env' => tt env' n fun b n1 => if b = true then te env' n1 fun y n2 => goD tg tt te env xs n2 fun ys n3 => Q (y :: ys) n3 else goD tg tt te env xs n1 Q
@[simp] def oComp (it : FA) (tg : FG) (tt : FT) (te : FE) (vs : List Nat) : FA := fun env n Q => it env n fun xs n1 => goD tg tt te (wipeE env vs) xs n1 Q
theorem lc_body {J : It} {S : Hp → Prop} {g : TG} {tt : TT} {te : TE} {vs sl : List Nat} {φ : FG} {P : Wd} {G H : Hp} {σ : L2.St} {env : DEnv} {Q : List D → Nat → Prop} {R : VK} {xs : List D} (g0 : Good κ P G H) (ev : EnvR κ G P.iv σ env) (it : IterS κ S J P G xs) (hS : ∀ P' G' H', Grow P G H P' G' H' → S H')
    (hg : LiftG κ g sl φ) (ht : RdT κ t1 tt) (he : RdE κ f te) (hsl : ∀ i ∈ sl, i ∈ vs) (hq : goD φ t1 f (wipeE env vs) xs P.n Q) (hR : LkO κ P G H Q R) :
    tLc (fun _ H R => R J H) g tt te vs σ H R := by
  intro Dl hD
  have hzl := it.1
  refine ⟨fun i m H' => ∃ P' G' acc accD, Grow P G H P' G' H' ∧ Good κ P' G' H' ∧ G' Dl = none ∧ P'.iv Dl = none ∧ H' Dl = some (.lst acc) ∧ Reps κ G' P'.iv acc accD ∧ acc.length ≤ i ∧ i ≤ xs.length ∧ m = xs.length - i ∧
    goD φ t1 f (wipeE env vs) (xs.drop i) P'.n (fun ys k => Q (accD ++ ys) k), ⟨xs.length, P, G, [], [], Grow.new hD, g0.new hD, g0.gnone hD, g0.inone hD, upd_same, .nil, Nat.le_refl _, Nat.zero_le _, rfl, hq⟩, ?_⟩
  rintro i m H' ⟨P', G', acc, accD, gr, g', hgD, hiD, hhD, ra, hle, hix, rfl, hgo⟩
  have evb := ev.grow gr
  by_cases hlt : i < xs.length
  · obtain ⟨go, yl⟩ := (it.2 i P' G' H' gr.ext g' (hS _ _ _ gr)).1 hlt
    refine .inr ⟨go, fun H2 => ∃ P2 G2 acc2 accD2, Grow P G H P2 G2 H2 ∧ Good κ P2 G2 H2 ∧ G2 Dl = none ∧ P2.iv Dl = none ∧ H2 Dl = some (.lst acc2) ∧ Reps κ G2 P2.iv acc2 accD2 ∧ acc2.length ≤ i + 1 ∧
      goD φ t1 f (wipeE env vs) (xs.drop (i + 1)) P2.n (fun ys k => Q (accD2 ++ ys) k), fun H2 hN => ?_, fun v H2 hy => ?_⟩
    · obtain ⟨P2, G2, acc2, accD2, q1, q2, q3, q4, q5, q6, q7, q8⟩ := hN
      exact ⟨xs.length - (i + 1), by omega, P2, G2, acc2, accD2, q1, q2, q3, q4, q5, q6, q7, hlt, rfl, q8⟩
    · obtain ⟨G2, d, gr2, g2, hxd, rd⟩ := yl v H2 hy
      have hdrop : xs.drop i = d :: xs.drop (i + 1) := by
        rw [List.drop_eq_getElem_cons hlt]
        rw [List.getElem?_eq_getElem hlt] at hxd
        cases hxd; rfl
      rw [hdrop] at hgo
      have evw : EnvR κ G2 P'.iv (L2.wipe σ vs) (wipeE env vs) := (evb.grow gr2).wipe vs
      have hH2D : H2 Dl = some (.lst acc) := gr2.h Dl _ hhD hiD
      have hG2D : G2 Dl = none := by rw [gr2.same hhD]; exact hgD
      refine hg P' G2 H2 v d (L2.wipe σ vs) (wipeE env vs) _ _ g2 evw rd hgo fun σ' env' ev' hw hf1 => ?_
      refine ⟨by rw [hw vs hsl]; exact wipe_wipe σ vs, ?_⟩
      refine ht P' G2 H2 σ' env' _ _ g2 ev' hf1 fun b P3 G3 H3 gr3 g3 hf2 => ?_
      have hH3D : H3 Dl = some (.lst acc) := gr3.h Dl _ hH2D hiD
      have hP3D : P3.iv Dl = none := by rw [(gr3.fresh Dl _ hH2D).1]; exact hiD
      have hG3D : G3 Dl = none := by rw [gr3.same hH2D]; exact hG2D
      cases b with
      | false => exact ⟨P3, G3, acc, accD, (gr.trans gr2).trans gr3, g3, hG3D, hP3D, hH3D, gr3.reps (gr2.reps ra), Nat.le_succ_of_le hle, hf2⟩
      | true =>
        refine he P3 G3 H3 σ' env' _ _ g3 (ev'.grow gr3) hf2 fun y P4 G4 H4 dy gr4 g4 ry hf3 => ?_
        have hH4D : H4 Dl = some (.lst acc) := gr4.h Dl _ hH3D hP3D
        have hP4D : P4.iv Dl = none := by rw [(gr4.fresh Dl _ hH3D).1]; exact hP3D
        have hG4D : G4 Dl = none := by rw [gr4.same hH3D]; exact hG3D
        refine ⟨acc, hH4D, by omega, P4, G4, acc ++ [y], accD ++ [dy], (((gr.trans gr2).trans gr3).trans gr4).put hD, g4.put hG4D hP4D, hG4D, hP4D, upd_same, (gr4.reps (gr3.reps (gr2.reps ra))).append (.cons ry .nil), by rw [List.length_append]; exact Nat.succ_le_succ hle, ?_⟩
        simpa only [List.append_assoc, List.singleton_append] using hf3
  · have e : i = xs.length := by omega
    subst e
    refine .inl ⟨(it.2 _ P' G' H' gr.ext g' (hS _ _ _ gr)).2 rfl, ?_⟩
    rw [List.drop_length] at hgo
    have hq' : Q accD P'.n := by simpa [goD] using hgo
    exact hR Dl P' G' H' acc accD gr g' hD hgD hiD hhD (by omega) ra hq'
theorem lc_lift {w : TI} {g : TG} {tt : TT} {te : TE} {vs sl : List Nat} {φ : FG} (hi : RdJ κ far w) (hg : LiftG κ g sl φ) (ht : RdT κ t1 tt) (he : RdE κ f te) (hsl : ∀ i ∈ sl, i ∈ vs) : RdO κ (oComp far φ t1 f vs) (tLk (tLc w g tt te vs)) := by
  intro P G H σ env Q R good ev hf hR
  rcases hi P G H σ env _ good ev hf with hi | ⟨a, u, hGa, hdk, hi⟩
  · refine .inr (hi _ fun J Pb Gb Hb xs gr0 gb it hq => ?_)
    exact lc_body gb (ev.grow gr0) it.s (fun _ _ _ _ => trivial) hg ht he hsl hq (hR.grow gr0)
  · have hia : P.iv a = none := by
      cases e : P.iv a with
      | none => rfl
      | some t => rw [(good.gi a t e).1] at hGa; cases hGa
    rcases good.gh a u hGa with hHa | ⟨_, od, hHa⟩
    · refine .inl ⟨a, u, hHa, dk_mut hdk, fun od => ?_⟩
      have gl : Good κ P G (upd H a (.frz od u)) := good.lock hGa hdk
      refine hi od _ upd_same gl _ fun J xs it hq => ?_
      refine lc_body (H := upd H a (.frz od u)) (R := fun v H' => H' a = some (.frz od u) ∧ R v (upd H' a u)) gl ev it (fun P' G' H' gr => gr.h a _ upd_same hia) hg ht he hsl hq ?_
      intro b P' G' H' vs' xs' gr g' hb hgb hib hhb hz r hq'
      have hba : b ≠ a := fun e => by subst e; rw [upd_same] at hb; cases hb
      rw [upd_ne hba] at hb
      refine ⟨gr.h a _ upd_same hia, ?_⟩
      exact hR b P' G' (upd H' a u) vs' xs' (Grow.unlock hHa gr) (g'.unlock (gr.g _ _ hGa)) hb hgb hib (by rw [upd_ne hba]; exact hhb) hz r hq'
    · refine .inr (hi od H hHa good _ fun J xs it hq => ?_)
      exact lc_body good ev it (fun P' G' H' gr => gr.h a _ hHa hia) hg ht he hsl hq hR
/-- the readings that hang on the data alone -/
def tE (κ : Kit) (f : FE) : TE := fun σ H R => ∃ (P : Wd) (G : Hp) (env : DEnv) (Q : D → Nat → Prop), Good κ P G H ∧ EnvR κ G P.iv σ env ∧ f env P.n Q ∧ Lk κ P G H Q R
def tT (κ : Kit) (f : FT) : TT := fun σ H R => ∃ (P : Wd) (G : Hp) (env : DEnv) (Q : Bool → Nat → Prop), Good κ P G H ∧ EnvR κ G P.iv σ env ∧ f env P.n Q ∧ LkT κ P G H Q R
def tG (κ : Kit) (sl : List Nat) (φ : FG) : TG := fun v σ H R => ∃ (P : Wd) (G : Hp) (d : D) (env : DEnv) (Q : DEnv → Prop), Good κ P G H ∧ EnvR κ G P.iv σ env ∧ Rep κ G P.iv v d ∧ φ d env Q ∧
  (∀ σ' env', EnvR κ G P.iv σ' env' → (∀ vs : List Nat, (∀ i ∈ sl, i ∈ vs) → wipe σ' vs = wipe σ vs) → Q env' → R σ' H)
theorem DE.can {Y : Cx} (h : DE κ Y e f) : PE Y e (tE κ f) := by
  obtain ⟨t, p, q⟩ := h
  exact ⟨fun pins s σ H R I ⟨P, G, env, Q, g, ev, hf, hR⟩ => p.run pins s σ H R I (q P G H σ env Q R g ev hf hR)⟩
theorem DTs.can {Y : Cx} {ifs : List Expr} (h : DTs κ Y ifs t1) : PTs Y ifs (tT κ t1) := by
  obtain ⟨t, p, q⟩ := h
  exact ⟨fun pins s σ H R I ⟨P, G, env, Q, g, ev, hf, hR⟩ => p.run pins s σ H R I (q P G H σ env Q R g ev hf hR)⟩
theorem DG.can {Y : Cx} {sl : List Nat} {φ : FG} (h : DG κ Y tg sl φ) : PG Y tg (tG κ sl φ) := by
  obtain ⟨t, p, q⟩ := h
  exact ⟨fun pins s σ H v u R I r ⟨P, G, d, env, Q, g, ev, rd, hf, hR⟩ => p.run pins s σ H v u R I r (q P G H v d σ env Q R g ev rd hf hR)⟩
theorem rd_tE : RdE κ f (tE κ f) := fun P G H σ env Q R g ev hf hR => ⟨P, G, env, Q, g, ev, hf, hR⟩
theorem rd_tT : RdT κ t1 (tT κ t1) := fun P G H σ env Q R g ev hf hR => ⟨P, G, env, Q, g, ev, hf, hR⟩
theorem rd_tG {sl : List Nat} {φ : FG} : LiftG κ (tG κ sl φ) sl φ := fun P G H v d σ env Q R g ev r hf hR => ⟨P, G, d, env, Q, g, ev, r, hf, hR⟩
theorem do_comp {iter tg elt : Expr} {ifs : List Expr} {scope : Scope} (own : List (Str × Nat)) {sl : List Nat} {φ : FG} (hc : X.calm = true) (hN : X.N.Nodup) (hi : DI κ X tg iter far) (ok : blkC X.N X.env.scope scope own = true)
    (hg : ∀ (s : Shared) (H : Hp) (C : Addr) (cl : List (Str × Addr)) (fp : List Addr), DG κ (X.blk s H scope (compEnvC scope cl C X.env) fp) tg sl φ)
    (ht : ∀ (s : Shared) (H : Hp) (C : Addr) (cl : List (Str × Addr)) (fp : List Addr), DTs κ (X.blk s H scope (compEnvC scope cl C X.env) fp) ifs t1)
    (he : ∀ (s : Shared) (H : Hp) (C : Addr) (cl : List (Str × Addr)) (fp : List Addr), DE κ (X.blk s H scope (compEnvC scope cl C X.env) fp) elt f)
    (hsl : ∀ i ∈ sl, i ∈ own.map (·.2) := by decide) (hs : ∀ x, foldedSetIterable iter X.env x = pure x := by intro _; rfl) : DO κ X (.ListComp elt [⟨tg, iter, ifs, 0⟩] scope pos) (oComp far φ t1 f (own.map (·.2))) := by
  obtain ⟨w, pw, qw⟩ := hi
  exact ⟨_, PE.lk (pe_lc hc hN pw (blkOk_by ok) (fun s H C cl fp => (hg s H C cl fp).can) (fun s H C cl fp => (ht s H C cl fp).can) (fun s H C cl fp => (he s H C cl fp).can) hs), lc_lift qw rd_tG rd_tT rd_tE hsl⟩
def gSeqN (x : D) (m : Nat) (Q : List D → Nat → Prop) : Prop := match x with
  | .lst xs => Q xs m
  | .tup xs => Q xs m
  | .str s => Q (s.map fun c => .str [c]) m
  | .dct ks _ => Q ks m
  | .dcu ks _ => Q ks m
  | _ => False
theorem isKV_keys : ∀ k : List Key, (k.map kV).all isKV = true
  | [] => rfl
  | .inl _ :: k => by rw [List.map_cons, List.all_cons, isKV_keys k]; rfl
  | .inr _ :: k => by rw [List.map_cons, List.all_cons, isKV_keys k]; rfl
/-- a tuple of keys, whoever made it, is a value -/
theorem key_frz {κ : Kit} {P : Wd} {G H : Hp} {q : Addr} {k : List Key} (g : Good κ P G H) (h : H q = some (.tup (k.map kV))) (hz : k.length ≤ sizeLine) (hk : ∀ j ∈ k, OkK j) : ∃ G2, Grow P G H P G2 H ∧ Good κ P G2 H ∧ Rep κ G2 P.iv (.ref q) (.tup (k.map keyD)) := by
  have hi : P.iv q = none := by
    cases e : P.iv q with
    | none => rfl
    | some t =>
      obtain ⟨_, o, q1, q2⟩ := g.gi q t e
      rw [h] at q1
      cases q1
      have := κ.jk _ _ _ _ q2
      rw [isKT, isKV_keys] at this; cases this
  have rs : ∀ {G2 : Hp} (k : List Key), (∀ j ∈ k, OkK j) → Reps κ G2 P.iv (k.map kV) (k.map keyD) := by
    intro G2 k
    induction k with
    | nil => exact fun _ => .nil
    | cons j k ih =>
      intro hk
      refine .cons ?_ (ih fun x hx => hk x (List.mem_cons_of_mem _ hx))
      have hj := hk j (List.mem_cons_self ..)
      cases j with
      | inl i => exact .int
      | inr x => exact .str (s := x.cps.toList) hj
  cases e : G q with
  | some o =>
    have : o = .tup (k.map kV) := by
      rcases g.gh q o e with w | ⟨_, od, w⟩
      · rw [h] at w; cases w; rfl
      · rw [h] at w; cases w
    subst this
    exact ⟨G, .refl, g, .tup e (by rw [List.length_map]; exact hz) (rs k hk)⟩
  | none => exact ⟨_, Grow.refl.frzK h (isKV_keys k) hi e, g.frz e hi h, .tup upd_same (by rw [List.length_map]; exact hz) (rs k hk)⟩
@[simp] def iSeqN (i : Nat) : FA := fun env n Q => ∃ d, env[i]? = some (some d) ∧ gSeqN d n Q
theorem keysV {k : Key} {G : Hp} {iv : IV} (h : OkK k) : Rep κ G iv (kV k) (keyD k) := by
  cases k with
  | inl i => exact .int
  | inr x => exact .str (s := x.cps.toList) h
theorem di_name {i : Nat} {x : Str} (hN : X.N[i]? = some x) (hv : Vis X.env.scope x) (hd : (x == ("__debug__" : Str)) = false := by decide) (hcd : (x == ("__classdict__" : Str)) = false := by decide) : DI κ X tg (.Name x pos) (iSeqN i) := by
  refine ⟨_, PI.or (pi_any (pe_var hN hv hd hcd)) (pi_keys (pe_var hN hv hd hcd)), fun P G H σ env Q g ev hf => ?_⟩
  obtain ⟨d, he, hq⟩ := hf
  obtain ⟨v, h1, r⟩ := ev.get i d he
  unfold gSeqN at hq
  split at hq
  · cases r with
    | lst h z r => exact .inl fun R hR => .inl ⟨_, h1, .inl ⟨_, rfl, ⟨_, SqL.of (g.gx h rfl)⟩, hR _ P G H _ .refl g (iter_list g h z r) hq⟩⟩
  · cases r with
    | tup h z r => exact .inl fun R hR => .inl ⟨_, h1, .inr (.inl ⟨_, rfl, ⟨_, SqT.of (g.gx h rfl)⟩, hR _ P G H _ .refl g (iter_tup g h z r) hq⟩)⟩
  · cases r with
    | str h => exact .inl fun R hR => .inl ⟨_, h1, .inr (.inr ⟨_, rfl, hR _ P G H _ .refl g (iter_str h) hq⟩)⟩
  · cases r with
    | @dctK a kk us vs h hl z nd r =>
      refine .inr ⟨a, _, h, rfl, fun od H1 hH1 g1 R hR => .inr ⟨_, h1, a, od, rfl, .inl ⟨_, hH1, hR _ _ ⟨by rw [List.length_map]; exact z, fun j P1 G1 H2 ex g2 hS => ⟨fun hj => ?_, fun hj => ?_⟩⟩ hq⟩⟩⟩
      · rw [List.length_map] at hj
        refine ⟨⟨hS, by rw [List.length_zip, ← hl, Nat.min_self]; exact hj⟩, fun v H3 hy => ?_⟩
        obtain ⟨rfl, k, w, e1, rfl⟩ := hy
        have hk : kk[j]? = some k := by
          rw [List.getElem?_zip_eq_some] at e1
          exact e1.1
        exact ⟨G1, keyD k, .refl, g2, by rw [List.getElem?_map, hk]; rfl, keysV (nd.2 k (List.mem_of_getElem? hk))⟩
      · rw [List.length_map] at hj
        exact ⟨hS, by rw [List.length_zip, ← hl, Nat.min_self]; omega⟩
  · cases r with
    | @dctT a kk us vs h hl z nd r =>
      refine .inr ⟨a, _, h, rfl, fun od H1 hH1 g1 R hR => .inr ⟨_, h1, a, od, rfl, .inr ⟨_, hH1, hR _ _ ⟨by rw [List.length_map]; exact z, fun j P1 G1 H2 ex g2 hS => ⟨fun hj => ?_, fun hj => ?_⟩⟩ hq⟩⟩⟩
      · rw [List.length_map] at hj
        refine ⟨⟨hS, by rw [List.length_zip, ← hl, Nat.min_self]; exact hj⟩, fun v H3 hy => ?_⟩
        obtain ⟨rfl, k, w, q, e1, rfl, hqk⟩ := hy
        have hk : kk[j]? = some k := by
          rw [List.getElem?_zip_eq_some] at e1
          exact e1.1
        have hm := nd.2 k (List.mem_of_getElem? hk)
        obtain ⟨G4, gr4, g4, r4⟩ := key_frz g2 hqk hm.1 hm.2
        exact ⟨G4, .tup (k.map keyD), gr4, g4, by rw [List.getElem?_map, hk]; rfl, r4⟩
      · rw [List.length_map] at hj
        exact ⟨hS, by rw [List.length_zip, ← hl, Nat.min_self]; omega⟩
  · exact hq.elim
end
end DL
namespace DL
open PySem PySem.Spec PyProof.Rows L2
/-- a tree of lists, tuples, dicts of this def's own, by their addresses -/
inductive OT where
  | leaf (d : D) | lst (a : Addr) (ts : List OT) | tup (a : Addr) (ts : List OT) | dct (a : Addr) (ks : List D) (ts : List OT) | dcu (a : Addr) (ks : List D) (ts : List OT)
mutual
def OT.view : OT → D
  | .leaf d => d | .lst _ ts => .lst (OT.views ts) | .tup _ ts => .tup (OT.views ts) | .dct _ ks ts => .dct ks (OT.views ts) | .dcu _ ks ts => .dcu ks (OT.views ts)
def OT.views : List OT → List D
  | [] => [] | t :: ts => t.view :: OT.views ts
end
mutual
def OT.own : OT → List Addr
  | .leaf _ => [] | .lst a ts => a :: OT.owns ts | .tup a ts => a :: OT.owns ts | .dct a _ ts => a :: OT.owns ts | .dcu a _ ts => a :: OT.owns ts
def OT.owns : List OT → List Addr
  | [] => [] | t :: ts => t.own ++ OT.owns ts
end
mutual
/-- a list or a dict of its own is in it -/
def OT.mut : OT → Bool
  | .leaf _ => false | .lst _ _ => true | .tup _ ts => OT.muts ts | .dct _ _ _ => true | .dcu _ _ _ => true
def OT.muts : List OT → Bool
  | [] => false | t :: ts => t.mut || OT.muts ts
end
mutual
def OT.rep (κ : Kit) (G : Hp) (iv : IV) (H : Hp) : OT → V → Prop
  | .leaf d, v => Rep κ G iv v d
  | .lst a ts, v => v = .ref a ∧ ∃ vs, H a = some (.lst vs) ∧ vs.length ≤ sizeLine ∧ OT.reps κ G iv H ts vs
  | .tup a ts, v => v = .ref a ∧ OT.muts ts = true ∧ ∃ vs, H a = some (.tup vs) ∧ vs.length ≤ sizeLine ∧ OT.reps κ G iv H ts vs
  | .dct a ks ts, v => v = .ref a ∧ ∃ (kk : List Key) (us : List V), H a = some (.dK (kk.zip us)) ∧ kk.length = us.length ∧ kk.length ≤ sizeLine ∧ OkKs kk ∧ ks = kk.map keyD ∧ OT.reps κ G iv H ts us
  | .dcu a ks ts, v => v = .ref a ∧ ∃ (kk : List (List Key)) (us : List V), H a = some (.dT (kk.zip us)) ∧ kk.length = us.length ∧ kk.length ≤ sizeLine ∧ OkKt kk ∧ ks = (kk.map fun k => D.tup (k.map keyD)) ∧ OT.reps κ G iv H ts us
def OT.reps (κ : Kit) (G : Hp) (iv : IV) (H : Hp) : List OT → List V → Prop
  | [], vs => vs = []
  | t :: ts, vs => ∃ v us, vs = v :: us ∧ t.rep κ G iv H v ∧ OT.reps κ G iv H ts us
end
@[simp] theorem ot_view_leaf (d : D) : (OT.leaf d).view = d := by rw [OT.view]
@[simp] theorem ot_view_lst (a : Addr) (ts : List OT) : (OT.lst a ts).view = .lst (OT.views ts) := by rw [OT.view]
@[simp] theorem ot_view_tup (a : Addr) (ts : List OT) : (OT.tup a ts).view = .tup (OT.views ts) := by rw [OT.view]
@[simp] theorem ot_view_dct (a : Addr) (ks : List D) (ts : List OT) : (OT.dct a ks ts).view = .dct ks (OT.views ts) := by rw [OT.view]
@[simp] theorem ot_view_dcu (a : Addr) (ks : List D) (ts : List OT) : (OT.dcu a ks ts).view = .dcu ks (OT.views ts) := by rw [OT.view]
@[simp] theorem ot_views_nil : OT.views [] = [] := by rw [OT.views]
@[simp] theorem ot_views_cons (t : OT) (ts : List OT) : OT.views (t :: ts) = t.view :: OT.views ts := by rw [OT.views]
section
variable {κ : Kit} {G G' H H' : Hp} {iv iv' : IV}
mutual
theorem OT.rep.mono (hg : ∀ a o, G a = some o → G' a = some o) (hi : ∀ a t, iv a = some t → iv' a = some t) : ∀ {t : OT} {v : V}, (∀ a ∈ t.own, ∀ o, H a = some o → H' a = some o) → OT.rep κ G iv H t v → OT.rep κ G' iv' H' t v
  | .leaf d, v, _, r => by rw [OT.rep] at r ⊢; exact Rep.mono hg hi r
  | .lst a ts, v, h, r => by
    rw [OT.rep] at r ⊢
    rw [OT.own] at h
    obtain ⟨e, vs, h1, h2, h3⟩ := r
    exact ⟨e, vs, h a (List.mem_cons_self ..) _ h1, h2, OT.reps.mono hg hi (fun b hb => h b (List.mem_cons_of_mem _ hb)) h3⟩
  | .tup a ts, v, h, r => by
    rw [OT.rep] at r ⊢
    rw [OT.own] at h
    obtain ⟨e, hm, vs, h1, h2, h3⟩ := r
    exact ⟨e, hm, vs, h a (List.mem_cons_self ..) _ h1, h2, OT.reps.mono hg hi (fun b hb => h b (List.mem_cons_of_mem _ hb)) h3⟩
  | .dct a ks ts, v, h, r => by
    rw [OT.rep] at r ⊢
    rw [OT.own] at h
    obtain ⟨e, kk, us, h1, hl, hz, hn, hk, h3⟩ := r
    exact ⟨e, kk, us, h a (List.mem_cons_self ..) _ h1, hl, hz, hn, hk, OT.reps.mono hg hi (fun b hb => h b (List.mem_cons_of_mem _ hb)) h3⟩
  | .dcu a ks ts, v, h, r => by
    rw [OT.rep] at r ⊢
    rw [OT.own] at h
    obtain ⟨e, kk, us, h1, hl, hz, hn, hk, h3⟩ := r
    exact ⟨e, kk, us, h a (List.mem_cons_self ..) _ h1, hl, hz, hn, hk, OT.reps.mono hg hi (fun b hb => h b (List.mem_cons_of_mem _ hb)) h3⟩
theorem OT.reps.mono (hg : ∀ a o, G a = some o → G' a = some o) (hi : ∀ a t, iv a = some t → iv' a = some t) : ∀ {ts : List OT} {vs : List V}, (∀ a ∈ OT.owns ts, ∀ o, H a = some o → H' a = some o) → OT.reps κ G iv H ts vs → OT.reps κ G' iv' H' ts vs
  | [], vs, _, r => by rw [OT.reps] at r ⊢; exact r
  | t :: ts, vs, h, r => by
    rw [OT.reps] at r ⊢
    rw [OT.owns] at h
    obtain ⟨v, us, e, h1, h2⟩ := r
    exact ⟨v, us, e, OT.rep.mono hg hi (fun b hb => h b (List.mem_append_left _ hb)) h1, OT.reps.mono hg hi (fun b hb => h b (List.mem_append_right _ hb)) h2⟩
end
mutual
theorem OT.rep.noKey : ∀ {t : OT} {v : V}, OT.rep κ G iv H t v → t.mut = true → isKV v = false
  | .leaf d, v, r, h => by rw [OT.mut] at h; cases h
  | .lst a ts, v, r, h => by rw [OT.rep] at r; rw [r.1]; rfl
  | .tup a ts, v, r, h => by rw [OT.rep] at r; rw [r.1]; rfl
  | .dct a ks ts, v, r, h => by rw [OT.rep] at r; rw [r.1]; rfl
  | .dcu a ks ts, v, r, h => by rw [OT.rep] at r; rw [r.1]; rfl
theorem OT.reps.noKey : ∀ {ts : List OT} {vs : List V}, OT.reps κ G iv H ts vs → OT.muts ts = true → vs.all isKV = false
  | [], vs, r, h => by rw [OT.muts] at h; cases h
  | t :: ts, vs, r, h => by
    rw [OT.reps] at r
    rw [OT.muts, Bool.or_eq_true] at h
    obtain ⟨v, us, rfl, h1, h2⟩ := r
    rw [List.all_cons]
    rcases h with h | h
    · rw [OT.rep.noKey h1 h]; rfl
    · rw [OT.reps.noKey h2 h, Bool.and_false]
end
mutual
theorem OT.rep.dom : ∀ {t : OT} {v : V}, OT.rep κ G iv H t v → ∀ a ∈ t.own, ∃ o, H a = some o ∧ ((∃ vs, o = .lst vs) ∨ (∃ vs, o = .tup vs ∧ vs.all isKV = false) ∨ (∃ ks, o = .dK ks) ∨ ∃ ks, o = .dT ks)
  | .leaf d, v, _, a, h => by rw [OT.own] at h; cases h
  | .lst a ts, v, r, b, h => by
    rw [OT.rep] at r
    rw [OT.own] at h
    obtain ⟨e, vs, h1, h2, h3⟩ := r
    rcases List.mem_cons.mp h with rfl | h
    · exact ⟨_, h1, .inl ⟨_, rfl⟩⟩
    · exact OT.reps.dom h3 b h
  | .tup a ts, v, r, b, h => by
    rw [OT.rep] at r
    rw [OT.own] at h
    obtain ⟨e, hm, vs, h1, h2, h3⟩ := r
    rcases List.mem_cons.mp h with rfl | h
    · exact ⟨_, h1, .inr (.inl ⟨_, rfl, OT.reps.noKey h3 hm⟩)⟩
    · exact OT.reps.dom h3 b h
  | .dct a ks ts, v, r, b, h => by
    rw [OT.rep] at r
    rw [OT.own] at h
    obtain ⟨e, kk, us, h1, hl, hz, hn, hk, h3⟩ := r
    rcases List.mem_cons.mp h with rfl | h
    · exact ⟨_, h1, .inr (.inr (.inl ⟨_, rfl⟩))⟩
    · exact OT.reps.dom h3 b h
  | .dcu a ks ts, v, r, b, h => by
    rw [OT.rep] at r
    rw [OT.own] at h
    obtain ⟨e, kk, us, h1, hl, hz, hn, hk, h3⟩ := r
    rcases List.mem_cons.mp h with rfl | h
    · exact ⟨_, h1, .inr (.inr (.inr ⟨_, rfl⟩))⟩
    · exact OT.reps.dom h3 b h
theorem OT.reps.dom : ∀ {ts : List OT} {vs : List V}, OT.reps κ G iv H ts vs → ∀ a ∈ OT.owns ts, ∃ o, H a = some o ∧ ((∃ vs, o = .lst vs) ∨ (∃ vs, o = .tup vs ∧ vs.all isKV = false) ∨ (∃ ks, o = .dK ks) ∨ ∃ ks, o = .dT ks)
  | [], vs, _, a, h => by rw [OT.owns] at h; cases h
  | t :: ts, vs, r, a, h => by
    rw [OT.reps] at r
    rw [OT.owns] at h
    obtain ⟨v, us, e, h1, h2⟩ := r
    rcases List.mem_append.mp h with h | h
    · exact OT.rep.dom h1 a h
    · exact OT.reps.dom h2 a h
end
mutual
theorem OT.rep.seen (hg : ∀ a o, G a = some o → G' a = some o) : ∀ {t : OT} {v : V}, (∀ a ∈ t.own, ∀ o, H a = some o → G' a = some o) → OT.rep κ G iv H t v → Rep κ G' iv v t.view
  | .leaf d, v, _, r => by rw [OT.rep] at r; rw [OT.view]; exact Rep.mono hg (fun _ _ h => h) r
  | .lst a ts, v, h, r => by
    rw [OT.rep] at r; rw [OT.view]
    rw [OT.own] at h
    obtain ⟨e, vs, h1, h2, h3⟩ := r
    subst e
    exact .lst (h a (List.mem_cons_self ..) _ h1) h2 (OT.reps.seen hg (fun b hb => h b (List.mem_cons_of_mem _ hb)) h3)
  | .tup a ts, v, h, r => by
    rw [OT.rep] at r; rw [OT.view]
    rw [OT.own] at h
    obtain ⟨e, hm, vs, h1, h2, h3⟩ := r
    subst e
    exact .tup (h a (List.mem_cons_self ..) _ h1) h2 (OT.reps.seen hg (fun b hb => h b (List.mem_cons_of_mem _ hb)) h3)
  | .dct a ks ts, v, h, r => by
    rw [OT.rep] at r; rw [OT.view]
    rw [OT.own] at h
    obtain ⟨e, kk, us, h1, hl, hz, hn, hk, h3⟩ := r
    subst e hk
    exact .dctK (h a (List.mem_cons_self ..) _ h1) hl hz hn (OT.reps.seen hg (fun b hb => h b (List.mem_cons_of_mem _ hb)) h3)
  | .dcu a ks ts, v, h, r => by
    rw [OT.rep] at r; rw [OT.view]
    rw [OT.own] at h
    obtain ⟨e, kk, us, h1, hl, hz, hn, hk, h3⟩ := r
    subst e hk
    exact .dctT (h a (List.mem_cons_self ..) _ h1) hl hz hn (OT.reps.seen hg (fun b hb => h b (List.mem_cons_of_mem _ hb)) h3)
theorem OT.reps.seen (hg : ∀ a o, G a = some o → G' a = some o) : ∀ {ts : List OT} {vs : List V}, (∀ a ∈ OT.owns ts, ∀ o, H a = some o → G' a = some o) → OT.reps κ G iv H ts vs → Reps κ G' iv vs (OT.views ts)
  | [], vs, _, r => by rw [OT.reps] at r; rw [OT.views, r]; exact .nil
  | t :: ts, vs, h, r => by
    rw [OT.reps] at r; rw [OT.views]
    rw [OT.owns] at h
    obtain ⟨v, us, e, h1, h2⟩ := r
    subst e
    exact .cons (OT.rep.seen hg (fun b hb => h b (List.mem_append_left _ hb)) h1) (OT.reps.seen hg (fun b hb => h b (List.mem_append_right _ hb)) h2)
end
end
/-- what a slot holds: a value; a list, a dict of this def's own; a tree of such -/
inductive Sl where
  | val (d : D) | own (xs : List D) | ownd (ks vs : List D) | tre (t : OT)
def Sl.view : Sl → D
  | .val d => d | .own xs => .lst xs | .ownd ks vs => .dct ks vs | .tre t => t.view
def Sl.hide : Sl → Option D
  | .val d => some d | _ => none
@[simp] theorem view_val (d : D) : (Sl.val d).view = d := rfl
@[simp] theorem view_own (d : List D) : (Sl.own d).view = .lst d := rfl
@[simp] theorem view_ownd (d e : List D) : (Sl.ownd d e).view = .dct d e := rfl
@[simp] theorem view_tre (t : OT) : (Sl.tre t).view = t.view := rfl
@[simp] theorem hide_val (d : D) : (Sl.val d).hide = some d := rfl
@[simp] theorem hide_own (d : List D) : (Sl.own d).hide = none := rfl
@[simp] theorem hide_ownd (d e : List D) : (Sl.ownd d e).hide = none := rfl
@[simp] theorem hide_tre (t : OT) : (Sl.tre t).hide = none := rfl
abbrev SEnv := List (Option Sl)
@[simp] def view (env : SEnv) : DEnv := env.map fun o => o.map Sl.view
@[simp] def hide (env : SEnv) : DEnv := env.map fun o => o.bind Sl.hide
/-- a private list, a private dict -/
def OwnL (κ : Kit) (H0 : Hp) (P : Wd) (G H : Hp) (a : Addr) (xs : List D) : Prop := ∃ vs, H a = some (.lst vs) ∧ vs.length ≤ sizeLine ∧ H0 a = none ∧ G a = none ∧ P.iv a = none ∧ Reps κ G P.iv vs xs
def OwnD (κ : Kit) (H0 : Hp) (P : Wd) (G H : Hp) (a : Addr) (ks vs : List D) : Prop := ∃ (kk : List Key) (us : List V), H a = some (.dK (kk.zip us)) ∧ kk.length = us.length ∧ kk.length ≤ sizeLine ∧ OkKs kk ∧ ks = kk.map keyD ∧ H0 a = none ∧ G a = none ∧ P.iv a = none ∧ Reps κ G P.iv us vs
def OwnT (κ : Kit) (H0 : Hp) (P : Wd) (G H : Hp) (v : V) (t : OT) : Prop := t.rep κ G P.iv H v ∧ t.own.Nodup ∧ ∀ a ∈ t.own, H0 a = none ∧ G a = none ∧ P.iv a = none
/-- what stands for a slot's data -/
def SlR (κ : Kit) (H0 : Hp) (P : Wd) (G H : Hp) (v : V) : Sl → Prop
  | .val d => Rep κ G P.iv v d
  | .own xs => ∃ a, v = .ref a ∧ OwnL κ H0 P G H a xs
  | .ownd ks vs => ∃ a, v = .ref a ∧ OwnD κ H0 P G H a ks vs
  | .tre t => OwnT κ H0 P G H v t
/-- a slot's own addresses -/
def Holds : Sl → V → Addr → Prop
  | .val _, _, _ => False
  | .own _, v, a => v = .ref a
  | .ownd _ _, v, a => v = .ref a
  | .tre t, _, a => a ∈ t.own
structure SEnvR (κ : Kit) (H0 : Hp) (P : Wd) (G H : Hp) (σ : L2.St) (env : SEnv) : Prop where
  len : env.length = σ.length
  get : ∀ (i : Nat) (s : Sl), env[i]? = some (some s) → ∃ v : V, σ[i]? = some (some v) ∧ SlR κ H0 P G H v s
  apart : ∀ (i j : Nat) (s t : Sl) (v w : V) (a : Addr), i ≠ j → env[i]? = some (some s) → env[j]? = some (some t) → σ[i]? = some (some v) → σ[j]? = some (some w) → Holds s v a → Holds t w a → False
section
variable {κ : Kit} {H0 : Hp} {P P' : Wd} {G G' H H' : Hp} {σ : L2.St} {env : SEnv} {a : Addr} {xs ks vs : List D} {v : V} {s : Sl}
/-- what holds of a slot's own addresses -/
theorem SlR.held (r : SlR κ H0 P G H v s) (h : Holds s v a) : H0 a = none ∧ G a = none ∧ P.iv a = none ∧ ∃ o, H a = some o := by
  cases s with
  | val d => exact h.elim
  | own xs =>
    obtain ⟨b, e, vs, h1, h2, h3, h4, h5, h6⟩ := r
    rw [e] at h
    cases h
    exact ⟨h3, h4, h5, _, h1⟩
  | ownd ks vs =>
    obtain ⟨b, e, kk, us, h1, hl, hz, hn, hk, h3, h4, h5, h6⟩ := r
    rw [e] at h
    cases h
    exact ⟨h3, h4, h5, _, h1⟩
  | tre t =>
    obtain ⟨h1, h2, h3⟩ := r
    obtain ⟨q1, q2, q3⟩ := h3 a h
    obtain ⟨o, ho, _⟩ := h1.dom a h
    exact ⟨q1, q2, q3, o, ho⟩
theorem SlR.heldO (r : SlR κ H0 P G H v s) (h : Holds s v a) : ∃ o, H a = some o ∧ isKT o = false := by
  cases s with
  | val d => exact h.elim
  | own xs =>
    obtain ⟨b, e, vs, h1, h2, h3, h4, h5, h6⟩ := r
    rw [e] at h
    cases h
    exact ⟨_, h1, rfl⟩
  | ownd ks vs =>
    obtain ⟨b, e, kk, us, h1, hl, hz, hn, hk, h3, h4, h5, h6⟩ := r
    rw [e] at h
    cases h
    exact ⟨_, h1, rfl⟩
  | tre t =>
    obtain ⟨h1, h2, h3⟩ := r
    obtain ⟨o, ho, hk⟩ := h1.dom a h
    rcases hk with ⟨vs, rfl⟩ | ⟨vs, rfl, hn⟩ | ⟨ks, rfl⟩ | ⟨ks, rfl⟩
    · exact ⟨_, ho, rfl⟩
    · exact ⟨_, ho, hn⟩
    · exact ⟨_, ho, rfl⟩
    · exact ⟨_, ho, rfl⟩
/-- a slot's data in another world that keeps its own part -/
theorem SlR.to {H1 : Hp} (r : SlR κ H0 P G H v s) (hg : ∀ b o, G b = some o → G' b = some o) (hi : ∀ b t, P.iv b = some t → P'.iv b = some t) (h : ∀ b, Holds s v b → (∀ o, H b = some o → H' b = some o) ∧ H1 b = none ∧ G' b = none ∧ P'.iv b = none) : SlR κ H1 P' G' H' v s := by
  cases s with
  | val d => exact Rep.mono hg hi r
  | own xs =>
    obtain ⟨b, e, vs, h1, h2, h3, h4, h5, h6⟩ := r
    obtain ⟨k1, k2, k3, k4⟩ := h b e
    exact ⟨b, e, vs, k1 _ h1, h2, k2, k3, k4, Reps.mono hg hi h6⟩
  | ownd ks vs =>
    obtain ⟨b, e, kk, us, h1, hl, hz, hn, hk, h3, h4, h5, h6⟩ := r
    obtain ⟨k1, k2, k3, k4⟩ := h b e
    exact ⟨b, e, kk, us, k1 _ h1, hl, hz, hn, hk, k2, k3, k4, Reps.mono hg hi h6⟩
  | tre t =>
    obtain ⟨h1, h2, h3⟩ := r
    exact ⟨h1.mono hg hi fun b hb o => (h b hb).1 o, h2, fun b hb => (h b hb).2⟩
theorem OwnL.grow (o : OwnL κ H0 P G H a xs) (gr : Grow P G H P' G' H') : OwnL κ H0 P' G' H' a xs := by
  obtain ⟨vs, h1, h2, h3, h4, h5, h6⟩ := o
  obtain ⟨f1, f2, _⟩ := gr.fresh a _ h1
  have f3 := gr.same h1
  exact ⟨vs, gr.h a _ h1 h5, h2, h3, by rw [f3]; exact h4, by rw [f1]; exact h5, gr.reps h6⟩
theorem OwnD.grow (o : OwnD κ H0 P G H a ks vs) (gr : Grow P G H P' G' H') : OwnD κ H0 P' G' H' a ks vs := by
  obtain ⟨kk, us, h1, hl, hz, hn, hk, h3, h4, h5, h6⟩ := o
  obtain ⟨f1, f2, _⟩ := gr.fresh a _ h1
  have f3 := gr.same h1
  exact ⟨kk, us, gr.h a _ h1 h5, hl, hz, hn, hk, h3, by rw [f3]; exact h4, by rw [f1]; exact h5, gr.reps h6⟩
theorem SlR.grow (o : SlR κ H0 P G H v s) (gr : Grow P G H P' G' H') : SlR κ H0 P' G' H' v s :=
  o.to gr.g gr.iv fun b hb => by
    obtain ⟨h1, h2, h3, _⟩ := o.held hb
    obtain ⟨u, h4, hk⟩ := o.heldO hb
    obtain ⟨f1, f2, _⟩ := gr.fresh b u h4
    have f3 := gr.same h4 hk
    exact ⟨fun w hw => gr.h b w hw h3, h1, by rw [f3]; exact h2, by rw [f1]; exact h3⟩
theorem SEnvR.grow (ev : SEnvR κ H0 P G H σ env) (gr : Grow P G H P' G' H') : SEnvR κ H0 P' G' H' σ env :=
  ⟨ev.len, fun i s h => by obtain ⟨v, h1, h2⟩ := ev.get i s h; exact ⟨v, h1, h2.grow gr⟩, ev.apart⟩
theorem SEnvR.hide (ev : SEnvR κ H0 P G H σ env) : EnvR κ G P.iv σ (hide env) :=
  ⟨by unfold DL.hide; rw [List.length_map]; exact ev.len, fun i d h => by
    unfold DL.hide at h
    rw [List.getElem?_map] at h
    cases e : env[i]? with
    | none => rw [e] at h; cases h
    | some o =>
      rw [e] at h
      cases o with
      | none => simp at h
      | some s =>
        cases s with
        | val d' =>
          simp [Sl.hide] at h
          subst h
          exact ev.get i _ e
        | own xs => simp [Sl.hide] at h
        | ownd ks vs => simp [Sl.hide] at h
        | tre t => simp [Sl.hide] at h⟩
/-- no slot's own list -/
def Priv (env : SEnv) (σ : L2.St) (a : Addr) : Prop := ∃ (i : Nat) (s : Sl) (v : V), env[i]? = some (some s) ∧ σ[i]? = some (some v) ∧ Holds s v a
open Classical in
/-- the frozen part, the slots' own lists lent -/
noncomputable def lent (env : SEnv) (σ : L2.St) (G H : Hp) : Hp := fun a => if Priv env σ a then H a else G a
theorem SEnvR.priv (ev : SEnvR κ H0 P G H σ env) (h : Priv env σ a) : H0 a = none ∧ G a = none ∧ P.iv a = none ∧ ∃ o, H a = some o := by
  obtain ⟨i, s, v, h1, h2, h3⟩ := h
  obtain ⟨w, q1, q2⟩ := ev.get i s h1
  rw [h2] at q1
  cases q1
  exact q2.held h3
theorem lent_sub (ev : SEnvR κ H0 P G H σ env) : ∀ a o, G a = some o → lent env σ G H a = some o := fun a o h => by
  unfold lent
  by_cases hp : Priv env σ a
  · rw [(ev.priv hp).2.1] at h; cases h
  · rw [if_neg hp]; exact h
theorem lent_good (ev : SEnvR κ H0 P G H σ env) (g : Good κ P G H) : Good κ P (lent env σ G H) H where
  pg := fun a o h => lent_sub ev a o (g.pg a o h)
  fx := g.fx
  gh := fun a o h => by
    unfold lent at h
    by_cases hp : Priv env σ a
    · rw [if_pos hp] at h; exact .inl h
    · rw [if_neg hp] at h; exact g.gh a o h
  gi := fun a t h => by
    obtain ⟨q1, o, q2, q3⟩ := g.gi a t h
    refine ⟨?_, o, q2, q3⟩
    unfold lent
    rw [if_neg fun hp => by rw [(ev.priv hp).2.2.1] at h; cases h]
    exact q1
theorem lent_priv (h : Priv env σ a) : lent env σ G H a = H a := by unfold lent; rw [if_pos h]
theorem SEnvR.view (ev : SEnvR κ H0 P G H σ env) : EnvR κ (lent env σ G H) P.iv σ (view env) :=
  ⟨by unfold DL.view; rw [List.length_map]; exact ev.len, fun i d h => by
    unfold DL.view at h
    rw [List.getElem?_map] at h
    cases e : env[i]? with
    | none => rw [e] at h; cases h
    | some o =>
      rw [e] at h
      cases o with
      | none => simp at h
      | some s =>
        simp at h
        subst h
        obtain ⟨v, q1, q2⟩ := ev.get i s e
        refine ⟨v, q1, ?_⟩
        cases s with
        | val d => exact Rep.mono (lent_sub ev) (fun _ _ h => h) q2
        | own xs =>
          obtain ⟨a, ea, vs, h1, h2, h3, h4, h5, h6⟩ := q2
          subst ea
          exact .lst (by rw [lent_priv ⟨i, _, _, e, q1, rfl⟩]; exact h1) h2 (Reps.mono (lent_sub ev) (fun _ _ h => h) h6)
        | ownd ks vs =>
          obtain ⟨a, ea, kk, us, h1, hl, hz, hn, hk, h3, h4, h5, h6⟩ := q2
          subst ea
          subst hk
          exact .dctK (by rw [lent_priv ⟨i, _, _, e, q1, rfl⟩]; exact h1) hl hz hn (Reps.mono (lent_sub ev) (fun _ _ h => h) h6)
        | tre t =>
          exact q2.1.seen (lent_sub ev) fun a ha o ho => by rw [lent_priv ⟨i, _, _, e, q1, ha⟩]; exact ho⟩
mutual
def treeD : D → Bool
  | .non => true | .bl _ => true | .int _ => true | .str _ => true
  | .tup xs => treeDs xs | .obj _ fs => treeDs fs | .box _ _ => true
  | .lst _ => false | .dct _ _ => false | .dcu _ _ => false | .scr _ => false | .ati _ _ => false
def treeDs : List D → Bool
  | [] => true
  | d :: ds => treeD d && treeDs ds
end
theorem treeDs_all : ∀ ds : List D, treeDs ds = ds.all treeD
  | [] => rfl
  | d :: ds => by rw [treeDs, treeDs_all ds, List.all_cons]
@[simp] theorem treeD_non : treeD .non = true := by rw [treeD]
@[simp] theorem treeD_bl (b : Bool) : treeD (.bl b) = true := by rw [treeD]
@[simp] theorem treeD_int (i : Int) : treeD (.int i) = true := by rw [treeD]
@[simp] theorem treeD_str (s : List Nat) : treeD (.str s) = true := by rw [treeD]
@[simp] theorem treeD_tup (s : List D) : treeD (.tup s) = s.all treeD := by rw [treeD, treeDs_all]
@[simp] theorem treeD_obj (c : Nat) (s : List D) : treeD (.obj c s) = s.all treeD := by rw [treeD, treeDs_all]
@[simp] theorem treeD_box (c : Nat) (s : List D) : treeD (.box c s) = true := by rw [treeD]
@[simp] theorem treeD_lst (s : List D) : treeD (.lst s) = false := by rw [treeD]
@[simp] theorem treeD_dct (s t : List D) : treeD (.dct s t) = false := by rw [treeD]
open Classical in
/-- the frozen part behind a loan -/
noncomputable def back (env : SEnv) (σ : L2.St) (G' : Hp) : Hp := fun a => if Priv env σ a then none else G' a
mutual
/-- what holds a list of its own is no tree -/
theorem OT.rep.noTree {iv iv2 : IV} {L : Hp} : ∀ {t : OT} {v : V} {d : D}, OT.rep κ G iv H t v → (∀ a ∈ t.own, ∀ o, H a = some o → L a = some o) → t.mut = true → Rep κ L iv2 v d → treeD d = true → (∀ a ∈ t.own, iv2 a = none) → False
  | .leaf _, _, _, _, _, hm, _, _, _ => by rw [OT.mut] at hm; cases hm
  | .lst a ts, v, d, r, h, _, rd, td, hi => by
    rw [OT.rep] at r
    obtain ⟨e, vs, h1, h2, h3⟩ := r
    subst e
    have hL := h a (by rw [OT.own]; exact List.mem_cons_self ..) _ h1
    have hi := hi a (by rw [OT.own]; exact List.mem_cons_self ..)
    cases rd with
    | lst => rw [treeD] at td; cases td
    | tup k => rw [hL] at k; cases k
    | dctK => rw [treeD] at td; cases td
    | dctT => rw [treeD] at td; cases td
    | obj hc k => rw [hL] at k; cases k
    | box k => rw [hi] at k; cases k
    | scr => rw [treeD] at td; cases td
    | ati => rw [treeD] at td; cases td
  | .dct a ks ts, v, d, r, h, _, rd, td, hi => by
    rw [OT.rep] at r
    obtain ⟨e, kk, us, h1, _⟩ := r
    subst e
    have hL := h a (by rw [OT.own]; exact List.mem_cons_self ..) _ h1
    have hi := hi a (by rw [OT.own]; exact List.mem_cons_self ..)
    cases rd with
    | lst => rw [treeD] at td; cases td
    | tup k => rw [hL] at k; cases k
    | dctK => rw [treeD] at td; cases td
    | dctT => rw [treeD] at td; cases td
    | obj hc k => rw [hL] at k; cases k
    | box k => rw [hi] at k; cases k
    | scr => rw [treeD] at td; cases td
    | ati => rw [treeD] at td; cases td
  | .dcu a ks ts, v, d, r, h, _, rd, td, hi => by
    rw [OT.rep] at r
    obtain ⟨e, kk, us, h1, _⟩ := r
    subst e
    have hL := h a (by rw [OT.own]; exact List.mem_cons_self ..) _ h1
    have hi := hi a (by rw [OT.own]; exact List.mem_cons_self ..)
    cases rd with
    | lst => rw [treeD] at td; cases td
    | tup k => rw [hL] at k; cases k
    | dctK => rw [treeD] at td; cases td
    | dctT => rw [treeD] at td; cases td
    | obj hc k => rw [hL] at k; cases k
    | box k => rw [hi] at k; cases k
    | scr => rw [treeD] at td; cases td
    | ati => rw [treeD] at td; cases td
  | .tup a ts, v, d, r, h, hm, rd, td, hi => by
    rw [OT.rep] at r
    obtain ⟨e, hm2, vs, h1, h2, h3⟩ := r
    subst e
    rw [OT.own] at h hi
    have hL := h a (List.mem_cons_self ..) _ h1
    have hia := hi a (List.mem_cons_self ..)
    cases rd with
    | lst => rw [treeD] at td; cases td
    | tup k z rs =>
      rw [hL] at k
      cases k
      rw [treeD] at td
      exact OT.reps.noTree h3 (fun b hb => h b (List.mem_cons_of_mem _ hb)) hm2 rs td fun b hb => hi b (List.mem_cons_of_mem _ hb)
    | dctK => rw [treeD] at td; cases td
    | dctT => rw [treeD] at td; cases td
    | obj hc k => rw [hL] at k; cases k
    | box k => rw [hia] at k; cases k
    | scr => rw [treeD] at td; cases td
    | ati => rw [treeD] at td; cases td
theorem OT.reps.noTree {iv iv2 : IV} {L : Hp} : ∀ {ts : List OT} {vs : List V} {ds : List D}, OT.reps κ G iv H ts vs → (∀ a ∈ OT.owns ts, ∀ o, H a = some o → L a = some o) → OT.muts ts = true → Reps κ L iv2 vs ds → treeDs ds = true → (∀ a ∈ OT.owns ts, iv2 a = none) → False
  | [], _, _, _, _, hm, _, _, _ => by rw [OT.muts] at hm; cases hm
  | t :: ts, vs, ds, r, h, hm, rd, td, hi => by
    rw [OT.reps] at r
    obtain ⟨v, us, e, h1, h2⟩ := r
    subst e
    rw [OT.owns] at h hi
    rw [OT.muts, Bool.or_eq_true] at hm
    cases rd with
    | cons r1 r2 =>
      rw [treeDs, Bool.and_eq_true] at td
      rcases hm with hm | hm
      · exact OT.rep.noTree h1 (fun b hb => h b (List.mem_append_left _ hb)) hm r1 td.1 fun b hb => hi b (List.mem_append_left _ hb)
      · exact OT.reps.noTree h2 (fun b hb => h b (List.mem_append_right _ hb)) hm r2 td.2 fun b hb => hi b (List.mem_append_right _ hb)
end
mutual
/-- each own tuple in a tree holds a list -/
theorem OT.rep.tups {iv iv2 : IV} {L : Hp} : ∀ {t : OT} {v : V}, OT.rep κ G iv H t v → (∀ a ∈ t.own, ∀ o, H a = some o → L a = some o) → (∀ a ∈ t.own, iv2 a = none) → ∀ a ∈ t.own, ∀ vs ds, H a = some (.tup vs) → Reps κ L iv2 vs ds → treeDs ds = true → False
  | .leaf _, _, _, _, _, a, ha => by rw [OT.own] at ha; cases ha
  | .lst b ts, v, r, h, hi, a, ha => by
    rw [OT.rep] at r
    obtain ⟨e, vs, h1, h2, h3⟩ := r
    rw [OT.own] at h hi ha
    rcases List.mem_cons.mp ha with rfl | ha
    · intro vs' ds e; rw [h1] at e; cases e
    · exact OT.reps.tups h3 (fun b hb => h b (List.mem_cons_of_mem _ hb)) (fun b hb => hi b (List.mem_cons_of_mem _ hb)) a ha
  | .dct b ks ts, v, r, h, hi, a, ha => by
    rw [OT.rep] at r
    obtain ⟨e, kk, us, h1, hl, hz, hn, hk, h3⟩ := r
    rw [OT.own] at h hi ha
    rcases List.mem_cons.mp ha with rfl | ha
    · intro vs' ds e; rw [h1] at e; cases e
    · exact OT.reps.tups h3 (fun b hb => h b (List.mem_cons_of_mem _ hb)) (fun b hb => hi b (List.mem_cons_of_mem _ hb)) a ha
  | .dcu b ks ts, v, r, h, hi, a, ha => by
    rw [OT.rep] at r
    obtain ⟨e, kk, us, h1, hl, hz, hn, hk, h3⟩ := r
    rw [OT.own] at h hi ha
    rcases List.mem_cons.mp ha with rfl | ha
    · intro vs' ds e; rw [h1] at e; cases e
    · exact OT.reps.tups h3 (fun b hb => h b (List.mem_cons_of_mem _ hb)) (fun b hb => hi b (List.mem_cons_of_mem _ hb)) a ha
  | .tup b ts, v, r, h, hi, a, ha => by
    rw [OT.rep] at r
    obtain ⟨e, hm2, vs, h1, h2, h3⟩ := r
    rw [OT.own] at h hi ha
    rcases List.mem_cons.mp ha with rfl | ha
    · intro vs' ds e rs td
      rw [h1] at e; cases e
      exact OT.reps.noTree h3 (fun b hb => h b (List.mem_cons_of_mem _ hb)) hm2 rs td fun b hb => hi b (List.mem_cons_of_mem _ hb)
    · exact OT.reps.tups h3 (fun b hb => h b (List.mem_cons_of_mem _ hb)) (fun b hb => hi b (List.mem_cons_of_mem _ hb)) a ha
theorem OT.reps.tups {iv iv2 : IV} {L : Hp} : ∀ {ts : List OT} {vs : List V}, OT.reps κ G iv H ts vs → (∀ a ∈ OT.owns ts, ∀ o, H a = some o → L a = some o) → (∀ a ∈ OT.owns ts, iv2 a = none) → ∀ a ∈ OT.owns ts, ∀ vs ds, H a = some (.tup vs) → Reps κ L iv2 vs ds → treeDs ds = true → False
  | [], _, _, _, _, a, ha => by rw [OT.owns] at ha; cases ha
  | t :: ts, vs, r, h, hi, a, ha => by
    rw [OT.reps] at r
    obtain ⟨v, us, e, h1, h2⟩ := r
    rw [OT.owns] at h hi ha
    rcases List.mem_append.mp ha with ha | ha
    · exact OT.rep.tups h1 (fun b hb => h b (List.mem_append_left _ hb)) (fun b hb => hi b (List.mem_append_left _ hb)) a ha
    · exact OT.reps.tups h2 (fun b hb => h b (List.mem_append_right _ hb)) (fun b hb => hi b (List.mem_append_right _ hb)) a ha
end
theorem SEnvR.privO (ev : SEnvR κ H0 P G H σ env) (h : Priv env σ a) : ∃ o, H a = some o ∧ ((∃ vs, o = .lst vs) ∨ (∃ vs, o = .tup vs ∧ vs.all isKV = false) ∨ (∃ ks, o = .dK ks) ∨ ∃ ks, o = .dT ks) := by
  obtain ⟨i, s, v, h1, h2, h3⟩ := h
  obtain ⟨w, q1, q2⟩ := ev.get i s h1
  rw [h2] at q1
  cases q1
  cases s with
  | val d => exact h3.elim
  | own xs =>
    obtain ⟨b, e, vs, k1, _⟩ := q2
    rw [e] at h3
    cases h3
    exact ⟨_, k1, .inl ⟨_, rfl⟩⟩
  | ownd ks vs =>
    obtain ⟨b, e, kk, us, k1, _⟩ := q2
    rw [e] at h3
    cases h3
    exact ⟨_, k1, .inr (.inr (.inl ⟨_, rfl⟩))⟩
  | tre t => exact q2.1.dom a h3
theorem SEnvR.privT (ev : SEnvR κ H0 P G H σ env) (h : Priv env σ a) {L : Hp} {iv2 : IV} (hL : ∀ b, Priv env σ b → ∀ o, H b = some o → L b = some o) (hi : ∀ b, Priv env σ b → iv2 b = none) : ∀ vs ds, H a = some (.tup vs) → Reps κ L iv2 vs ds → treeDs ds = true → False := by
  obtain ⟨i, s, v, h1, h2, h3⟩ := h
  obtain ⟨w, q1, q2⟩ := ev.get i s h1
  rw [h2] at q1
  cases q1
  cases s with
  | val d => exact h3.elim
  | own xs =>
    obtain ⟨b, e, vs, k1, _⟩ := q2
    rw [e] at h3
    cases h3
    intro vs ds e; rw [k1] at e; cases e
  | ownd ks vs =>
    obtain ⟨b, e, kk, us, k1, _⟩ := q2
    rw [e] at h3
    cases h3
    intro vs ds e; rw [k1] at e; cases e
  | tre t => exact OT.rep.tups q2.1 (fun b hb => hL b ⟨i, _, _, h1, h2, hb⟩) (fun b hb => hi b ⟨i, _, _, h1, h2, hb⟩) a h3
theorem back_of (ev : SEnvR κ H0 P G H σ env) (gr : Grow P (lent env σ G H) H P' G' H') {o : HO} (h : G' a = some o) (h1 : ∀ vs, o ≠ .lst vs) (h2 : ∀ ks, o ≠ .dK ks) (h3 : ∀ vs, o ≠ .tup vs) (h4 : ∀ ks, o ≠ .dT ks) : back env σ G' a = some o := by
  unfold back
  by_cases hp : Priv env σ a
  · exfalso
    have hl : lent env σ G H a = H a := by unfold lent; rw [if_pos hp]
    obtain ⟨u, hu, hk⟩ := ev.privO hp
    have := gr.g a _ (hl.trans hu)
    rw [h] at this
    cases this
    rcases hk with ⟨vs, e⟩ | ⟨vs, e, _⟩ | ⟨ks, e⟩ | ⟨ks, e⟩
    · exact h1 vs e
    · exact h3 vs e
    · exact h2 ks e
    · exact h4 ks e
  · rw [if_neg hp]; exact h
theorem back_tup (ev : SEnvR κ H0 P G H σ env) (gr : Grow P (lent env σ G H) H P' G' H') {iv2 : IV} (hi : ∀ b, Priv env σ b → iv2 b = none) {us : List V} {ds : List D} (h : G' a = some (.tup us)) (r : Reps κ G' iv2 us ds) (t : treeDs ds = true) : back env σ G' a = some (.tup us) := by
  unfold back
  by_cases hp : Priv env σ a
  · exfalso
    have hL : ∀ b, Priv env σ b → ∀ o, H b = some o → G' b = some o := fun b hb o ho => gr.g b o (by unfold lent; rw [if_pos hb]; exact ho)
    obtain ⟨u, hu, _⟩ := ev.privO hp
    have e := hL a hp u hu
    rw [h] at e
    cases e
    exact ev.privT hp hL hi us ds hu r t
  · rw [if_neg hp]; exact h
section
variable {P0 : Wd} {iv : IV} (ev : SEnvR κ H0 P G H σ env) (gr : Grow P (lent env σ G H) H P' G' H') (hi : ∀ b, Priv env σ b → iv b = none)
include ev gr hi
mutual
theorem Rep.tree : ∀ {v : V} {d : D}, Rep κ G' iv v d → treeD d = true → Rep κ (back env σ G') iv v d
  | _, _, .non, _ => .non
  | _, _, .bl, _ => .bl
  | _, _, .int, _ => .int
  | _, _, .str h, _ => .str h
  | _, _, .tup h z r, t => .tup (back_tup ev gr hi h r (by rw [treeD] at t; exact t)) z (Reps.tree r (by rw [treeD] at t; exact t))
  | _, _, .obj hc h hl r, t => .obj hc (back_of ev gr h (fun _ e => nomatch e) (fun _ e => nomatch e) (fun _ e => nomatch e) (fun _ e => nomatch e)) hl (Reps.tree r (by rw [treeD] at t; exact t))
  | _, _, .box h, _ => .box h
  | _, _, .lst _ _ _, t => by rw [treeD] at t; cases t
  | _, _, .dctK _ _ _ _ _, t => by rw [treeD] at t; cases t
  | _, _, .dctT _ _ _ _ _, t => by rw [treeD] at t; cases t
  | _, _, .scr _ _, t => by rw [treeD] at t; cases t
  | _, _, .ati _, t => by rw [treeD] at t; cases t
theorem Reps.tree : ∀ {vs : List V} {ds : List D}, Reps κ G' iv vs ds → treeDs ds = true → Reps κ (back env σ G') iv vs ds
  | _, _, .nil, _ => .nil
  | _, _, .cons r t, h => .cons (Rep.tree r (by rw [treeDs, Bool.and_eq_true] at h; exact h.1)) (Reps.tree t (by rw [treeDs, Bool.and_eq_true] at h; exact h.2))
end
end
theorem priv_iv (ev : SEnvR κ H0 P G H σ env) (gr : Grow P (lent env σ G H) H P' G' H') : ∀ b, Priv env σ b → P'.iv b = none := fun b hb => by
  obtain ⟨_, _, h3, o, ho⟩ := ev.priv hb
  rw [(gr.fresh b o ho).1]; exact h3
theorem SEnvR.privK (ev : SEnvR κ H0 P G H σ env) (h : Priv env σ a) : ∃ o, H a = some o ∧ isKT o = false := by
  obtain ⟨i, s, v, h1, h2, h3⟩ := h
  obtain ⟨w, q1, q2⟩ := ev.get i s h1
  rw [h2] at q1
  cases q1
  exact q2.heldO h3
theorem back_grow (ev : SEnvR κ H0 P G H σ env) (g : Good κ P G H) (gr : Grow P (lent env σ G H) H P' G' H') (g' : Good κ P' G' H') : Grow P G H P' (back env σ G') H' ∧ Good κ P' (back env σ G') H' := by
  have hsub : ∀ a o, back env σ G' a = some o → G' a = some o := fun a o h => by
    unfold back at h
    by_cases hp : Priv env σ a
    · rw [if_pos hp] at h; cases h
    · rw [if_neg hp] at h; exact h
  refine ⟨⟨gr.fz, gr.iv, gr.n, fun a o h => ?_, gr.h, gr.dom, fun a o h => ?_⟩, ⟨fun a o h => ?_, fun a o h => g'.gh a o (hsub a o h), fun a t h => ?_, g'.fx⟩⟩
  · unfold back
    rw [if_neg fun hp => by rw [(ev.priv hp).2.1] at h; cases h]
    exact gr.g a o (lent_sub ev a o h)
  · obtain ⟨f1, f2, f3⟩ := gr.fresh a o h
    refine ⟨f1, f2, ?_⟩
    unfold back
    by_cases hp : Priv env σ a
    · rw [if_pos hp, (ev.priv hp).2.1]; exact .inl rfl
    · rw [if_neg hp]
      have e : lent env σ G H a = G a := by unfold lent; rw [if_neg hp]
      rw [e] at f3; exact f3
  · unfold back
    rw [if_neg fun hp => by
      obtain ⟨_, q2, _, _⟩ := ev.priv hp
      obtain ⟨o', q4, hk⟩ := ev.privK hp
      rw [(gr.fresh a o' q4).2.1.same hk] at h
      rw [g.pg a o h] at q2; cases q2]
    exact g'.pg a o h
  · obtain ⟨q1, o, q2, q3⟩ := g'.gi a t h
    refine ⟨?_, o, q2, q3⟩
    cases e : back env σ G' a with
    | none => rfl
    | some u => rw [hsub a u e] at q1; cases q1
end
end DL
namespace DL
open PySem PySem.Spec PyProof.Rows L2
structure DEnds where
  nx : SEnv → Nat → Prop
  rt : SEnv → Sl → Nat → Prop
  bk : SEnv → Nat → Prop := fun _ _ => False
  ct : SEnv → Nat → Prop := fun _ _ => False
abbrev FS := DEnds → SEnv → Nat → Prop
abbrev OkN (κ : Kit) (P0 : Wd) (G0 H0 : Hp) (n : SEnv → Nat → Prop) (e : L2.St → Hp → Prop) : Prop := ∀ P G H σ env, Grow P0 G0 H0 P G H → Good κ P G H → SEnvR κ H0 P G H σ env → n env P.n → e σ H
structure EndsOk (κ : Kit) (P0 : Wd) (G0 H0 : Hp) (D : DEnds) (E : Ends) : Prop where
  nx : OkN κ P0 G0 H0 D.nx E.nx
  rt : ∀ v s P G H σ env, Grow P0 G0 H0 P G H → Good κ P G H → SEnvR κ H0 P G H σ env → SlR κ H0 P G H v s → (∀ a, Holds s v a → ¬ Priv env σ a) → D.rt env s P.n → E.rt v H
  bk : OkN κ P0 G0 H0 D.bk E.bk
  ct : OkN κ P0 G0 H0 D.ct E.ct
abbrev RdS (κ : Kit) (f : FS) (t : TS) : Prop := ∀ (P0 : Wd) (G0 H0 : Hp) (P : Wd) (G H : Hp) (σ : L2.St) (env : SEnv) (D : DEnds) (E : Ends), Grow P0 G0 H0 P G H → Good κ P G H → SEnvR κ H0 P G H σ env → f D env P.n → EndsOk κ P0 G0 H0 D E → t E σ H
def D1 (κ : Kit) (X : Cx) (st : Stmt) (f : FS) : Prop := ∃ t, PS X st t ∧ RdS κ f t
def DS (κ : Kit) (X : Cx) (st : List Stmt) (f : FS) : Prop := ∃ t, PSs X st t ∧ RdS κ f t
section
variable {κ : Kit} {X : Cx} {H0 : Hp} {P : Wd} {G H : Hp} {σ : L2.St} {env : SEnv} {e : Expr} {st : Stmt} {sts : List Stmt} {f : FE} {fo : FA} {ft : FT} {s1 s2 : FS} {te : TE} {tt : TT} {pos : Pos} {es : List Expr} {far : FA}
theorem at_hide {Q : D → Nat → Prop} {R : VK} (h : RdE κ f te) (g : Good κ P G H) (ev : SEnvR κ H0 P G H σ env) (hf : f (hide env) P.n Q)
    (hR : ∀ v P' G' H' d, Grow P G H P' G' H' → Good κ P' G' H' → SEnvR κ H0 P' G' H' σ env → Rep κ G' P'.iv v d → Q d P'.n → R v H') : te σ H R :=
  h P G H σ _ Q R g ev.hide hf fun v P' G' H' d gr g' r q => hR v P' G' H' d gr g' (ev.grow gr) r q
theorem at_view {Q : D → Nat → Prop} {R : VK} (h : RdE κ f te) (g : Good κ P G H) (ev : SEnvR κ H0 P G H σ env) (hf : f (view env) P.n fun d m => treeD d = true ∧ Q d m)
    (hR : ∀ v P' G' H' d, Grow P G H P' G' H' → Good κ P' G' H' → SEnvR κ H0 P' G' H' σ env → Rep κ G' P'.iv v d → Q d P'.n → R v H') : te σ H R :=
  h P (lent env σ G H) H σ _ _ R (lent_good ev g) ev.view hf fun v P' G' H' d gr g' r q => by
    obtain ⟨gr2, g2⟩ := back_grow ev g gr g'
    exact hR v P' _ H' d gr2 g2 (ev.grow gr2) (r.tree ev gr (priv_iv ev gr) q.1) q.2
theorem at_test {Q : Bool → Nat → Prop} {R : Bool → Hp → Prop} (h : RdT κ ft tt) (g : Good κ P G H) (ev : SEnvR κ H0 P G H σ env) (hf : ft (view env) P.n Q)
    (hR : ∀ b P' G' H', Grow P G H P' G' H' → Good κ P' G' H' → SEnvR κ H0 P' G' H' σ env → Q b P'.n → R b H') : tt σ H R :=
  h P (lent env σ G H) H σ _ _ R (lent_good ev g) ev.view hf fun b P' G' H' gr g' q => by
    obtain ⟨gr2, g2⟩ := back_grow ev g gr g'
    exact hR b P' _ H' gr2 g2 (ev.grow gr2) q
theorem own_of {P' : Wd} {G' H' : Hp} {a : Addr} {vs : List V} {xs : List D} (h1 : H0 a = none) (h2 : G' a = none) (h3 : P'.iv a = none) (h4 : H' a = some (.lst vs)) (h5 : vs.length ≤ sizeLine) (h6 : Reps κ G' P'.iv vs xs) : OwnL κ H0 P' G' H' a xs := ⟨vs, h4, h5, h1, h2, h3, h6⟩
theorem at_hideO {Q : List D → Nat → Prop} {R : VK} (h : RdO κ fo te) (g : Good κ P G H) (ev : SEnvR κ H0 P G H σ env) (h0 : ∀ a, H a = none → H0 a = none) (hf : fo (hide env) P.n Q)
    (hR : ∀ a P' G' H' xs, Grow P G H P' G' H' → Good κ P' G' H' → SEnvR κ H0 P' G' H' σ env → H a = none → OwnL κ H0 P' G' H' a xs → Q xs P'.n → R (.ref a) H') : te σ H R :=
  h P G H σ _ Q R g ev.hide hf fun a P' G' H' vs xs gr g' ha hg hi hh hz r q => hR a P' G' H' xs gr g' (ev.grow gr) ha (own_of (h0 a ha) hg hi hh hz r) q
theorem at_viewO {Q : List D → Nat → Prop} {R : VK} (h : RdO κ fo te) (g : Good κ P G H) (ev : SEnvR κ H0 P G H σ env) (h0 : ∀ a, H a = none → H0 a = none) (hf : fo (view env) P.n fun xs m => xs.all treeD = true ∧ Q xs m)
    (hR : ∀ a P' G' H' xs, Grow P G H P' G' H' → Good κ P' G' H' → SEnvR κ H0 P' G' H' σ env → H a = none → OwnL κ H0 P' G' H' a xs → Q xs P'.n → R (.ref a) H') : te σ H R :=
  h P (lent env σ G H) H σ _ _ R (lent_good ev g) ev.view hf fun a P' G' H' vs xs gr g' ha hg hi hh hz r q => by
    obtain ⟨gr2, g2⟩ := back_grow ev g gr g'
    have hb : back env σ G' a = none := by
      unfold back
      split
      · rfl
      · exact hg
    exact hR a P' _ H' xs gr2 g2 (ev.grow gr2) ha (own_of (h0 a ha) hb hi hh hz (r.tree ev gr (priv_iv ev gr) (by rw [treeDs_all]; exact q.1))) q.2
/-- one slot changes, the others keep what they stand for -/
theorem SEnvR.chg (ev : SEnvR κ H0 P G H σ env) {P' : Wd} {G' H' : Hp} {i : Nat} {v : V} {s : Sl} (r : SlR κ H0 P' G' H' v s) (hk : ∀ (j : Nat) (t : Sl) (w : V), i ≠ j → env[j]? = some (some t) → σ[j]? = some (some w) → SlR κ H0 P G H w t → SlR κ H0 P' G' H' w t)
    (hn : ∀ a, Holds s v a → ∀ (j : Nat) (t : Sl) (w : V), i ≠ j → env[j]? = some (some t) → σ[j]? = some (some w) → ¬ Holds t w a) : SEnvR κ H0 P' G' H' (σ.set i (some v)) (env.set i (some s)) where
  len := by rw [List.length_set, List.length_set]; exact ev.len
  get := fun j s' h => by
    by_cases hij : i = j
    · subst hij
      rw [List.getElem?_set] at h
      simp only [if_true] at h
      split at h
      · cases h
        exact ⟨v, by rw [List.getElem?_set]; simp only [if_true]; rw [if_pos (by rw [← ev.len]; assumption)], r⟩
      · cases h
    · rw [List.getElem?_set_ne hij] at h ⊢
      obtain ⟨w, h1, h2⟩ := ev.get j s' h
      exact ⟨w, h1, hk j s' w hij h h1 h2⟩
  apart := fun j k s1 s2 w1 w2 a hjk h1 h2 e1 e2 o1 o2 => by
    by_cases nj : i = j
    · subst nj
      have nk : i ≠ k := hjk
      rw [List.getElem?_set_ne nk] at h2 e2
      rw [List.getElem?_set] at e1 h1
      simp only [if_true] at e1 h1
      split at e1
      · cases e1
        split at h1
        · cases h1
          exact hn a o1 k s2 w2 nk h2 e2 o2
        · cases h1
      · cases e1
    · rw [List.getElem?_set_ne nj] at h1 e1
      by_cases nk : i = k
      · subst nk
        rw [List.getElem?_set] at e2 h2
        simp only [if_true] at e2 h2
        split at e2
        · cases e2
          split at h2
          · cases h2
            exact hn a o2 j s1 w1 nj h1 e1 o1
          · cases h2
        · cases e2
      · rw [List.getElem?_set_ne nk] at h2 e2
        exact ev.apart j k s1 s2 w1 w2 a hjk h1 h2 e1 e2 o1 o2
theorem set_idem {σ : L2.St} {i : Nat} {v : V} (h : σ[i]? = some (some v)) : σ.set i (some v) = σ := by
  refine List.ext_getElem? fun j => ?_
  rw [List.getElem?_set]
  by_cases hij : i = j
  · subst hij
    simp only [if_true]
    rw [if_pos (List.getElem?_eq_some_iff.mp h).1, h]
  · simp only [if_neg hij]
/-- .. and stands at the same value -/
theorem SEnvR.chg0 (ev : SEnvR κ H0 P G H σ env) {P' : Wd} {G' H' : Hp} {i : Nat} {v : V} {s : Sl} (hv : σ[i]? = some (some v)) (r : SlR κ H0 P' G' H' v s) (hk : ∀ (j : Nat) (t : Sl) (w : V), i ≠ j → env[j]? = some (some t) → σ[j]? = some (some w) → SlR κ H0 P G H w t → SlR κ H0 P' G' H' w t)
    (hn : ∀ a, Holds s v a → ∀ (j : Nat) (t : Sl) (w : V), i ≠ j → env[j]? = some (some t) → σ[j]? = some (some w) → ¬ Holds t w a) : SEnvR κ H0 P' G' H' σ (env.set i (some s)) := by
  have := ev.chg (i := i) r hk hn
  rwa [set_idem hv] at this
theorem SEnvR.setX (ev : SEnvR κ H0 P G H σ env) {i : Nat} {v : V} {s : Sl} (r : SlR κ H0 P G H v s) (hn : ∀ a, Holds s v a → ¬ Priv env σ a) : SEnvR κ H0 P G H (σ.set i (some v)) (env.set i (some s)) :=
  ev.chg r (fun _ _ _ _ _ _ h => h) fun a ha j t w _ h1 h2 h3 => hn a ha ⟨j, t, w, h1, h2, h3⟩
theorem SEnvR.set (ev : SEnvR κ H0 P G H σ env) {i : Nat} {v : V} {d : D} (r : Rep κ G P.iv v d) : SEnvR κ H0 P G H (σ.set i (some v)) (env.set i (some (.val d))) :=
  ev.setX (s := .val d) r fun _ h => h.elim
theorem holds_own {xs : List D} {a b : Addr} (h : Holds (.own xs) (.ref a) b) : b = a := by
  have : V.ref a = V.ref b := h
  cases this; rfl
theorem holds_ownd {ks xs : List D} {a b : Addr} (h : Holds (.ownd ks xs) (.ref a) b) : b = a := by
  have : V.ref a = V.ref b := h
  cases this; rfl
theorem SEnvR.setO (ev : SEnvR κ H0 P G H σ env) {i : Nat} {a : Addr} {s : Sl} (r : SlR κ H0 P G H (.ref a) s) (hn : ¬ Priv env σ a) (hs : ∀ b, Holds s (.ref a) b → b = a := by intro b h; first | exact holds_own h | exact holds_ownd h) : SEnvR κ H0 P G H (σ.set i (some (.ref a))) (env.set i (some s)) :=
  ev.setX r fun b hb => by rw [hs b hb]; exact hn
theorem not_priv (ev : SEnvR κ H0 P G H σ env) {a : Addr} (h : H a = none) : ¬ Priv env σ a := fun hp => by
  obtain ⟨_, _, _, o, e⟩ := ev.priv hp
  rw [e] at h; cases h
@[simp] def sNext : FS := fun D env n => D.nx env n
def sSeq (a b : FS) : FS := fun D env n => a { D with nx := fun e m => b D e m } env n
theorem ds_nil : DS κ X [] sNext := ⟨_, pss_nil, fun P0 G0 H0 P G H σ env D E gr g ev hf ok => ok.nx P G H σ env gr g ev hf⟩
theorem ds_cons (h1 : D1 κ X st s1) (h2 : DS κ X sts s2) : DS κ X (st :: sts) (sSeq s1 s2) := by
  obtain ⟨t1, p1, q1⟩ := h1
  obtain ⟨t2, p2, q2⟩ := h2
  refine ⟨_, pss_cons p1 p2, fun P0 G0 H0 P G H σ env D E gr g ev hf ok => ?_⟩
  exact q1 P0 G0 H0 P G H σ env _ _ gr g ev hf ⟨fun P' G' H' σ' env' gr' g' ev' h => q2 P0 G0 H0 P' G' H' σ' env' D E gr' g' ev' h ok, ok.rt, ok.bk, ok.ct⟩
theorem ds_one (h1 : D1 κ X st s1) : DS κ X [st] s1 := by
  obtain ⟨t1, p1, q1⟩ := h1
  exact ⟨_, pss_one p1, q1⟩
@[simp] def sNever : FS := fun _ _ _ => False
theorem d1_never : D1 κ X st sNever := ⟨_, ps_never, fun P0 G0 H0 P G H σ env D E gr g ev hf ok => hf⟩
@[simp] def sBreak : FS := fun D env n => D.bk env n
@[simp] def sCont : FS := fun D env n => D.ct env n
@[simp] def sAsg (i : Nat) (f : FE) : FS := fun D env n => f (hide env) n fun d m => D.nx (env.set i (some (.val d))) m
@[simp] def sAsgV (i : Nat) (f : FE) : FS := fun D env n => f (view env) n fun d m => treeD d = true ∧ D.nx (env.set i (some (.val d))) m
@[simp] def sAsgO (i : Nat) (f : FA) : FS := fun D env n => f (hide env) n fun xs m => D.nx (env.set i (some (.own xs))) m
@[simp] def sAsgOV (i : Nat) (f : FA) : FS := fun D env n => f (view env) n fun xs m => xs.all treeD = true ∧ D.nx (env.set i (some (.own xs))) m
section
variable {x : Str} {p2 : Pos}
theorem asg_lift {i : Nat} (h : RdE κ f te) : RdS κ (sAsg i f) (tAsg te (gName i)) := fun P0 G0 H0 P G H σ env D E gr g ev hf ok =>
  at_hide h g ev hf fun v P' G' H' d gr' g' ev' r q => ok.nx P' G' H' _ _ (gr.trans gr') g' (ev'.set r) q
theorem asgO_lift {i : Nat} (h : RdO κ fo te) : RdS κ (sAsgO i fo) (tAsg te (gName i)) := fun P0 G0 H0 P G H σ env D E gr g ev hf ok =>
  at_hideO h g ev (fun a ha => gr.back ha) hf fun a P' G' H' xs gr' g' ev' ha o q => ok.nx P' G' H' _ _ (gr.trans gr') g' (ev'.setO (s := .own xs) ⟨a, rfl, o⟩ (not_priv ev ha)) q
variable {i : Nat} (hN : X.N.Nodup) (hi : X.N[i]? = some x) (hx : Loc X.env.scope x) (hs : swapsWith e (some (.Name x p2)) pos.line X.env = pure false) (hfn : X.fn x = true ∨ X.env.scope.names.lookup x = some .local)
include hN hi hx hs hfn
theorem d1_asg (h : DE κ X e f) : D1 κ X (.Assign [.Name x p2] e pos) (sAsg i f) := by
  obtain ⟨t, p, q⟩ := h
  exact ⟨_, ps_set hN hi hx p hs hfn, asg_lift q⟩
theorem d1_asgO (h : DO κ X e fo) : D1 κ X (.Assign [.Name x p2] e pos) (sAsgO i fo) := by
  obtain ⟨t, p, q⟩ := h
  exact ⟨_, ps_set hN hi hx p hs hfn, asgO_lift q⟩
end
theorem new_sep (ev : SEnvR κ H0 P G H σ env) {b : Addr} {xs : List D} (h : H b = none) : ∀ a, Holds (.own xs) (.ref b) a → ¬ Priv env σ a := fun a ha => by
  rw [holds_own ha]; exact not_priv ev h
@[simp] def sRet (f : FE) : FS := fun D env n => f (hide env) n fun d m => D.rt env (.val d) m
@[simp] def sRetV (f : FE) : FS := fun D env n => f (view env) n fun d m => treeD d = true ∧ D.rt env (.val d) m
@[simp] def sRetO (f : FA) : FS := fun D env n => f (hide env) n fun xs m => D.rt env (.own xs) m
@[simp] def sRetOV (f : FA) : FS := fun D env n => f (view env) n fun xs m => xs.all treeD = true ∧ D.rt env (.own xs) m
theorem d1_ret (h : DE κ X e f) : D1 κ X (.Return (some e) pos) (sRet f) := by
  obtain ⟨t, p, q⟩ := h
  exact ⟨_, ps_ret p, fun P0 G0 H0 P G H σ env D E gr g ev hf ok => at_hide q g ev hf fun v P' G' H' d gr' g' ev' r hq => ok.rt v (.val d) P' G' H' σ env (gr.trans gr') g' ev' r (fun _ h => h.elim) hq⟩
theorem d1_retV (h : DE κ X e f) : D1 κ X (.Return (some e) pos) (sRetV f) := by
  obtain ⟨t, p, q⟩ := h
  exact ⟨_, ps_ret p, fun P0 G0 H0 P G H σ env D E gr g ev hf ok => at_view q g ev hf fun v P' G' H' d gr' g' ev' r hq => ok.rt v (.val d) P' G' H' σ env (gr.trans gr') g' ev' r (fun _ h => h.elim) hq⟩
theorem d1_retO (h : DO κ X e fo) : D1 κ X (.Return (some e) pos) (sRetO fo) := by
  obtain ⟨t, p, q⟩ := h
  exact ⟨_, ps_ret p, fun P0 G0 H0 P G H σ env D E gr g ev hf ok => at_hideO q g ev (fun a ha => gr.back ha) hf fun a P' G' H' xs gr' g' ev' ha o hq => ok.rt _ (.own xs) P' G' H' σ env (gr.trans gr') g' ev' ⟨a, rfl, o⟩ (new_sep ev ha) hq⟩
theorem d1_retOV (h : DO κ X e fo) : D1 κ X (.Return (some e) pos) (sRetOV fo) := by
  obtain ⟨t, p, q⟩ := h
  exact ⟨_, ps_ret p, fun P0 G0 H0 P G H σ env D E gr g ev hf ok => at_viewO q g ev (fun a ha => gr.back ha) hf fun a P' G' H' xs gr' g' ev' ha o hq => ok.rt _ (.own xs) P' G' H' σ env (gr.trans gr') g' ev' ⟨a, rfl, o⟩ (new_sep ev ha) hq⟩
/-- return x, x an own list or any slot -/
@[simp] def sRetS (i : Nat) : FS := fun D env n => ∃ s, env[i]? = some (some s) ∧ D.rt (env.set i none) s n
@[simp] def sRetN : FS := fun D env n => D.rt env (.val .non) n
@[simp] def sDrop (f : FE) : FS := fun D env n => f (hide env) n fun _ m => D.nx env m
theorem d1_expr (h : DE κ X e f) (hs : swapsWith e none pos.line X.env = pure false := by rfl) : D1 κ X (.Expr e pos) (sDrop f) := by
  obtain ⟨t, p, q⟩ := h
  exact ⟨_, ps_expr p hs, fun P0 G0 H0 P G H σ env D E gr g ev hf ok => at_hide q g ev hf fun v P' G' H' d gr' g' ev' r hq => ok.nx P' G' H' σ env (gr.trans gr') g' ev' hq⟩
@[simp] def sIf (c : FT) (a b : FS) : FS := fun D env n => c (view env) n fun t m => if t = true then a D env m else b D env m
theorem d1_if {b1 b2 : List Stmt} (hc : DT κ X e ft) (h1 : DS κ X b1 s1) (h2 : DS κ X b2 s2) : D1 κ X (.If e b1 b2 pos) (sIf ft s1 s2) := by
  obtain ⟨t, p, q⟩ := hc
  obtain ⟨t1, p1, q1⟩ := h1
  obtain ⟨t2, p2, q2⟩ := h2
  refine ⟨_, ps_if p p1 p2, fun P0 G0 H0 P G H σ env D E gr g ev hf ok => at_test q g ev hf fun b P' G' H' gr' g' ev' hq => ?_⟩
  cases b with
  | true => exact q1 P0 G0 H0 P' G' H' σ env D E (gr.trans gr') g' ev' hq ok
  | false => exact q2 P0 G0 H0 P' G' H' σ env D E (gr.trans gr') g' ev' hq ok
end
end DL
namespace DL
open PySem PySem.Spec PyProof.Rows L2
section
variable {κ : Kit} {X : Cx} {H0 : Hp} {P : Wd} {G H : Hp} {σ : L2.St} {env : SEnv} {a b e : Expr} {st : Stmt} {sts : List Stmt} {fa fb f : FE} {fo : FA} {ft : FT} {s1 s2 : FS} {te : TE} {tt : TT} {pos : Pos} {es : List Expr} {far : FA}
/-- ahead of a statement: the list at slot i is a value from here on -/
@[simp] def sFrz (i : Nat) (s : FS) : FS := fun D env n => ∃ xs, env[i]? = some (some (.own xs)) ∧ s D (env.set i (some (.val (.lst xs)))) n
theorem SEnvR.put (ev : SEnvR κ H0 P G H σ env) {i : Nat} {xs ys : List D} {a : Addr} {us : List V} (h : env[i]? = some (some (.own xs))) (hs : σ[i]? = some (some (.ref a))) (hz : us.length ≤ sizeLine) (r : Reps κ G P.iv us ys) :
    SEnvR κ H0 P G (upd H a (.lst us)) σ (env.set i (some (.own ys))) := by
  obtain ⟨v, q1, b, eb, vs, h1, h2, h3, h4, h5, h6⟩ := ev.get i _ h
  subst eb
  rw [hs] at q1
  cases q1
  have ap : ∀ b, Holds (.own ys) (.ref a) b → ∀ (j : Nat) (t : Sl) (w : V), i ≠ j → env[j]? = some (some t) → σ[j]? = some (some w) → ¬ Holds t w b := fun b hb j t w hij hj hw ht => by
    rw [holds_own hb] at ht
    exact ev.apart i j _ _ _ _ a hij h hj hs hw rfl ht
  refine ev.chg0 (s := .own ys) hs ⟨_, rfl, us, upd_same, hz, h3, h4, h5, r⟩ (fun j t w hij hj hw r => ?_) ap
  refine r.to (fun _ _ h => h) (fun _ _ h => h) fun b hb => ?_
  obtain ⟨k1, k2, k3, _⟩ := r.held hb
  have hba : b ≠ a := fun e => by subst e; exact ap _ rfl j t w hij hj hw hb
  exact ⟨fun o ho => by rw [upd_ne hba]; exact ho, k1, k2, k3⟩
/-- x.append(e) -/
@[simp] def sApp (i : Nat) (f : FE) : FS := fun D env n => ∃ xs, env[i]? = some (some (.own xs)) ∧ f (hide env) n fun d m => xs.length < 16777216 ∧ D.nx (env.set i (some (.own (xs ++ [d])))) m
@[simp] def sAppV (i : Nat) (f : FE) : FS := fun D env n => ∃ xs, env[i]? = some (some (.own xs)) ∧ f (view env) n fun d m => treeD d = true ∧ xs.length < 16777216 ∧ D.nx (env.set i (some (.own (xs ++ [d])))) m
theorem tyV_list {K : PySem.W.Frag} {a : Addr} {vs : List V} (h : H a = some (.lst vs)) : tyV K "list" (.ref a) H := .inl ⟨rfl, _, SqL.of h⟩
theorem app_end {P0 : Wd} {G0 : Hp} {d : D} {xs : List D} {D : DEnds} {E : Ends} {P' : Wd} {G' H' : Hp} {i : Nat} {v : V} {a : Addr} (gr : Grow P0 G0 H0 P' G' H') (g : Good κ P' G' H') (ev : SEnvR κ H0 P' G' H' σ env) (h : env[i]? = some (some (.own xs))) (hs : σ[i]? = some (some (.ref a))) (hz : xs.length < 16777216) (r : Rep κ G' P'.iv v d) (ok : EndsOk κ P0 G0 H0 D E) (q : D.nx (env.set i (some (.own (xs ++ [d])))) P'.n) :
    ∃ l ys y, V.ref a = .ref l ∧ [v] = [y] ∧ H' l = some (.lst ys) ∧ ys.length < sizeLine ∧ E.nx σ (upd H' l (.lst (ys ++ [y]))) := by
  obtain ⟨u, q1, b, eb, vs, h1, h2, h3, h4, h5, h6⟩ := ev.get i _ h
  subst eb
  rw [hs] at q1
  cases q1
  have hl : sizeLine = 16777216 := sizeLine_eq
  have hlen : vs.length = xs.length := h6.length
  refine ⟨a, vs, v, rfl, rfl, h1, by omega, ok.nx P' G' _ σ _ (gr.put h3) (g.put h4 h5) (ev.put h hs (by rw [List.length_append]; show vs.length + 1 ≤ sizeLine; omega) (h6.append (.cons r .nil))) q⟩
theorem app_lift {i : Nat} {tx : TE} {K : PySem.W.Frag} (hx : tx = tVar i) (h : RdE κ f te) : RdS κ (sApp i f) (tDrop (tBM K "list" rAppend tx (tCons te tNil))) := fun P0 G0 H0 P G H σ env D E gr g ev hf ok => by
  subst hx
  obtain ⟨xs, h1, hf⟩ := hf
  obtain ⟨u, q1, b, eb, vs, k1, k2, k3, k4, k5, k6⟩ := ev.get i _ h1
  subst eb
  refine ⟨_, q1, tyV_list k1, ?_⟩
  refine at_hide h g ev hf fun v P' G' H' d gr' g' ev' r q => ?_
  exact app_end (gr.trans gr') g' ev' h1 q1 q.1 r ok q.2
theorem appV_lift {i : Nat} {tx : TE} {K : PySem.W.Frag} (hx : tx = tVar i) (h : RdE κ f te) : RdS κ (sAppV i f) (tDrop (tBM K "list" rAppend tx (tCons te tNil))) := fun P0 G0 H0 P G H σ env D E gr g ev hf ok => by
  subst hx
  obtain ⟨xs, h1, hf⟩ := hf
  obtain ⟨u, q1, b, eb, vs, k1, k2, k3, k4, k5, k6⟩ := ev.get i _ h1
  subst eb
  refine ⟨_, q1, tyV_list k1, ?_⟩
  refine at_view h g ev hf fun v P' G' H' d gr' g' ev' r q => ?_
  exact app_end (gr.trans gr') g' ev' h1 q1 q.1 r ok q.2
section
variable {x : Str} {p2 apos cpos : Pos} {i : Nat}
theorem d1_app (i : Nat) (hN : X.N[i]? = some x) (hv : Vis X.env.scope x) (h : DE κ X e f) (hd : (x == ("__debug__" : Str)) = false := by decide) (hcd : (x == ("__classdict__" : Str)) = false := by decide)
    (hbase : attributeBase (.Name x p2) "append" X.env (eval (.Name x p2) X.env) = eval (.Name x p2) X.env := by rfl)
    (hfew : ((backTo cpos (starEach [e] X.env)).all (fun x => !x.1) && (backToKw cpos (keywordEach [] X.env)).all (fun x => x.1.isSome) && decide ([e].length + ([] : List Keyword).length + (if ([] : List Keyword).isEmpty then 0 else 1) < 30)) = true := by rfl)
    (hline : (apos.endLine == cpos.line) = true := by rfl) (hs : starEach [e] X.env = (false, eval e X.env) :: starEach [] X.env := by rfl) (hplain : (backTo cpos (starEach [] X.env)).any (·.1) = false := by rfl)
    (hsw : swapsWith (.Call (.Attribute (.Name x p2) "append" apos) [e] [] cpos) none pos.line X.env = pure false := by rfl) :
    D1 κ X (.Expr (.Call (.Attribute (.Name x p2) "append" apos) [e] [] cpos) pos) (sApp i f) := by
  obtain ⟨t, p, q⟩ := h
  exact ⟨_, ps_expr (pe_bm PySem.F.plainAttrs_list PySem.F.slot_list_append PySem.F.type_list_append mt_append (pe_var hN hv hd hcd) (pa_cons p pa_nil hs) hbase hfew hline hs hplain) hsw, app_lift rfl q⟩
theorem d1_appV (i : Nat) (hN : X.N[i]? = some x) (hv : Vis X.env.scope x) (h : DE κ X e f) (hd : (x == ("__debug__" : Str)) = false := by decide) (hcd : (x == ("__classdict__" : Str)) = false := by decide)
    (hbase : attributeBase (.Name x p2) "append" X.env (eval (.Name x p2) X.env) = eval (.Name x p2) X.env := by rfl)
    (hfew : ((backTo cpos (starEach [e] X.env)).all (fun x => !x.1) && (backToKw cpos (keywordEach [] X.env)).all (fun x => x.1.isSome) && decide ([e].length + ([] : List Keyword).length + (if ([] : List Keyword).isEmpty then 0 else 1) < 30)) = true := by rfl)
    (hline : (apos.endLine == cpos.line) = true := by rfl) (hs : starEach [e] X.env = (false, eval e X.env) :: starEach [] X.env := by rfl) (hplain : (backTo cpos (starEach [] X.env)).any (·.1) = false := by rfl)
    (hsw : swapsWith (.Call (.Attribute (.Name x p2) "append" apos) [e] [] cpos) none pos.line X.env = pure false := by rfl) :
    D1 κ X (.Expr (.Call (.Attribute (.Name x p2) "append" apos) [e] [] cpos) pos) (sAppV i f) := by
  obtain ⟨t, p, q⟩ := h
  exact ⟨_, ps_expr (pe_bm PySem.F.plainAttrs_list PySem.F.slot_list_append PySem.F.type_list_append mt_append (pe_var hN hv hd hcd) (pa_cons p pa_nil hs) hbase hfew hline hs hplain) hsw, appV_lift rfl q⟩
end
@[simp] def sAug (φ : D → D → Nat → (D → Nat → Prop) → Prop) (i : Nat) (f : FE) : FS := fun D env n => ∃ d, env[i]? = some (some (.val d)) ∧ f (view env) n fun y m => treeD y = true ∧ φ d y m fun z k => D.nx (env.set i (some (.val z))) k
abbrev SG := D → SEnv → (SEnv → Prop) → Prop
def LiftSG (κ : Kit) (g : TG) (φ : SG) : Prop := ∀ (H0 : Hp) (P : Wd) (G H : Hp) (v : V) (d : D) (σ : L2.St) (env : SEnv) (Q : SEnv → Prop) (R : L2.St → Hp → Prop), Good κ P G H → SEnvR κ H0 P G H σ env → Rep κ G P.iv v d → φ d env Q →
  (∀ σ' env', SEnvR κ H0 P G H σ' env' → Q env' → R σ' H) → g v σ H R
def SGs := List D → SEnv → (SEnv → Prop) → Prop
def LiftSGs (κ : Kit) (g : TGs) (φ : SGs) : Prop := ∀ (H0 : Hp) (P : Wd) (G H : Hp) (v : List V) (d : List D) (σ : L2.St) (env : SEnv) (Q : SEnv → Prop) (R : L2.St → Hp → Prop), Good κ P G H → SEnvR κ H0 P G H σ env → Reps κ G P.iv v d → φ d env Q →
  (∀ σ' env', SEnvR κ H0 P G H σ' env' → Q env' → R σ' H) → g v σ H R
def SD (κ : Kit) (X : Cx) (tg : Expr) (φ : SG) : Prop := ∃ g, PG X tg g ∧ LiftSG κ g φ
def SDs (κ : Kit) (X : Cx) (tgs : List Expr) (φ : SGs) : Prop := ∃ g, PGs X tgs g ∧ LiftSGs κ g φ
@[simp] def nN (i : Nat) : SG := fun d env Q => Q (env.set i (some (.val d)))
def nsNil : SGs := fun ds env Q => match ds with
  | [] => Q env
  | _ => False
def nsCons (φ : SG) (ψ : SGs) : SGs := fun ds env Q => match ds with
  | d :: r => φ d env fun env' => ψ r env' Q
  | [] => False
def nT (n : Nat) (ψ : SGs) : SG := fun d env Q => match d with
  | .tup ds => ds.length = n ∧ ψ ds env Q
  | _ => False
theorem sd_name (i : Nat) {x : Str} (hN : X.N.Nodup) (hi : X.N[i]? = some x) (hx : Loc X.env.scope x) (hf : X.fn x = true ∨ X.env.scope.names.lookup x = some .local := by first | exact .inl rfl | exact .inr rfl | assumption) : SD κ X (.Name x pos) (nN i) :=
  ⟨_, pg_name hN hi hx hf, fun H0 P G H v d σ env Q R g ev r hf hR => hR _ _ (ev.set r) hf⟩
theorem sds_nil : SDs κ X [] nsNil := ⟨_, pgs_nil, fun H0 P G H v d σ env Q R g ev r hf hR => by
  cases r with
  | nil => exact ⟨rfl, hR _ _ ev hf⟩
  | cons r t => exact False.elim hf⟩
theorem sds_cons {φ : SG} {ψ : SGs} (h1 : SD κ X e φ) (h2 : SDs κ X es ψ) (hs : (assignEach (e :: es) X.env).map (·.2) = assign e X.env :: (assignEach es X.env).map (·.2) := by rfl) : SDs κ X (e :: es) (nsCons φ ψ) := by
  obtain ⟨g, p, q⟩ := h1
  obtain ⟨gs, ps, qs⟩ := h2
  refine ⟨_, pgs_cons p ps hs, fun H0 P G H v d σ env Q R g ev r hf hR => ?_⟩
  cases r with
  | nil => exact False.elim hf
  | @cons v0 d0 vs0 ds r t => exact ⟨_, _, rfl, q H0 P G H _ d0 σ env _ _ g ev r hf fun σ1 env1 ev1 hf1 => qs H0 P G H _ ds σ1 env1 Q R g ev1 t hf1 hR⟩
theorem sd_tup {k n : Nat} {ψ : SGs} (hc : X.calm = true) (h : SDs κ X es ψ) (hn : (assignEach es X.env).length = n := by rfl) (hst : (assignEach es X.env).findIdx? (·.1) = none := by rfl) : SD κ X (.Tuple es k pos) (nT n ψ) := by
  obtain ⟨gs, ps, qs⟩ := h
  refine ⟨_, pg_tup hc ps hn hst, fun H0 P G H v d σ env Q R g ev r hf hR => ?_⟩
  unfold nT at hf
  split at hf
  · obtain ⟨hn, hf⟩ := hf
    cases r with
    | tup ht z r => exact ⟨_, _, rfl, SqT.of (g.gx ht rfl), by rw [r.length]; exact hn, qs H0 P G H _ _ σ env Q R g ev r hf hR⟩
  · exact hf.elim
/-- a, b = e -/
@[simp] def sUnp (φ : SG) (f : FE) : FS := fun D env n => f (hide env) n fun d m => φ d env fun env' => D.nx env' m
theorem d1_unp {tg : Expr} {φ : SG} (h : DE κ X e f) (hg : SD κ X tg φ) (hs : swapsWithSole [tg] e pos.line X.env = pure false := by rfl) (hw : swappedStores [tg] e X.env = pure none := by rfl) (h1 : (assignEach [tg] X.env).map (·.2) = [assign tg X.env] := by rfl) : D1 κ X (.Assign [tg] e pos) (sUnp φ f) := by
  obtain ⟨t, p, q⟩ := h
  obtain ⟨g, pg, qg⟩ := hg
  exact ⟨_, ps_asg p pg hs hw h1, fun P0 G0 H0 P G H σ env D E gr g ev hf ok => at_hide q g ev hf fun v P' G' H' d gr' g' ev' r hq => qg H0 P' G' H' v d σ env _ _ g' ev' r hq fun σ' env' ev2 hq2 => ok.nx P' G' H' σ' env' (gr.trans gr') g' ev2 hq2⟩
def forD (tg : SG) (body : FS) (D : DEnds) : List DL.D → SEnv → Nat → Prop
  | [], env, n => D.nx env n
  | x :: xs, env, n => tg x env fun env' => body { nx := fun e m => forD tg body D xs e m, ct := fun e m => forD tg body D xs e m, bk := D.nx, rt := D.rt } env' n
@[simp] def sFor (it : FA) (tg : SG) (body : FS) : FS := fun D env n => it (hide env) n fun xs m => forD tg body D xs env m
/-- a loop's turn starts where it stands -/
theorem Grow.turn {P0 P : Wd} {G0 H0 G H : Hp} (gr : Grow P0 G0 H0 P G H) : Grow P G H0 P G H :=
  ⟨fun _ _ h => h, fun _ _ h => h, Nat.le_refl _, fun _ _ h => h, fun a o h n => gr.h a o h (by rw [← (gr.fresh a o h).1]; exact n), gr.dom, fun _ _ _ => ⟨rfl, .inl rfl, .inl rfl⟩⟩
theorem Grow.behind {P0 P P1 : Wd} {G0 H0 G H G1 H1 : Hp} (gr : Grow P0 G0 H0 P G H) (g1 : Grow P G H0 P1 G1 H1) : Grow P0 G0 H0 P1 G1 H1 :=
  ⟨fun a o h => g1.fz a o (gr.fz a o h), fun a o h => g1.iv a o (gr.iv a o h), Nat.le_trans gr.n g1.n, fun a o h => g1.g a o (gr.g a o h), fun a o h n => g1.h a o h (by rw [(gr.fresh a o h).1]; exact n), g1.dom, fun a o h => by
    obtain ⟨a1, a2, a3⟩ := gr.fresh a o h
    obtain ⟨b1, b2, b3⟩ := g1.fresh a o h
    refine ⟨b1.trans a1, ?_, ?_⟩
    · rcases b2 with b2 | ⟨k1, k2, k3⟩
      · rcases a2 with a2 | ⟨j1, j2, j3⟩
        · exact .inl (b2.trans a2)
        · exact .inr ⟨j1, j2, g1.fz a _ j3⟩
      · exact .inr ⟨k1, by rw [← a1]; exact k2, k3⟩
    · rcases b3 with b3 | ⟨k1, k2, k3⟩
      · rcases a3 with a3 | ⟨j1, j2, j3⟩
        · exact .inl (b3.trans a3)
        · exact .inr ⟨j1, j2, g1.g a _ j3⟩
      · exact .inr ⟨k1, by rw [← a1]; exact k2, k3⟩⟩
/-- a dict that was locked is let again: what has grown -/
theorem Grow.unlockB {P P1 : Wd} {G G1 H0 H1 : Hp} {a : Addr} {u : HO} {od : Obj} (hu : ∀ o, H0 a = some o → o = u) (gr : Grow P G (upd H0 a (.frz od u)) P1 G1 H1) : Grow P G H0 P1 G1 (upd H1 a u) where
  fz := gr.fz
  iv := gr.iv
  n := gr.n
  g := gr.g
  h := fun b o e n => by
    by_cases hb : b = a
    · subst hb
      rw [hu o e]; exact upd_same
    · rw [upd_ne hb]; exact gr.h b o (by rw [upd_ne hb]; exact e) n
  dom := fun b o e => by
    by_cases hb : b = a
    · subst hb; exact ⟨_, upd_same⟩
    · rw [upd_ne hb]; exact gr.dom b o (by rw [upd_ne hb]; exact e)
  fresh := fun b o e => by
    by_cases hb : b = a
    · subst hb
      obtain ⟨q1, q2, q3⟩ := gr.fresh b _ upd_same
      exact ⟨q1, .inl (q2.same rfl), .inl (q3.same rfl)⟩
    · exact gr.fresh b o (by rw [upd_ne hb]; exact e)
theorem Grow.lockB {P : Wd} {G H0 H : Hp} {a : Addr} {u : HO} {od : Obj} (gr : Grow P G H0 P G H) : Grow P G (upd H0 a (.frz od u)) P G (upd H a (.frz od u)) where
  fz := fun _ _ h => h
  iv := fun _ _ h => h
  n := Nat.le_refl _
  g := fun _ _ h => h
  h := fun b o e n => by
    by_cases hb : b = a
    · subst hb; rw [upd_same] at e ⊢; exact e
    · rw [upd_ne hb] at e ⊢; exact gr.h b o e n
  dom := fun b o e => by
    by_cases hb : b = a
    · subst hb; exact ⟨_, upd_same⟩
    · rw [upd_ne hb] at e ⊢; exact gr.dom b o e
  fresh := fun _ _ _ => ⟨rfl, .inl rfl, .inl rfl⟩
theorem SlR.swap {H1 H2 : Hp} {P : Wd} {G G' H H' : Hp} {v : V} {s : Sl} (h : ∀ b o, H b = some o → H1 b = none → G b = none → H2 b = none ∧ H' b = some o) (r : SlR κ H1 P G H v s) : SlR κ H2 P G H' v s :=
  r.to (fun _ _ h => h) (fun _ _ h => h) fun b hb => by
    obtain ⟨k1, k2, k3, o, ho⟩ := r.held hb
    obtain ⟨q1, q2⟩ := h b o ho k1 k2
    exact ⟨fun u hu => (h b u hu k1 k2).2, q1, k2, k3⟩
theorem SEnvR.swap {H1 H2 : Hp} {P : Wd} {G H H' : Hp} {σ : L2.St} {env : SEnv} (h : ∀ b o, H b = some o → H1 b = none → G b = none → H2 b = none ∧ H' b = some o) (ev : SEnvR κ H1 P G H σ env) : SEnvR κ H2 P G H' σ env :=
  ⟨ev.len, fun i s hi => by
    obtain ⟨v, q1, q2⟩ := ev.get i s hi
    exact ⟨v, q1, q2.swap (G' := G) h⟩, ev.apart⟩
theorem for_body {J : It} {S : Hp → Prop} {g : TG} {tb : TS} {φ : SG} {P0 P : Wd} {G0 H0 G H : Hp} {D : DEnds} {E : Ends} {xs : List DL.D} (gr : Grow P0 G0 H0 P G H) (g0 : Good κ P G H) (ev : SEnvR κ H0 P G H σ env) (it : IterS κ S J P G xs) (hS : ∀ P' G' H', Grow P0 G0 H0 P' G' H' → S H') (hg : LiftSG κ g φ) (hb : RdS κ s1 tb)
    (hq : forD φ s1 D xs env P.n) (ok : EndsOk κ P0 G0 H0 D E) : tFor (fun _ H R => R J H) g tb E σ H := by
  refine ⟨fun i m σ' H' => ∃ P' G' env', Ext P G P' G' ∧ Good κ P' G' H' ∧ Grow P0 G0 H0 P' G' H' ∧ SEnvR κ H0 P' G' H' σ' env' ∧ i ≤ xs.length ∧ m = xs.length - i ∧ forD φ s1 D (xs.drop i) env' P'.n, ⟨xs.length, P, G, env, .refl, g0, gr, ev, Nat.zero_le _, rfl, hq⟩, ?_⟩
  rintro i m σ' H' ⟨P', G', env', exb, g', gr0', ev', hix, rfl, hgo⟩
  by_cases hlt : i < xs.length
  · obtain ⟨go, yl⟩ := (it.2 i P' G' H' exb g' (hS _ _ _ gr0')).1 hlt
    refine .inr ⟨go, fun σ2 H2 => ∃ P2 G2 env2, Ext P G P2 G2 ∧ Good κ P2 G2 H2 ∧ Grow P0 G0 H0 P2 G2 H2 ∧ SEnvR κ H0 P2 G2 H2 σ2 env2 ∧ forD φ s1 D (xs.drop (i + 1)) env2 P2.n, fun σ2 H2 hN => ?_, fun v H2 hy => ?_⟩
    · obtain ⟨P2, G2, env2, q1, q2, q3, q4, q5⟩ := hN
      exact ⟨xs.length - (i + 1), by omega, P2, G2, env2, q1, q2, q3, q4, hlt, rfl, q5⟩
    · obtain ⟨G2, d, gr2, g2, hxd, rd⟩ := yl v H2 hy
      have hdrop : xs.drop i = d :: xs.drop (i + 1) := by
        rw [List.drop_eq_getElem_cons hlt]
        rw [List.getElem?_eq_getElem hlt] at hxd
        cases hxd; rfl
      rw [hdrop] at hgo
      have grt := gr0'.trans gr2
      have ext := exb.trans gr2.ext
      refine hg H0 P' G2 H2 v d σ' env' _ _ g2 (ev'.grow gr2) rd hgo fun σ1 env1 ev1 hf1 => ?_
      refine hb P' G2 H0 P' G2 H2 σ1 env1 _ _ grt.turn g2 ev1 hf1 ⟨?_, ?_, ?_, ?_⟩
      · exact fun P3 G3 H3 σ3 env3 gr3 g3 ev3 h3 => ⟨P3, G3, env3, ext.trans gr3.ext, g3, grt.behind gr3, ev3, h3⟩
      · exact fun v s P3 G3 H3 σ3 env3 gr3 g3 ev3 r3 sp3 h3 => ok.rt v s P3 G3 H3 σ3 env3 (grt.behind gr3) g3 ev3 r3 sp3 h3
      · exact fun P3 G3 H3 σ3 env3 gr3 g3 ev3 h3 => ok.nx P3 G3 H3 σ3 env3 (grt.behind gr3) g3 ev3 h3
      · exact fun P3 G3 H3 σ3 env3 gr3 g3 ev3 h3 => ⟨P3, G3, env3, ext.trans gr3.ext, g3, grt.behind gr3, ev3, h3⟩
  · have e : i = xs.length := by omega
    subst e
    rw [List.drop_length] at hgo
    exact .inl ⟨(it.2 _ P' G' H' exb g' (hS _ _ _ gr0')).2 rfl, ok.nx P' G' H' σ' env' gr0' g' ev' hgo⟩
def tLkS (t : TS) : TS := fun D σ H => tLock t D σ H ∨ t D σ H
theorem PS.lkS {X : Cx} {st : Stmt} {t : TS} (h : PS X st t) : PS X st (tLkS t) := ⟨fun pins s σ H D I hw => by
  rcases hw with hw | hw
  · exact (ps_lock h).run pins s σ H D I hw
  · exact h.run pins s σ H D I hw⟩
theorem for_lift {w : TI} {g : TG} {tb : TS} {φ : SG} (hi : RdJ κ far w) (hg : LiftSG κ g φ) (hb : RdS κ s1 tb) : RdS κ (sFor far φ s1) (tLkS (tFor w g tb)) := fun P0 G0 H0 P G H σ env D E gr good ev hf ok => by
  rcases hi P G H σ (hide env) _ good ev.hide hf with hi | ⟨a, u, hGa, hdk, hi⟩
  · refine .inr (hi _ fun J Pb Gb Hb xs gr0 gb it hq => ?_)
    exact for_body (gr.trans gr0) gb (ev.grow gr0) it.s (fun _ _ _ _ => trivial) hg hb hq ok
  · have hia : P.iv a = none := by
      cases e : P.iv a with
      | none => rfl
      | some t => rw [(good.gi a t e).1] at hGa; cases hGa
    have run : ∀ (od : Obj) (H0' H' : Hp) (E' : Ends), H0' a = some (.frz od u) → H' a = some (.frz od u) → Good κ P G H' → Grow P G H0' P G H' → SEnvR κ H0' P G H' σ env → EndsOk κ P G H0' D E' → tFor w g tb E' σ H' := by
      intro od H0' H' E' h0 h1 g1 gr1 ev1 ok1
      refine hi od H' h1 g1 _ fun J xs it hq => ?_
      exact for_body gr1 g1 ev1 it (fun P' G' H'' gr2 => gr2.h a _ h0 hia) hg hb hq ok1
    rcases good.gh a u hGa with hHa | ⟨_, od, hHa⟩
    · refine .inl ⟨a, u, hHa, dk_mut hdk, fun od => ?_⟩
      have h0u : ∀ o, H0 a = some o → o = u := fun o ho => by
        have := gr.turn.h a o ho hia
        rw [hHa] at this; cases this; rfl
      refine run od (upd H0 a (.frz od u)) _ _ upd_same upd_same (good.lock hGa hdk) gr.turn.lockB (ev.swap fun b o e1 e2 e3 => ?_) ⟨?_, ?_, ?_, ?_⟩
      · have hba : b ≠ a := fun e => by subst e; rw [e3] at hGa; cases hGa
        exact ⟨by rw [upd_ne hba]; exact e2, by rw [upd_ne hba]; exact e1⟩
      all_goals
        have sw : ∀ {P' : Wd} {G' H' : Hp}, Grow P G (upd H0 a (.frz od u)) P' G' H' → ∀ b o, H' b = some o → (upd H0 a (.frz od u)) b = none → G' b = none → H0 b = none ∧ (upd H' a u) b = some o := fun {P' G' H'} gr' b o e1 e2 e3 => by
          have hba : b ≠ a := fun e => by subst e; rw [upd_same] at e2; cases e2
          rw [upd_ne hba] at e2
          exact ⟨e2, by rw [upd_ne hba]; exact e1⟩
      · exact fun P' G' H' σ' env' gr' g' ev' hq => ⟨gr'.h a _ upd_same hia, ok.nx P' G' _ σ' env' (gr.behind (gr'.unlockB h0u)) (g'.unlock (gr'.g _ _ hGa)) (ev'.swap (sw gr')) hq⟩
      · exact fun v s P' G' H' σ' env' gr' g' ev' r' sp' hq => ⟨gr'.h a _ upd_same hia, ok.rt v s P' G' _ σ' env' (gr.behind (gr'.unlockB h0u)) (g'.unlock (gr'.g _ _ hGa)) (ev'.swap (sw gr')) (r'.swap (G' := G') (sw gr')) sp' hq⟩
      · exact fun P' G' H' σ' env' gr' g' ev' hq => ⟨gr'.h a _ upd_same hia, ok.bk P' G' _ σ' env' (gr.behind (gr'.unlockB h0u)) (g'.unlock (gr'.g _ _ hGa)) (ev'.swap (sw gr')) hq⟩
      · exact fun P' G' H' σ' env' gr' g' ev' hq => ⟨gr'.h a _ upd_same hia, ok.ct P' G' _ σ' env' (gr.behind (gr'.unlockB h0u)) (g'.unlock (gr'.g _ _ hGa)) (ev'.swap (sw gr')) hq⟩
    · cases hc : H0 a with
      | some o =>
        have := gr.turn.h a o hc hia
        rw [hHa] at this
        cases this
        exact .inr (run od H0 H E hc hHa good gr.turn ev ⟨fun P' G' H' σ' env' gr' => ok.nx P' G' H' σ' env' (gr.behind gr'), fun v s P' G' H' σ' env' gr' => ok.rt v s P' G' H' σ' env' (gr.behind gr'), fun P' G' H' σ' env' gr' => ok.bk P' G' H' σ' env' (gr.behind gr'), fun P' G' H' σ' env' gr' => ok.ct P' G' H' σ' env' (gr.behind gr')⟩)
      | none =>
        have dr : ∀ {P' : Wd} {G' H' : Hp}, Grow P G (upd H0 a (.frz od u)) P' G' H' → Grow P G H0 P' G' H' := fun {P' G' H'} gr' =>
          have ne : ∀ b o, H0 b = some o → b ≠ a := fun b o e z => by subst z; rw [hc] at e; cases e
          ⟨gr'.fz, gr'.iv, gr'.n, gr'.g, fun b o e n => gr'.h b o (by rw [upd_ne (ne b o e)]; exact e) n, fun b o e => gr'.dom b o (by rw [upd_ne (ne b o e)]; exact e), fun b o e => gr'.fresh b o (by rw [upd_ne (ne b o e)]; exact e)⟩
        have sw : ∀ {G' H' : Hp}, ∀ b o, H' b = some o → (upd H0 a (.frz od u)) b = none → G' b = none → H0 b = none ∧ H' b = some o := fun {G' H'} b o e1 e2 e3 => by
          have hba : b ≠ a := fun e => by subst e; rw [upd_same] at e2; cases e2
          rw [upd_ne hba] at e2
          exact ⟨e2, e1⟩
        have g0 : Grow P G (upd H0 a (.frz od u)) P G H := by
          refine ⟨fun _ _ h => h, fun _ _ h => h, Nat.le_refl _, fun _ _ h => h, fun b o e n => ?_, fun b o e => ?_, fun _ _ _ => ⟨rfl, .inl rfl, .inl rfl⟩⟩
          · by_cases hb : b = a
            · subst hb; rw [upd_same] at e; rw [hHa]; exact e
            · rw [upd_ne hb] at e; exact gr.turn.h b o e n
          · by_cases hb : b = a
            · subst hb; exact ⟨_, hHa⟩
            · rw [upd_ne hb] at e; exact gr.turn.dom b o e
        refine .inr (run od (upd H0 a (.frz od u)) H E upd_same hHa good g0 (ev.swap fun b o e1 e2 e3 => ?_) ⟨fun P' G' H' σ' env' gr' g' ev' => ok.nx P' G' H' σ' env' (gr.behind (dr gr')) g' (ev'.swap (sw (G' := G'))), fun v s P' G' H' σ' env' gr' g' ev' r' => ok.rt v s P' G' H' σ' env' (gr.behind (dr gr')) g' (ev'.swap (sw (G' := G'))) (r'.swap (G' := G') (sw (G' := G'))), fun P' G' H' σ' env' gr' g' ev' => ok.bk P' G' H' σ' env' (gr.behind (dr gr')) g' (ev'.swap (sw (G' := G'))), fun P' G' H' σ' env' gr' g' ev' => ok.ct P' G' H' σ' env' (gr.behind (dr gr')) g' (ev'.swap (sw (G' := G')))⟩)
        have hba : b ≠ a := fun e => by subst e; rw [e3] at hGa; cases hGa
        exact ⟨by rw [upd_ne hba]; exact e2, e1⟩
theorem d1_for {iter tg : Expr} {body : List Stmt} {φ : SG} (hp : PassesOwn (model X.prog X.w) X.A X.env X.xe) (hc : X.calm = true) (hi : DI κ X tg iter far) (hg : SD κ X tg φ) (hb : DS κ X body s1) (hs : ∀ x, foldedSetIterable iter X.env x = pure x := by intro _; rfl) : D1 κ X (.For tg iter body [] pos) (sFor far φ s1) := by
  obtain ⟨w, pw, qw⟩ := hi
  obtain ⟨g, pg, qg⟩ := hg
  obtain ⟨tb, pb, qb⟩ := hb
  exact ⟨_, PS.lkS (ps_for hp hc pw pg pb hs), for_lift qw qg qb⟩
def sWhile (c : FT) (body : FS) : FS := fun D env n => ∃ W : Nat → SEnv → Nat → Prop, (∃ m, W m env n) ∧ ∀ m env n, W m env n → c (view env) n fun b k => if b = true then body { D with nx := fun e j => ∃ m', m' < m ∧ W m' e j, ct := fun e j => ∃ m', m' < m ∧ W m' e j, bk := D.nx } env k else D.nx env k
theorem while_lift {tb : TS} (hc : RdT κ ft tt) (hb : RdS κ s1 tb) : RdS κ (sWhile ft s1) (tWhile tt tb) := fun P0 G0 H0 P G H σ env D E gr g ev hf ok => by
  obtain ⟨W, ⟨m0, h0⟩, hW⟩ := hf
  refine ⟨fun m σ' H' => ∃ P' G' env', Good κ P' G' H' ∧ Grow P0 G0 H0 P' G' H' ∧ SEnvR κ H0 P' G' H' σ' env' ∧ W m env' P'.n, ⟨m0, P, G, env, g, gr, ev, h0⟩, ?_⟩
  rintro m σ' H' ⟨P', G', env', g', gr', ev', hw⟩
  have again : ∀ (n : SEnv → Nat → Prop), (∀ e j, n e j → ∃ m', m' < m ∧ W m' e j) → OkN κ P0 G0 H0 n (fun σ2 H2 => ∃ m', m' < m ∧ ∃ P2 G2 env2, Good κ P2 G2 H2 ∧ Grow P0 G0 H0 P2 G2 H2 ∧ SEnvR κ H0 P2 G2 H2 σ2 env2 ∧ W m' env2 P2.n) := fun n hn P2 G2 H2 σ2 env2 gr2 g2 ev2 h2 => by
    obtain ⟨m', h1, h2⟩ := hn _ _ h2
    exact ⟨m', h1, P2, G2, env2, g2, gr2, ev2, h2⟩
  refine at_test hc g' ev' (hW m env' P'.n hw) fun b P2 G2 H2 gr2 g2 ev2 hq => ?_
  cases b with
  | true => exact ⟨_, fun _ _ h => h, hb P0 G0 H0 P2 G2 H2 σ' env' _ _ (gr'.trans gr2) g2 ev2 hq ⟨again _ fun _ _ h => h, ok.rt, ok.nx, again _ fun _ _ h => h⟩⟩
  | false => exact ok.nx P2 G2 H2 σ' env' (gr'.trans gr2) g2 ev2 hq
theorem d1_while {body : List Stmt} (hp : PassesOwn (model X.prog X.w) X.A X.env X.xe) (hc : DT κ X e ft) (hb : DS κ X body s1) : D1 κ X (.While e body [] pos) (sWhile ft s1) := by
  obtain ⟨t, p, q⟩ := hc
  obtain ⟨tb, pb, qb⟩ := hb
  exact ⟨_, ps_while hp p pb, while_lift q qb⟩
end
end DL
namespace DL
open PySem PySem.Spec PyProof.Rows L2
abbrev FX := DEnv → Nat → (Sl → Nat → Prop) → Prop
abbrev FXs := DEnv → Nat → (List Sl → Nat → Prop) → Prop
abbrev RdX (κ : Kit) (g : FX) (te : TE) : Prop := ∀ (P : Wd) (G H : Hp) (σ : L2.St) (env : DEnv) (Q : Sl → Nat → Prop) (R : VK), Good κ P G H → EnvR κ G P.iv σ env → g env P.n Q →
  (∀ v s P' G' H', Grow P G H P' G' H' → Good κ P' G' H' → SlR κ H P' G' H' v s → Q s P'.n → R v H') → te σ H R
def DX (κ : Kit) (X : Cx) (e : Expr) (g : FX) : Prop := ∃ t, PE X e t ∧ RdX κ g t
/-- values and own lists, no list twice -/
def SlRs (κ : Kit) (H0 : Hp) (P : Wd) (G H : Hp) : List V → List Sl → Prop
  | [], [] => True
  | v :: vs, s :: ss => SlR κ H0 P G H v s ∧ (∀ a, Holds s v a → ∀ (i : Nat) (t : Sl) (w : V), ss[i]? = some t → vs[i]? = some w → ¬ Holds t w a) ∧ SlRs κ H0 P G H vs ss
  | _, _ => False
abbrev RdXs (κ : Kit) (g : FXs) (te : TA) : Prop := ∀ (P : Wd) (G H : Hp) (σ : L2.St) (env : DEnv) (Q : List Sl → Nat → Prop) (R : List V → Hp → Prop), Good κ P G H → EnvR κ G P.iv σ env → g env P.n Q →
  (∀ vs ss P' G' H', Grow P G H P' G' H' → Good κ P' G' H' → SlRs κ H P' G' H' vs ss → Q ss P'.n → R vs H') → te σ H R
def DXs (κ : Kit) (X : Cx) (es : List Expr) (g : FXs) : Prop := ∃ t, PA X es t ∧ RdXs κ g t
section
variable {κ : Kit} {X : Cx} {H0 : Hp} {P : Wd} {G H : Hp} {σ : L2.St} {env : SEnv} {a b e : Expr} {st : Stmt} {sts : List Stmt} {fa fb f : FE} {fo : FA} {ft : FT} {s1 s2 : FS} {te : TE} {tt : TT} {pos : Pos} {es : List Expr} {far : FA} {fx : FX} {fxs : FXs}
@[simp] def sSet (i : Nat) (fv fk : FE) : FS := fun D env n => fv (view env) n fun d m => treeD d = true ∧ ∃ xs, env[i]? = some (some (.own xs)) ∧ fk (view env) m fun k m2 => treeD k = true ∧ ∃ z j, k = .int z ∧ ixN xs.length z = some j ∧ D.nx (env.set i (some (.own (xs.set j d)))) m2
@[simp] def xV (f : FE) : FX := fun env n Q => f env n fun d m => Q (.val d) m
@[simp] def xO (f : FA) : FX := fun env n Q => f env n fun d m => Q (.own d) m
theorem dx_v (h : DE κ X e f) : DX κ X e (xV f) := by
  obtain ⟨t, p, q⟩ := h
  exact ⟨t, p, fun P G H σ env Q R g ev hf hR => q P G H σ env _ _ g ev hf fun v P' G' H' d gr g' r hq => hR v (.val d) P' G' H' gr g' r hq⟩
theorem dx_o (h : DO κ X e fo) : DX κ X e (xO fo) := by
  obtain ⟨t, p, q⟩ := h
  exact ⟨t, p, fun P G H σ env Q R g ev hf hR => q P G H σ env _ _ g ev hf fun a P' G' H' vs xs gr g' ha hg hi hh hz r hq => hR _ (.own xs) P' G' H' gr g' ⟨a, rfl, own_of ha hg hi hh hz r⟩ hq⟩
@[simp] def xNil : FXs := fun _ n Q => Q [] n
@[simp] def xCons (f : FX) (r : FXs) : FXs := fun env n Q => f env n fun x n1 => r env n1 fun xs n2 => Q (x :: xs) n2
theorem SlR.base {H0 H1 : Hp} {P : Wd} {G H : Hp} {v : V} {s : Sl} (h : ∀ a, H1 a = none → H0 a = none) (r : SlR κ H1 P G H v s) : SlR κ H0 P G H v s :=
  r.to (fun _ _ h => h) (fun _ _ h => h) fun b hb => by
    obtain ⟨k1, k2, k3, _⟩ := r.held hb
    exact ⟨fun _ h => h, h b k1, k2, k3⟩
theorem SlRs.base {H0 H1 : Hp} {P : Wd} {G H : Hp} (h : ∀ a, H1 a = none → H0 a = none) : ∀ {vs : List V} {ss : List Sl}, SlRs κ H1 P G H vs ss → SlRs κ H0 P G H vs ss
  | [], [], _ => trivial
  | [], _ :: _, r => r.elim
  | _ :: _, [], r => r.elim
  | _ :: _, _ :: _, r => ⟨r.1.base h, r.2.1, SlRs.base h r.2.2⟩
theorem SlRs.get {H0 : Hp} {P : Wd} {G H : Hp} : ∀ {vs : List V} {ss : List Sl} {i : Nat} {t : Sl}, SlRs κ H0 P G H vs ss → ss[i]? = some t → ∃ v, vs[i]? = some v ∧ SlR κ H0 P G H v t
  | [], [], _, _, _, h => by simp at h
  | [], _ :: _, _, _, r, _ => r.elim
  | _ :: _, [], _, _, r, _ => r.elim
  | v :: vs, s :: ss, 0, t, r, h => by simp at h; subst h; exact ⟨v, rfl, r.1⟩
  | v :: vs, s :: ss, i + 1, t, r, h => by
    obtain ⟨u, h1, h2⟩ := SlRs.get (i := i) r.2.2 (by simpa using h)
    exact ⟨u, by simpa using h1, h2⟩
theorem dxs_nil : DXs κ X [] xNil := ⟨_, pa_nil, fun P G H σ env Q R g ev h hR => hR [] [] P G H .refl g trivial h⟩
theorem dxs_cons (ha : DX κ X e fx) (hr : DXs κ X es fxs) (hs : starEach (e :: es) X.env = (false, eval e X.env) :: starEach es X.env := by rfl) : DXs κ X (e :: es) (xCons fx fxs) := by
  obtain ⟨ta, pa, qa⟩ := ha
  obtain ⟨tb, pb, qb⟩ := hr
  refine ⟨_, pa_cons pa pb hs, fun P G H σ env Q R g ev hf hR => ?_⟩
  refine qa P G H σ env _ _ g ev hf fun x s P1 G1 H1 gr1 g1 rx hf1 => qb P1 G1 H1 σ env _ _ g1 (ev.grow gr1) hf1 fun xs ss P2 G2 H2 gr2 g2 rs hq => ?_
  refine hR _ (s :: ss) P2 G2 H2 (gr1.trans gr2) g2 ⟨rx.grow gr2, fun a ho i t w ht hw hto => ?_, rs.base fun a h => gr1.back h⟩ hq
  obtain ⟨u, h1, h2⟩ := rs.get ht
  rw [hw] at h1
  cases h1
  obtain ⟨h3, _⟩ := h2.held hto
  obtain ⟨_, _, _, o, h4⟩ := rx.held ho
  rw [h4] at h3; cases h3
/-- the slots of several names, one behind the other -/
@[simp] def setS : List Nat → List Sl → SEnv → SEnv
  | i :: is, s :: ss, env => setS is ss (env.set i (some s))
  | _, _, env => env
def setV : List Nat → List V → L2.St → L2.St
  | i :: is, v :: vs, σ => setV is vs (σ.set i (some v))
  | _, _, σ => σ
theorem priv_set {i : Nat} {v : V} {s : Sl} {b : Addr} (hp : Priv (env.set i (some s)) (σ.set i (some v)) b) : Priv env σ b ∨ Holds s v b := by
  obtain ⟨j, t, w, h1, h3, h2⟩ := hp
  by_cases hij : i = j
  · subst hij
    rw [List.getElem?_set] at h1 h3
    simp only [if_true] at h1 h3
    split at h1
    · cases h1
      split at h3
      · cases h3; exact .inr h2
      · cases h3
    · cases h1
  · rw [List.getElem?_set_ne hij] at h1 h3
    exact .inl ⟨j, t, w, h1, h3, h2⟩
theorem SEnvR.setXs : ∀ {is : List Nat} {vs : List V} {ss : List Sl} {σ : L2.St} {env : SEnv}, SEnvR κ H0 P G H σ env → SlRs κ H0 P G H vs ss → (∀ (i : Nat) (t : Sl) (w : V) (a : Addr), ss[i]? = some t → vs[i]? = some w → Holds t w a → ¬ Priv env σ a) → SEnvR κ H0 P G H (setV is vs σ) (setS is ss env)
  | [], vs, ss, σ, env, ev, _, _ => by simpa [setV, setS] using ev
  | _ :: _, [], [], σ, env, ev, _, _ => by simpa [setV, setS] using ev
  | _ :: _, [], _ :: _, _, _, _, r, _ => r.elim
  | _ :: _, _ :: _, [], _, _, _, r, _ => r.elim
  | i :: is, v :: vs, s :: ss, σ, env, ev, r, hn => by
    simp only [setV, setS]
    refine SEnvR.setXs (ev.setX r.1 fun a ho => hn 0 s v a rfl rfl ho) r.2.2 fun j t w a h1 h2 h3 hp => ?_
    rcases priv_set hp with hp | ho
    · exact hn (j + 1) t w a (by simpa using h1) (by simpa using h2) h3 hp
    · exact r.2.1 a ho j t w h1 h2 h3
@[simp] def sPar (is : List Nat) (f : FXs) : FS := fun D env n => f (hide env) n fun ss m => ss.length = is.length ∧ D.nx (setS is ss env) m
theorem SlRs.length {H0 : Hp} {P : Wd} {G H : Hp} : ∀ {vs : List V} {ss : List Sl}, SlRs κ H0 P G H vs ss → vs.length = ss.length
  | [], [], _ => rfl
  | [], _ :: _, r => r.elim
  | _ :: _, [], r => r.elim
  | _ :: _, _ :: _, r => by simp [SlRs.length r.2.2]
theorem par_new (ev : SEnvR κ H0 P G H σ env) {P' : Wd} {G' H' : Hp} {vs : List V} {ss : List Sl} (rs : SlRs κ H P' G' H' vs ss) (i : Nat) (t : Sl) (w : V) (a : Addr) (h1 : ss[i]? = some t) (h3 : vs[i]? = some w) (h2 : Holds t w a) : ¬ Priv env σ a := fun hp => by
  obtain ⟨u, q1, q2⟩ := rs.get h1
  rw [h3] at q1
  cases q1
  obtain ⟨hb, _⟩ := q2.held h2
  obtain ⟨_, _, _, o, ho⟩ := ev.priv hp
  rw [ho] at hb; cases hb
theorem d1_par (i j : Nat) {x y : Str} {px py pt : Pos} {kt k2 pt2} (hc : X.calm = true) (hN : X.N.Nodup) (hi : X.N[i]? = some x) (hj : X.N[j]? = some y) (hij : i ≠ j) (hxl : X.env.scope.names.lookup x = some .local) (hyl : X.env.scope.names.lookup y = some .local) (h : DXs κ X [a, b] fxs)
    (mk : ∀ {ta : TA}, PA X [a, b] ta → PS X (.Assign [.Tuple [.Name x px, .Name y py] kt pt] (.Tuple [a, b] k2 pt2) pos) (tPar i j ta)) : D1 κ X (.Assign [.Tuple [.Name x px, .Name y py] kt pt] (.Tuple [a, b] k2 pt2) pos) (sPar [i, j] fxs) := by
  obtain ⟨t, p, q⟩ := h
  refine ⟨_, mk p, fun P0 G0 H0 P G H σ env D E gr g ev hf ok => q P G H σ (hide env) _ _ g ev.hide hf fun vs ss P' G' H' gr' g' rs hq => ?_⟩
  have hl := rs.length
  rw [hq.1] at hl
  match vs, hl with
  | [v, w], _ =>
    refine ⟨v, w, rfl, ?_⟩
    exact ok.nx P' G' H' _ _ (gr.trans gr') g' (SEnvR.setXs (is := [i, j]) (ev.grow gr') (rs.base fun a ha => gr.back ha) (fun k t a h1 h2 h3 => par_new ev rs k t a h1 h2 h3)) hq.2
end
end DL
namespace DL
open PySem PySem.Spec PyProof.Rows L2
section
variable {κ : Kit} {X : Cx} {H0 : Hp} {P : Wd} {G H : Hp} {σ : L2.St} {env : SEnv} {a b e : Expr} {st : Stmt} {sts : List Stmt} {fa fb f : FE} {fo : FA} {ft t1 : FT} {s1 s2 : FS} {te : TE} {tt : TT} {pos : Pos} {es : List Expr} {far : FA} {fx : FX} {fxs : FXs}
structure Names (X : Cx) (tgs : List Expr) (is : List Nat) : Prop where
  pg : ∃ g, PGs X tgs g ∧ ∀ (vs : List V) (σ : L2.St) (H : Hp) (R : L2.St → Hp → Prop), vs.length = is.length → R (setV is vs σ) H → g vs σ H R
theorem names_nil : Names X [] [] := ⟨⟨_, pgs_nil, fun vs σ H R h hR => by
  match vs, h with
  | [], _ => exact ⟨rfl, hR⟩⟩⟩
theorem names_cons (i : Nat) {is : List Nat} {x : Str} (hN : X.N.Nodup) (hi : X.N[i]? = some x) (hx : Loc X.env.scope x) (r : Names X es is) (hf : X.fn x = true ∨ X.env.scope.names.lookup x = some .local := by first | exact .inl rfl | exact .inr rfl | assumption)
    (hs : (assignEach (.Name x pos :: es) X.env).map (·.2) = assign (.Name x pos) X.env :: (assignEach es X.env).map (·.2) := by rfl) : Names X (.Name x pos :: es) (i :: is) := by
  obtain ⟨g, p, q⟩ := r.pg
  refine ⟨⟨_, pgs_cons (pg_name hN hi hx hf) p hs, fun vs σ H R h hR => ?_⟩⟩
  match vs, h with
  | v :: vs, h => exact ⟨v, vs, rfl, q vs _ H R (by simpa using h) hR⟩
theorem d1_tupAsg {tgs : List Expr} {is : List Nat} {k1 k2 : _} {pt p2 : Pos} (hc : X.calm = true) (hz : is.length ≤ 1000) (h : DXs κ X es fxs) (r : Names X tgs is) (hn : (assignEach tgs X.env).length = is.length := by rfl) (hst : (assignEach tgs X.env).findIdx? (·.1) = none := by rfl)
    (hs : swapsWithSole [.Tuple tgs k1 pt] (.Tuple es k2 p2) pos.line X.env = pure false := by rfl) (hw : swappedStores [.Tuple tgs k1 pt] (.Tuple es k2 p2) X.env = pure none := by rfl) (h1 : (assignEach [.Tuple tgs k1 pt] X.env).map (·.2) = [assign (.Tuple tgs k1 pt) X.env] := by rfl) :
    D1 κ X (.Assign [.Tuple tgs k1 pt] (.Tuple es k2 p2) pos) (sPar is fxs) := by
  obtain ⟨t, p, q⟩ := h
  obtain ⟨g, pg, qg⟩ := r.pg
  refine ⟨_, ps_asg (pe_tup p) (pg_tup hc pg hn hst) hs hw h1, fun P0 G0 H0 P G H σ env D E gr gd ev hf ok => q P G H σ (hide env) _ _ gd ev.hide hf fun vs ss P' G' H' gr' g' rs hq => ?_⟩
  have hl := rs.length
  refine ⟨by rw [hl, hq.1]; exact Nat.le_trans hz (by decide), fun tp htp => ?_⟩
  refine ⟨tp, vs, rfl, SqT.of upd_same, by rw [hl, hq.1], qg vs σ _ _ (by rw [hl, hq.1]) ?_⟩
  have gn : Grow P' G' H' P' G' (upd H' tp (.tup vs)) := Grow.new htp
  have rs' : ∀ {vs ss}, SlRs κ H P' G' H' vs ss → SlRs κ H P' G' (upd H' tp (.tup vs)) vs ss := fun {vs ss} h => by
    have : ∀ {o : HO} {vs : List V} {ss : List Sl}, SlRs κ H P' G' H' vs ss → SlRs κ H P' G' (upd H' tp o) vs ss := fun {o vs ss} h => by
      induction vs generalizing ss with
      | nil => cases ss with
        | nil => trivial
        | cons => exact h.elim
      | cons v vs ih => cases ss with
        | nil => exact h.elim
        | cons s ss => exact ⟨h.1.grow (Grow.new htp), h.2.1, ih h.2.2⟩
    exact this h
  exact ok.nx P' G' _ _ _ ((gr.trans gr').trans gn) (g'.new htp) (SEnvR.setXs ((ev.grow gr').grow gn) (SlRs.base (fun a ha => gr.back ha) (rs' rs)) (fun k t a h1 h2 h3 => par_new ev rs k t a h1 h2 h3)) hq.2
abbrev FC := List D → Nat → (Sl → Nat → Prop) → Prop
/-- the promise: from data to data -/
def spD (κ : Kit) (k : Nat) (F : FC) : Sp := fun vs H Q _ => vs.length = k ∧ ∃ P G ds QD, Good κ P G H ∧ Reps κ G P.iv vs ds ∧ F ds P.n QD ∧ ∀ v s P' G' H', Grow P G H P' G' H' → Good κ P' G' H' → SlR κ H P' G' H' v s → QD s P'.n → Q v H'
@[simp] def startE (k : Nat) (ds : List D) : SEnv := ds.map (fun d => some (.val d)) ++ List.replicate k none
theorem start_env {N : List Str} {vs : List V} {ds : List D} {m : Nat} (g : Good κ P G H) (r : Reps κ G P.iv vs ds) (hm : m = N.length - vs.length) : SEnvR κ H P G H (L2.start N vs) (startE m ds) := by
  subst hm
  have hl := r.length
  refine ⟨by unfold startE L2.start; simp [hl], fun i s h => ?_, fun i j s t v w a hij h1 h2 e1 e2 o1 o2 => ?_⟩
  · unfold startE at h
    rw [List.getElem?_append] at h
    split at h
    · rename_i hi
      rw [List.length_map] at hi
      rw [List.getElem?_map, List.getElem?_eq_getElem hi] at h
      cases h
      obtain ⟨v, h1, h2⟩ := r.get (List.getElem?_eq_getElem hi)
      refine ⟨v, ?_, h2⟩
      unfold L2.start
      rw [List.getElem?_append_left (by rw [List.length_map, hl]; exact hi), List.getElem?_map, h1]
      rfl
    · rw [List.getElem?_replicate] at h
      split at h <;> cases h
  · unfold startE at h1
    rw [List.getElem?_append] at h1
    split at h1
    · rw [List.getElem?_map] at h1
      cases e : ds[i]? with
      | none => rw [e] at h1; cases h1
      | some d => rw [e] at h1; cases h1; exact o1.elim
    · rw [List.getElem?_replicate] at h1
      split at h1 <;> cases h1
end
section
variable {κ : Kit} {P : Program} {w : World} {mg : Str → Option Value} {base : Heap} {K : PySem.W.Frag}
/-- THE RULE of a def: its body reads as f, and what is promised leads into f -/
theorem fn_dl {x qual : Str} {st : Stmt} {fa : Addr} {fd : FuncData} {N ps : List Str} {k : Nat} {F : FC} {f : FS} (Fn : Fun K x qual st fa fd) (S : FnScope N ps (defScope st))
    (hb : ∀ (cdv : Value) (A : Around) (outer : List Env) (s : Shared) (H : Hp) (E : XK), Room k (A.deeper (envOfC qual (defScope st) s.heap.objs.size fa cdv)) → DS κ (cxOf CX0 P w K mg base N qual (defScope st) fa cdv A outer s H E).nox (defBody st) f)
    (hF : ∀ ds n Q, F ds n Q → ds.length = ps.length → f { nx := fun _ m => Q (.val .non) m, rt := fun _ => Q } (startE (N.length - ps.length) ds) n) : FnOk P w K mg base CX0 (k + 1) fa fd ps (spD κ ps.length F) := by
  refine Fn.ok S (fun vs H Q E h => h.1) (fun cdv A outer s H vs Q E hr h => ?_)
  obtain ⟨hl, Pw, G, ds, QD, g, r, hf, hQ⟩ := h
  obtain ⟨t, p, q⟩ := hb cdv A outer s H E hr
  refine ⟨t, p, q Pw G H Pw G H _ _ _ _ .refl g (start_env g r (by rw [hl])) (hF ds Pw.n QD hf (by rw [← r.length]; exact hl)) ⟨?_, ?_, ?_, ?_⟩⟩
  · exact fun P' G' H' σ env gr g' ev h => hQ .non (.val .non) P' G' H' gr g' .non h
  · exact fun v s P' G' H' σ' env' gr g' ev' rs sp h => hQ v s P' G' H' gr g' rs h
  · exact fun P' G' H' σ env gr g' ev h => h.elim
  · exact fun P' G' H' σ env gr g' ev h => h.elim
theorem fn_dlD {x qual : Str} {st : Stmt} {dvs : List V} {fa : Addr} {fd : FuncData} {N ps : List Str} {k : Nat} {F : FC} {f : FS} (Fn : FunD K x qual (defArgs st) (defBody st) (defScope st) dvs [] fa fd) (S : FnScope N ps (defScope st))
    (hb : ∀ (cdv : Value) (A : Around) (outer : List Env) (s : Shared) (H : Hp) (E : XK), Room k (A.deeper (envOfC qual (defScope st) s.heap.objs.size fa cdv)) → DS κ (cxOf CX0 P w K mg base N qual (defScope st) fa cdv A outer s H E).nox (defBody st) f)
    (hF : ∀ ds n Q, F ds n Q → ds.length = ps.length → f { nx := fun _ m => Q (.val .non) m, rt := fun _ => Q } (startE (N.length - ps.length) ds) n) : FnOk P w K mg base CX0 (k + 1) fa fd ps (spD κ ps.length F) := by
  refine Fn.ok S (fun vs H Q E h => h.1) (fun cdv A outer s H vs Q E hr h => ?_)
  obtain ⟨hl, Pw, G, ds, QD, g, r, hf, hQ⟩ := h
  obtain ⟨t, p, q⟩ := hb cdv A outer s H E hr
  refine ⟨t, p.nox, q Pw G H Pw G H _ _ _ _ .refl g (start_env g r (by rw [hl])) (hF ds Pw.n QD hf (by rw [← r.length]; exact hl)) ⟨?_, ?_, ?_, ?_⟩⟩
  · exact fun P' G' H' σ env gr g' ev h => hQ .non (.val .non) P' G' H' gr g' .non h
  · exact fun v s P' G' H' σ' env' gr g' ev' rs sp h => hQ v s P' G' H' gr g' rs h
  · exact fun P' G' H' σ env gr g' ev h => h.elim
  · exact fun P' G' H' σ env gr g' ev h => h.elim
end
section
variable {κ : Kit} {X : Cx} {e : Expr} {es : List Expr} {far : FA} {pos p : Pos} {x : Str} {k j : Nat} {f : Addr} {fd : FuncData} {ps : List Str} {F : FC} {dvs : List V} {ds : List Value} {dds : List D}
theorem own_frz {P : Wd} {G H : Hp} {G1 H1 : Hp} {P1 : Wd} {a : Addr} {xs : List D} (gr : Grow P G H P1 G1 H1) (g : Good κ P1 G1 H1) (o : OwnL κ H P1 G1 H1 a xs) : ∃ G2, Grow P G H P1 G2 H1 ∧ Good κ P1 G2 H1 ∧ Rep κ G2 P1.iv (.ref a) (.lst xs) := by
  obtain ⟨vs, h1, h2, h3, h4, h5, h6⟩ := o
  exact ⟨upd G1 a (.lst vs), gr.frz h3 h4, g.frz h4 h5 h1, .lst upd_same h2 (reps_frz h4 h6)⟩
theorem ownd_frz {P : Wd} {G H : Hp} {G1 H1 : Hp} {P1 : Wd} {a : Addr} {ks vs : List D} (gr : Grow P G H P1 G1 H1) (g : Good κ P1 G1 H1) (o : OwnD κ H P1 G1 H1 a ks vs) : ∃ G2, Grow P G H P1 G2 H1 ∧ Good κ P1 G2 H1 ∧ Rep κ G2 P1.iv (.ref a) (.dct ks vs) := by
  obtain ⟨kk, us, h1, hl, hz, hn, hk, h3, h4, h5, h6⟩ := o
  subst hk
  exact ⟨upd G1 a (.dK (kk.zip us)), gr.frz h3 h4, g.frz h4 h5 h1, .dctK upd_same hl hz hn (reps_frz h4 h6)⟩
open Classical in
/-- the frozen part with these addresses -/
noncomputable def frzS (S : List Addr) (G H : Hp) : Hp := fun a => if a ∈ S then H a else G a
theorem frzS_sub {S : List Addr} {G H : Hp} (h : ∀ a ∈ S, G a = none) : ∀ a o, G a = some o → frzS S G H a = some o := fun a o e => by
  unfold frzS
  rw [if_neg fun hm => by rw [h a hm] at e; cases e]; exact e
theorem Grow.frzS {P : Wd} {G H : Hp} {G1 H1 : Hp} {P1 : Wd} {S : List Addr} (a : Grow P G H P1 G1 H1) (h : ∀ a ∈ S, H a = none ∧ G1 a = none) : Grow P G H P1 (frzS S G1 H1) H1 where
  fz := a.fz
  iv := a.iv
  n := a.n
  g := fun x u e => frzS_sub (fun b hb => (h b hb).2) x u (a.g x u e)
  h := a.h
  dom := a.dom
  fresh := fun x u e => by
    obtain ⟨q1, q2, q3⟩ := a.fresh x u e
    refine ⟨q1, q2, ?_⟩
    have : DL.frzS S G1 H1 x = G1 x := by
      unfold DL.frzS
      rw [if_neg fun hm => by rw [(h x hm).1] at e; cases e]
    rw [this]; exact q3
theorem Good.frzS {P : Wd} {G H : Hp} {S : List Addr} (g : Good κ P G H) (h : ∀ a ∈ S, G a = none ∧ P.iv a = none) : Good κ P (frzS S G H) H where
  fx := g.fx
  pg := fun a u e => frzS_sub (fun b hb => (h b hb).1) a u (g.pg a u e)
  gh := fun a u e => by
    unfold DL.frzS at e
    by_cases hm : a ∈ S
    · rw [if_pos hm] at e; exact .inl e
    · rw [if_neg hm] at e; exact g.gh a u e
  gi := fun a t e => by
    obtain ⟨q1, u, q2, q3⟩ := g.gi a t e
    refine ⟨?_, u, q2, q3⟩
    unfold DL.frzS
    rw [if_neg fun hm => by rw [(h a hm).2] at e; cases e]; exact q1
theorem ownt_frz {P : Wd} {G H : Hp} {G1 H1 : Hp} {P1 : Wd} {v : V} {t : OT} (gr : Grow P G H P1 G1 H1) (g : Good κ P1 G1 H1) (o : OwnT κ H P1 G1 H1 v t) : ∃ G2, Grow P G H P1 G2 H1 ∧ Good κ P1 G2 H1 ∧ Rep κ G2 P1.iv v t.view := by
  obtain ⟨h1, h2, h3⟩ := o
  exact ⟨frzS t.own G1 H1, gr.frzS fun a ha => ⟨(h3 a ha).1, (h3 a ha).2.1⟩, g.frzS fun a ha => (h3 a ha).2, h1.seen (frzS_sub fun a ha => (h3 a ha).2.1) fun a ha o ho => by unfold frzS; rw [if_pos ha]; exact ho⟩
theorem sl_frz {P : Wd} {G H : Hp} {G1 H1 : Hp} {P1 : Wd} {v : V} {s : Sl} (gr : Grow P G H P1 G1 H1) (g : Good κ P1 G1 H1) (r : SlR κ H P1 G1 H1 v s) : ∃ G2, Grow P G H P1 G2 H1 ∧ Good κ P1 G2 H1 ∧ Rep κ G2 P1.iv v s.view := by
  cases s with
  | val d => exact ⟨G1, gr, g, r⟩
  | own xs => obtain ⟨a, e, o⟩ := r; subst e; exact own_frz gr g o
  | ownd ks vs => obtain ⟨a, e, o⟩ := r; subst e; exact ownd_frz gr g o
  | tre t => exact ownt_frz gr g r
/-- f(..) as a value; as a new list; as either -/
@[simp] def fCall (j : Nat) (F : FC) (dds : List D) (far : FA) : FE := fun env n Q => far env n fun ds m => (ds ++ dds).length = j ∧ F (ds ++ dds) m fun s k => Q s.view k
@[simp] def oCall (j : Nat) (F : FC) (dds : List D) (far : FA) : FA := fun env n Q => far env n fun ds m => (ds ++ dds).length = j ∧ F (ds ++ dds) m fun s k => ∃ xs, s = .own xs ∧ Q xs k
@[simp] def xCall (j : Nat) (F : FC) (dds : List D) (far : FA) : FX := fun env n Q => far env n fun ds m => (ds ++ dds).length = j ∧ F (ds ++ dds) m Q
theorem call_lift {t : TA} (hdd : ∀ (G : Hp) (iv : IV), Reps κ G iv dvs dds) (ha : RdA κ far t) : RdX κ (xCall j F dds far) (tCall (spD κ j F) dvs E0 t) := fun P G H σ env Q R g ev hf hR =>
  ha P G H σ env _ _ g ev hf fun vs P1 G1 H1 ds gr1 g1 r1 h1 => by
    have r := r1.append (hdd G1 P1.iv)
    exact ⟨by rw [r.length]; exact h1.1, P1, G1, ds ++ dds, Q, g1, r, h1.2, fun v s P2 G2 H2 gr2 g2 rs hq => hR v s P2 G2 H2 (gr1.trans gr2) g2 (rs.base fun a ha => gr1.back ha) hq⟩
/-- a def of the module that keeps its promise, by at most k levels; dds: the defaults that fill up -/
def Cal (κ : Kit) (P : Program) (w : World) (K : PySem.W.Frag) (mg : Str → Option Value) (base : Heap) (x : Str) (k j : Nat) (F : FC) (dds : List D) : Prop :=
  ∃ (f : Addr) (fd : FuncData) (ps : List Str) (dvs : List V) (ds : List Value), FnOk P w K mg base CX0 k f fd ps (spD κ j F) ∧ mg x = some (.ref f) ∧ PySem.W.keepIn K (.ref f) = true ∧ Binds K fd ps ds ∧ Vals dvs ds ∧ ∀ (G : Hp) (iv : IV), Reps κ G iv dvs dds
theorem Cal.mono {P : Program} {w : World} {K : PySem.W.Frag} {mg : Str → Option Value} {base : Heap} {x : Str} {k k' j : Nat} {F : FC} {dds : List D} (c : Cal κ P w K mg base x k j F dds) (h : k ≤ k') : Cal κ P w K mg base x k' j F dds := by
  obtain ⟨f, fd, ps, dvs, ds, Fn, r⟩ := c
  exact ⟨f, fd, ps, dvs, ds, Fn.mono h, r⟩
variable {k' : Nat} (c : Cal κ X.prog X.w X.K X.mg X.base x k j F dds) (hr : Room k' X.A)
include c hr
theorem dx_call (ha : DA κ X (e :: es) far) (hk : k ≤ k' := by first | decide | exact Nat.le_refl _ | omega) (hg : Gl X x := by rfl) (hdb : (x == ("__debug__" : Str)) = false := by decide) (he : starEach (e :: es) X.env = (false, eval e X.env) :: starEach es X.env := by rfl) (hpl : (backTo pos (starEach es X.env)).any (·.1) = false := by rfl) :
    DX κ X (.Call (.Name x p) (e :: es) [] pos) (xCall j F dds far) := by
  obtain ⟨f, fd, ps, dvs, ds, Fn, hm, hkp, hb, hd, hdd⟩ := c
  obtain ⟨t, pt, q⟩ := ha
  exact ⟨_, pe_call Fn (hr.mono hk) hg hm hkp hb hd pass0 pt hdb he hpl, call_lift hdd q⟩
omit c hr in
theorem DX.de {e : Expr} {far : FA} (h : DX κ X e (xCall j F dds far)) : DE κ X e (fCall j F dds far) := by
  obtain ⟨t, pt, q⟩ := h
  refine ⟨t, pt, fun P G H σ env Q R g ev hf hR => q P G H σ env (fun s k => Q s.view k) R g ev hf fun v s P' G' H' gr g' rs hq => ?_⟩
  obtain ⟨G2, gr2, g2, r2⟩ := sl_frz gr g' rs
  exact hR v P' G2 H' _ gr2 g2 r2 hq
end
end DL
namespace DL
open PySem PySem.Spec PyProof.Rows L2
section
variable {κ : Kit} {X : Cx} {a b c e o tg : Expr} {es : List Expr} {fa fb fc f : FE} {fo fo2 : FA} {far : FA} {pos p p2 : Pos} {t1 t2 : FT} {x : Str} {k : Nat}
theorem v (i : Nat) (hN : X.N[i]? = some x := by rfl) (hv : Vis X.env.scope x := by first | exact Or.inl rfl | exact Or.inr (Or.inl rfl) | exact Or.inr (Or.inr rfl)) (hd : (x == ("__debug__" : Str)) = false := by decide) (hcd : (x == ("__classdict__" : Str)) = false := by decide) : DE κ X (.Name x pos) (fVar i) := de_var hN hv hd hcd
theorem c_str {j} (s : List Nat) (hs : x = ⟨s.toArray⟩ := by rfl) (hl : OkS s := by exact ⟨by decide, by decide⟩) : DE κ X (.Constant (.str x) j pos) (fC (.str s)) := de_str s hs hl
/-- a + b: ints, texts, lists -/
def gAdd3 (x y : D) (n : Nat) (Q : D → Nat → Prop) : Prop := match x, y with
  | .int i, .int j => Q (.int (i + j)) n
  | .str s, .str t => s.length + t.length ≤ 16777216 ∧ Q (.str (s ++ t)) n
  | .lst xs, .lst ys => xs.length + ys.length ≤ 16777216 ∧ Q (.lst (xs ++ ys)) n
  | .tup xs, .tup ys => xs.length + ys.length ≤ 16777216 ∧ Q (.tup (xs ++ ys)) n
  | _, _ => False
theorem e_add (ha : DE κ X a fa) (hb : DE κ X b fb) : DE κ X (.BinOp a .Add b pos) (f2 gAdd3 fa fb) := by
  have hl : sizeLine = 16777216 := sizeLine_eq
  refine de_op (r := fun x y H Q => (rI0 fun i j => .int (i + j)) x y H Q ∨ ((∃ i j, x = .str i ∧ y = .str j ∧ i.length + j.length ≤ sizeLine ∧ Q (.str (i ++ j)) H) ∨ (rCat x y H Q ∨ rCatA X.K x y H Q))) ?_ (OpR.or op_add (OpR.or op_add_str (OpR.or op_cat op_catA))) ha hb
  intro P G H x y dx dy Q R g rx ry hf hR
  cases rx <;> cases ry <;> try (exact False.elim hf)
  · exact .inl ⟨_, _, rfl, rfl, hR _ P G H _ .refl g .int hf⟩
  · rename_i s hs t ht
    refine .inr (.inl ⟨_, _, rfl, rfl, ?_, ?_⟩)
    · rw [str_len, str_len, hl]; exact hf.1
    · rw [str_app]; exact hR _ P G H _ .refl g (.str (hs.app ht (by rw [hl]; exact hf.1))) hf.2
  · rename_i a1 vs1 xs1 h1 z1 r1 a2 vs2 xs2 h2 z2 r2
    have hz : vs1.length + vs2.length ≤ sizeLine := by rw [r1.length, r2.length, hl]; exact hf.1
    refine .inr (.inr (.inl ⟨_, _, _, _, rfl, rfl, g.gx h1 rfl, g.gx h2 rfl, hz, fun p hp => ?_⟩))
    exact hR _ P (upd G p (.lst _)) _ _ ((Grow.new hp).frz hp (g.gnone hp)) ((g.new hp).frz (g.gnone hp) (g.inone hp) upd_same) (.lst upd_same (by rw [List.length_append]; exact hz) (reps_frz (g.gnone hp) (r1.append r2))) hf.2
  · rename_i a1 vs1 xs1 h1 z1 r1 a2 vs2 xs2 h2 z2 r2
    have hz : vs1.length + vs2.length ≤ sizeLine := by rw [r1.length, r2.length, hl]; exact hf.1
    refine .inr (.inr (.inr ⟨_, _, _, _, rfl, rfl, SqT.of (g.gx h1 rfl), SqT.of (g.gx h2 rfl), hz, fun e => ?_, fun _ e => ?_, fun _ _ p hp => ?_⟩))
    · subst e
      cases r1
      exact hR _ P G H _ .refl g (.tup h2 z2 r2) hf.2
    · subst e
      cases r2
      exact hR _ P G H _ .refl g (by rw [List.append_nil]; exact .tup h1 z1 r1) hf.2
    · exact hR _ P (upd G p (.tup _)) _ _ ((Grow.new hp).frz hp (g.gnone hp)) ((g.new hp).frz (g.gnone hp) (g.inone hp) upd_same) (.tup upd_same (by rw [List.length_append]; exact hz) (reps_frz (g.gnone hp) (r1.append r2))) hf.2
theorem e_sub (ha : DE κ X a fa) (hb : DE κ X b fb) : DE κ X (.BinOp a .Sub b pos) (f2 gSub fa fb) := de_sub ha hb
theorem e_mul (ha : DE κ X a fa) (hb : DE κ X b fb) : DE κ X (.BinOp a .Mult b pos) (f2 gMul fa fb) := de_mul ha hb
theorem e_div (ha : DE κ X a fa) (hb : DE κ X b fb) : DE κ X (.BinOp a .FloorDiv b pos) (f2 gDiv fa fb) := de_div ha hb
theorem e_mod (ha : DE κ X a fa) (hb : DE κ X b fb) : DE κ X (.BinOp a .Mod b pos) (f2 gMod fa fb) := de_mod ha hb
theorem e_pow (ha : DE κ X a fa) (hb : DE κ X b fb) : DE κ X (.BinOp a .Pow b pos) (f2 gPow fa fb) := de_pow ha hb
theorem e_lt (ha : DE κ X a fa) (hb : DE κ X b fb) : DE κ X (.Compare a [.Lt] [b] pos) (f2 gLt fa fb) := CR.de (cr_lt) ha hb (nomark _)
theorem t_lt (ha : DE κ X a fa) (hb : DE κ X b fb) : DT κ X (.Compare a [.Lt] [b] pos) (tVal (f2 gLt fa fb)) := CR.dt (cr_lt) ha hb (nomark _)
theorem e_le (ha : DE κ X a fa) (hb : DE κ X b fb) : DE κ X (.Compare a [.LtE] [b] pos) (f2 gLe fa fb) := CR.de (cr_le) ha hb (nomark _)
theorem t_gt (ha : DE κ X a fa) (hb : DE κ X b fb) : DT κ X (.Compare a [.Gt] [b] pos) (tVal (f2 gGt fa fb)) := CR.dt (cr_gt) ha hb (nomark _)
theorem e_ge (ha : DE κ X a fa) (hb : DE κ X b fb) : DE κ X (.Compare a [.GtE] [b] pos) (f2 gGe fa fb) := CR.de (cr_ge) ha hb (nomark _)
theorem e_eq (hr : Room k X.A) (ha : DE κ X a fa) (hb : DE κ X b fb) : DE κ X (.Compare a [.Eq] [b] pos) (f2 gEq fa fb) := CR.de (cr_eq hr.units) ha hb (nomark _)
theorem t_eq (hr : Room k X.A) (ha : DE κ X a fa) (hb : DE κ X b fb) : DT κ X (.Compare a [.Eq] [b] pos) (tVal (f2 gEq fa fb)) := CR.dt (cr_eq hr.units) ha hb (nomark _)
theorem e_ne (hr : Room k X.A) (ha : DE κ X a fa) (hb : DE κ X b fb) : DE κ X (.Compare a [.NotEq] [b] pos) (f2 gNe fa fb) := CR.de (cr_ne hr.units) ha hb (nomark _)
theorem t_ne (hr : Room k X.A) (ha : DE κ X a fa) (hb : DE κ X b fb) : DT κ X (.Compare a [.NotEq] [b] pos) (tVal (f2 gNe fa fb)) := CR.dt (cr_ne hr.units) ha hb (nomark _)
theorem e_isN (ha : DE κ X a fa) (hb : DE κ X b fb) : DE κ X (.Compare a [.Is] [b] pos) (f2 gIsN fa fb) := CR.de (cr_isN) ha hb (nomark _)
theorem t_isN (ha : DE κ X a fa) (hb : DE κ X b fb) : DT κ X (.Compare a [.Is] [b] pos) (tVal (f2 gIsN fa fb)) := CR.dt (cr_isN) ha hb (nomark _)
theorem e_in (hr : Room k X.A) (ha : DE κ X a fa) (hb : DE κ X b fb) (hm : behindInMarks .In b = false := by rfl) : DE κ X (.Compare a [.In] [b] pos) (f2 gIn fa fb) := CR.de (cr_in (hu_of hr)) ha hb hm
theorem t_in (hr : Room k X.A) (ha : DE κ X a fa) (hb : DE κ X b fb) (hm : behindInMarks .In b = false := by rfl) : DT κ X (.Compare a [.In] [b] pos) (tVal (f2 gIn fa fb)) := CR.dt (cr_in (hu_of hr)) ha hb hm
theorem t_notIn (hr : Room k X.A) (ha : DE κ X a fa) (hb : DE κ X b fb) (hm : behindInMarks .NotIn b = false := by rfl) : DT κ X (.Compare a [.NotIn] [b] pos) (tVal (f2 gNotIn fa fb)) := CR.dt (cr_notIn (hu_of hr)) ha hb hm
theorem e_ix (hr : Room k X.A) (ha : DE κ X a fa) (hb : DE κ X b fb) (hs : PlainIx b := by exact fun _ _ => rfl) : DE κ X (.Subscript a b pos) (f2 gIx fa fb) := de_ix (hu_of hr) ha hb hs
section
variable (ha : DE κ X e f)
theorem e_isi (T : Ty) {y : Str} (hm : X.mg "isinstance" = none) (hmT : X.mg y = none) (ha : DE κ X e f) (hg : Gl X "isinstance" := by rfl) (hgT : Gl X y := by rfl) (hy : y = Str.ofString T.nm := by rfl)
    (he : starEach [e, .Name y p2] X.env = (false, eval e X.env) :: starEach [.Name y p2] X.env := by rfl) (he2 : starEach [.Name y p2] X.env = (false, eval (.Name y p2) X.env) :: starEach [] X.env := by rfl) (hpl : (backTo pos (starEach [.Name y p2] X.env)).any (·.1) = false := by rfl) :
    DE κ X (.Call (.Name "isinstance" p) [e, .Name y p2] [] pos) (fIsi T f) := de_isi T ha hg hm hgT hmT hy he he2 hpl
theorem ty_cons (T : Ty) {Ts : List Ty} {y : Str} (hmT : X.mg y = none) (r : DTys X es Ts) (hgT : Gl X y := by rfl) (hy : y = Str.ofString T.nm := by rfl) (he2 : starEach (.Name y p2 :: es) X.env = (false, eval (.Name y p2) X.env) :: starEach es X.env := by rfl) : DTys X (.Name y p2 :: es) (T :: Ts) := dtys_cons T r hgT hmT hy he2
theorem e_isiT {Ts : List Ty} {x1} (hm : X.mg "isinstance" = none) (ha : DE κ X e f) (hTs : DTys X es Ts) (hz : Ts.length ≤ 100 := by decide) (hg : Gl X "isinstance" := by rfl)
    (he : starEach [e, .Tuple es x1 p2] X.env = (false, eval e X.env) :: starEach [.Tuple es x1 p2] X.env := by rfl) (he2 : starEach [.Tuple es x1 p2] X.env = (false, eval (.Tuple es x1 p2) X.env) :: starEach [] X.env := by rfl) (hpl : (backTo pos (starEach [.Tuple es x1 p2] X.env)).any (·.1) = false := by rfl) :
    DE κ X (.Call (.Name "isinstance" p) [e, .Tuple es x1 p2] [] pos) (fIsiT Ts f) := de_isiT Ts hz ha hTs hg hm he he2 hpl
theorem da_one (ha : DE κ X e f) (hs : starEach [e] X.env = (false, eval e X.env) :: starEach [] X.env := by rfl) : DA κ X [e] (aCons f aNil) := da_cons ha da_nil hs
theorem e_len (hm : X.mg "len" = none) (ha : DE κ X e f) (hK : κ.K = X.K := by rfl) (hg : Gl X "len" := by rfl) (he : starEach [e] X.env = (false, eval e X.env) :: starEach [] X.env := by rfl) (hpl : (backTo pos (starEach [] X.env)).any (·.1) = false := by rfl) : DE κ X (.Call (.Name "len" p) [e] [] pos) (fCl gLen (aCons f aNil)) := de_len hK rfl hg hm (da_one ha he) he hpl
theorem e_all (hm : X.mg "all" = none) (ha : DE κ X e f) (hc : X.calm = true := by rfl) (hg : Gl X "all" := by rfl) (he : starEach [e] X.env = (false, eval e X.env) :: starEach [] X.env := by rfl) (hpl : (backTo pos (starEach [] X.env)).any (·.1) = false := by rfl) : DE κ X (.Call (.Name "all" p) [e] [] pos) (fCl gAll (aCons f aNil)) := de_all hc rfl hg hm (da_one ha he) he hpl
theorem e_any (hm : X.mg "any" = none) (ha : DE κ X e f) (hc : X.calm = true := by rfl) (hg : Gl X "any" := by rfl) (he : starEach [e] X.env = (false, eval e X.env) :: starEach [] X.env := by rfl) (hpl : (backTo pos (starEach [] X.env)).any (·.1) = false := by rfl) : DE κ X (.Call (.Name "any" p) [e] [] pos) (fCl gAny (aCons f aNil)) := de_any hc rfl hg hm (da_one ha he) he hpl
theorem e_sum (hm : X.mg "sum" = none) (ha : DE κ X e f) (hc : X.calm = true := by rfl) (hg : Gl X "sum" := by rfl) (he : starEach [e] X.env = (false, eval e X.env) :: starEach [] X.env := by rfl) (hpl : (backTo pos (starEach [] X.env)).any (·.1) = false := by rfl) : DE κ X (.Call (.Name "sum" p) [e] [] pos) (fCl gSum (aCons f aNil)) := de_sum hc rfl hg hm (da_one ha he) he hpl
theorem e_min (hm : X.mg "min" = none) (ha : DA κ X (e :: es) far) (hc : X.calm = true := by rfl) (hg : Gl X "min" := by rfl) (he : starEach (e :: es) X.env = (false, eval e X.env) :: starEach es X.env := by rfl) (hpl : (backTo pos (starEach es X.env)).any (·.1) = false := by rfl) : DE κ X (.Call (.Name "min" p) (e :: es) [] pos) (fCl gMin far) := de_min hc rfl hg hm ha he hpl
theorem e_max (hm : X.mg "max" = none) (ha : DA κ X (e :: es) far) (hc : X.calm = true := by rfl) (hg : Gl X "max" := by rfl) (he : starEach (e :: es) X.env = (false, eval e X.env) :: starEach es X.env := by rfl) (hpl : (backTo pos (starEach es X.env)).any (·.1) = false := by rfl) : DE κ X (.Call (.Name "max" p) (e :: es) [] pos) (fCl gMax far) := de_max hc rfl hg hm ha he hpl
theorem e_abs (hm : X.mg "abs" = none) (ha : DE κ X e f) (hg : Gl X "abs" := by rfl) (he : starEach [e] X.env = (false, eval e X.env) :: starEach [] X.env := by rfl) (hpl : (backTo pos (starEach [] X.env)).any (·.1) = false := by rfl) : DE κ X (.Call (.Name "abs" p) [e] [] pos) (fCl gAbs (aCons f aNil)) := de_abs rfl hg hm (da_one ha he) he hpl
theorem e_int (hm : X.mg "int" = none) (ha : DE κ X e f) (hg : Gl X "int" := by rfl) (he : starEach [e] X.env = (false, eval e X.env) :: starEach [] X.env := by rfl) (hpl : (backTo pos (starEach [] X.env)).any (·.1) = false := by rfl) : DE κ X (.Call (.Name "int" p) [e] [] pos) (fCl gInt (aCons f aNil)) := de_intc rfl hg hm (da_one ha he) he hpl
theorem o_list (hm : X.mg "list" = none) (ha : DE κ X e f) (hc : X.calm = true := by rfl) (hg : Gl X "list" := by rfl) (he : starEach [e] X.env = (false, eval e X.env) :: starEach [] X.env := by rfl) (hpl : (backTo pos (starEach [] X.env)).any (·.1) = false := by rfl) : DO κ X (.Call (.Name "list" p) [e] [] pos) (oCl oList (aCons f aNil)) := do_list hc rfl hg hm (da_one ha he) he hpl
theorem o_sorted (hm : X.mg "sorted" = none) (ha : DE κ X e f) (hg : Gl X "sorted" := by rfl) (he : starEach [e] X.env = (false, eval e X.env) :: starEach [] X.env := by rfl) (hpl : (backTo pos (starEach [] X.env)).any (·.1) = false := by rfl) : DO κ X (.Call (.Name "sorted" p) [e] [] pos) (oCl oSorted (aCons f aNil)) := do_sorted rfl hg hm (da_one ha he) he hpl
end
/-- slices of any kind, as a value -/
def gSl (x : D) (lo hi : Option Int) (n3 : Nat) (Q : D → Nat → Prop) : Prop := match x with
  | .str s => Q (.str (cutL s lo hi)) n3
  | .tup xs => ¬ (HT.sIx xs.length 0 lo = 0 ∧ HT.sIx xs.length xs.length hi = xs.length) ∧ Q (.tup (cutL xs lo hi)) n3
  | .lst xs => Q (.lst (cutL xs lo hi)) n3
  | .scr ns => Q (.lst ((cutL ns lo hi).map D.int)) n3
  | _ => False
@[simp] def fSl (f : FE) (l h : FO) : FE := fun env n Q => f env n fun x n1 => l env n1 fun lo n2 => h env n2 fun hi n3 => gSl x lo hi n3 Q
theorem e_sl {lo hi : Option Expr} {fl fh : FO} (ha : DE κ X a fa) (hl : DP κ X lo fl) (hh : DP κ X hi fh) (hK : κ.K = X.K := by rfl) : DE κ X (.Subscript a (.Slice lo hi none p2) pos) (fSl fa fl fh) := by
  obtain ⟨ta, pa, qa⟩ := ha
  obtain ⟨tl, pl, ql⟩ := hl
  obtain ⟨th, ph, qh⟩ := hh
  refine ⟨_, pe_slice (SlR.or sl_str (SlR.or sl_tup sl_list)) pa pl ph, fun P G H σ env Q R g ev hf hR => ?_⟩
  refine qa P G H σ env _ _ g ev hf fun v P1 G1 H1 d gr1 g1 r1 hf1 => ql P1 G1 H1 σ env _ _ g1 (ev.grow gr1) hf1 fun l P2 G2 H2 gr2 g2 hf2 => qh P2 G2 H2 σ env _ _ g2 ((ev.grow gr1).grow gr2) hf2 fun h P3 G3 H3 gr3 g3 hf3 => ?_
  have gr := (gr1.trans gr2).trans gr3
  have r3 := gr3.rep (gr2.rep r1)
  unfold gSl at hf3
  split at hf3
  · cases r3 with
    | str hs => exact .inl ⟨_, rfl, by rw [str_len]; exact hs.1, by rw [cutS_eq]; exact hR _ P3 G3 H3 _ gr g3 (.str (hs.cut l h)) hf3⟩
  · cases r3 with
    | tup ht z r =>
      refine .inr (.inl ⟨_, _, rfl, SqT.of (g3.gx ht rfl), by rw [r.length]; exact hf3.1, fun p hp => ?_⟩)
      have hg := g3.gnone hp
      exact hR _ P3 (upd G3 p (.tup _)) _ _ (gr.trans ((Grow.new hp).frz hp hg)) ((g3.new hp).frz hg (g3.inone hp) upd_same) (.tup upd_same (Nat.le_trans (cutV_length _ _ _) z) (reps_frz hg (reps_cut r l h))) hf3.2
  · cases r3 with
    | lst ht z r =>
      refine .inr (.inr ⟨_, _, rfl, SqL.of (g3.gx ht rfl), fun p hp => ?_⟩)
      have hg := g3.gnone hp
      exact hR _ P3 (upd G3 p (.lst _)) _ _ (gr.trans ((Grow.new hp).frz hp hg)) ((g3.new hp).frz hg (g3.inone hp) upd_same) (.lst upd_same (Nat.le_trans (cutV_length _ _ _) z) (reps_frz hg (reps_cut r l h))) hf3
  · cases r3 with
    | scr ht z =>
      refine .inr (.inr ⟨_, _, rfl, by rw [← hK]; exact sql_at g3.gh ht, fun p hp => ?_⟩)
      have hg := g3.gnone hp
      rw [cut_map]
      exact hR _ P3 (upd G3 p (.lst _)) _ _ (gr.trans ((Grow.new hp).frz hp hg)) ((g3.new hp).frz hg (g3.inone hp) upd_same) (.lst upd_same (by rw [List.length_map]; exact Nat.le_trans (cutL_le _ _ _) z) Reps.ints) hf3
  · exact hf3.elim
theorem i_seq (ha : DE κ X e f) : DI κ X tg e (iSeq f) := (di_seq ha).j
theorem i_name (i : Nat) (hN : X.N[i]? = some x := by rfl) (hv : Vis X.env.scope x := by first | exact Or.inl rfl | exact Or.inr (Or.inl rfl) | exact Or.inr (Or.inr rfl)) (hd : (x == ("__debug__" : Str)) = false := by decide) (hcd : (x == ("__classdict__" : Str)) = false := by decide) : DI κ X tg (.Name x pos) (iSeqN i) := di_name hN hv hd hcd
theorem i_r1 (hm : X.mg "range" = none) (ha : DE κ X a fa) (hg : Gl X "range" := by rfl) (hs : starEach [a] X.env = [(false, eval a X.env)] := by rfl) : DI κ X tg (.Call (.Name "range" p) [a] [] pos) (iRange1 (aCons fa aNil)) := (di_range1 hg hm (da_one ha hs) hs).j
theorem i_r2 (hm : X.mg "range" = none) (ha : DE κ X a fa) (hb : DE κ X b fb) (hg : Gl X "range" := by rfl) (hs : starEach [a, b] X.env = [(false, eval a X.env), (false, eval b X.env)] := by rfl) (hs2 : starEach [b] X.env = [(false, eval b X.env)] := by rfl) (hs3 : starEach [a, b] X.env = (false, eval a X.env) :: starEach [b] X.env := by rfl) : DI κ X tg (.Call (.Name "range" p) [a, b] [] pos) (iRange2 (aCons fa (aCons fb aNil))) := (di_range2 hg hm (da_cons ha (da_one hb hs2) hs3) hs hs2).j
theorem i_enum {tpos : Pos} {elts : List Expr} {kk : Nat} (hm : X.mg "enumerate" = none) (ha : DE κ X a fa) (hg : Gl X "enumerate" := by rfl) (hs : starEach [a] X.env = [(false, eval a X.env)] := by rfl) : DI κ X (.Tuple elts kk tpos) (.Call (.Name "enumerate" p) [a] [] pos) (iEnumD (aCons fa aNil)) := (di_enum hg hm (da_one ha hs) hs).j
theorem i_zip {tpos : Pos} {elts : List Expr} {kk : Nat} (hm : X.mg "zip" = none) (ha : DE κ X a fa) (hb : DE κ X b fb) (hg : Gl X "zip" := by rfl) (hs : starEach [a, b] X.env = (false, eval a X.env) :: starEach [b] X.env := by rfl) (hs2 : starEach [b] X.env = [(false, eval b X.env)] := by rfl) (hpl : (backTo pos (starEach [b] X.env)).any (·.1) = false := by rfl) :
    DI κ X (.Tuple elts kk tpos) (.Call (.Name "zip" p) [a, b] [] pos) (iZipD (aCons fa (aCons fb aNil))) := (di_zip hg hm (da_cons ha (da_one hb hs2) hs) hs hpl).j
theorem o_comp {iter tg elt : Expr} {ifs : List Expr} {scope : Scope} (own : List (Str × Nat)) {sl : List Nat} {φ : FG} (hN : X.N.Nodup) (hi : DI κ X tg iter far) 
    (hg : ∀ (s : Shared) (H : Hp) (C : Addr) (cl : List (Str × Addr)) (fp : List Addr), DG κ (X.blk s H scope (compEnvC scope cl C X.env) fp) tg sl φ)
    (ht : ∀ (s : Shared) (H : Hp) (C : Addr) (cl : List (Str × Addr)) (fp : List Addr), DTs κ (X.blk s H scope (compEnvC scope cl C X.env) fp) ifs t1)
    (he : ∀ (s : Shared) (H : Hp) (C : Addr) (cl : List (Str × Addr)) (fp : List Addr), DE κ (X.blk s H scope (compEnvC scope cl C X.env) fp) elt f)
    (ok : blkC X.N X.env.scope scope own = true := by rfl) (hc : X.calm = true := by rfl) (hsl : ∀ i ∈ sl, i ∈ own.map (·.2) := by decide) (hs : ∀ x, foldedSetIterable iter X.env x = pure x := by intro _; rfl) : DO κ X (.ListComp elt [⟨tg, iter, ifs, 0⟩] scope pos) (oComp far φ t1 f (own.map (·.2))) := do_comp own hc hN hi ok hg ht he hsl hs
end
end DL
namespace DL
open PySem PySem.Spec PyProof.Rows L2
theorem DO.rdfr {κ : Kit} {fo : FA} {t : TE} (q : RdO κ fo t) : RdE κ (fFrz fo) t := fun P G H σ env Q R g ev hf hR => q P G H σ env _ R g ev hf fun a P' G' H' vs xs gr g' ha hg hi hh hz r hq =>
  hR (.ref a) P' (upd G' a (.lst vs)) H' (.lst xs) (gr.frz ha hg) (g'.frz hg hi hh) (.lst upd_same hz (reps_frz hg r)) hq
section
variable {κ : Kit} {X : Cx} {e tg : Expr} {es : List Expr} {f : FE} {fo far : FA} {t1 : FT} {s1 s2 : FS} {pos p2 : Pos} {x : Str} {b1 b2 : List Stmt}
section
variable (i : Nat) (hN : X.N.Nodup)
include hN
theorem S_asg (h : DE κ X e f) (hi : X.N[i]? = some x := by rfl) (hx : Loc X.env.scope x := by first | exact Or.inl rfl | exact Or.inr rfl) (hs : swapsWith e (some (.Name x p2)) pos.line X.env = pure false := by rfl) (hfn : X.fn x = true ∨ X.env.scope.names.lookup x = some .local := by first | exact Or.inl rfl | exact Or.inr rfl) : D1 κ X (.Assign [.Name x p2] e pos) (sAsg i f) := d1_asg hN hi hx hs hfn h
theorem S_asgO (h : DO κ X e fo) (hi : X.N[i]? = some x := by rfl) (hx : Loc X.env.scope x := by first | exact Or.inl rfl | exact Or.inr rfl) (hs : swapsWith e (some (.Name x p2)) pos.line X.env = pure false := by rfl) (hfn : X.fn x = true ∨ X.env.scope.names.lookup x = some .local := by first | exact Or.inl rfl | exact Or.inr rfl) : D1 κ X (.Assign [.Name x p2] e pos) (sAsgO i fo) := d1_asgO hN hi hx hs hfn h
theorem N_n (hi : X.N[i]? = some x := by rfl) (hx : Loc X.env.scope x := by first | exact Or.inl rfl | exact Or.inr rfl) (hfn : X.fn x = true ∨ X.env.scope.names.lookup x = some .local := by first | exact Or.inl rfl | exact Or.inr rfl) : SD κ X (.Name x pos) (nN i) := sd_name i hN hi hx hfn
theorem G_n (hi : X.N[i]? = some x := by rfl) (hx : Loc X.env.scope x := by first | exact Or.inl rfl | exact Or.inr rfl) (hfn : X.fn x = true ∨ X.env.scope.names.lookup x = some .local := by first | exact Or.inl rfl | exact Or.inr rfl) : DG κ X (.Name x pos) [i] (gN i) := dg_name i hN hi hx hfn
theorem X_n {is : List Nat} (r : Names X es is) (hi : X.N[i]? = some x := by rfl) (hx : Loc X.env.scope x := by first | exact Or.inl rfl | exact Or.inr rfl) (hfn : X.fn x = true ∨ X.env.scope.names.lookup x = some .local := by first | exact Or.inl rfl | exact Or.inr rfl)
    (hs : (assignEach (.Name x pos :: es) X.env).map (·.2) = assign (.Name x pos) X.env :: (assignEach es X.env).map (·.2) := by rfl) : Names X (.Name x pos :: es) (i :: is) := names_cons i hN hi hx r hfn hs
end
theorem S_app (i : Nat) {apos cpos : Pos} (h : DE κ X e f) (hN : X.N[i]? = some x := by rfl) (hv : Vis X.env.scope x := by first | exact Or.inl rfl | exact Or.inr (Or.inl rfl) | exact Or.inr (Or.inr rfl)) : 
    (hd : (x == ("__debug__" : Str)) = false := by decide) → (hcd : (x == ("__classdict__" : Str)) = false := by decide) → (hbase : attributeBase (.Name x p2) "append" X.env (eval (.Name x p2) X.env) = eval (.Name x p2) X.env := by rfl) →
    (hfew : ((backTo cpos (starEach [e] X.env)).all (fun x => !x.1) && (backToKw cpos (keywordEach [] X.env)).all (fun x => x.1.isSome) && decide ([e].length + ([] : List Keyword).length + (if ([] : List Keyword).isEmpty then 0 else 1) < 30)) = true := by rfl) →
    (hline : (apos.endLine == cpos.line) = true := by rfl) → (hs : starEach [e] X.env = (false, eval e X.env) :: starEach [] X.env := by rfl) → (hplain : (backTo cpos (starEach [] X.env)).any (·.1) = false := by rfl) →
    (hsw : swapsWith (.Call (.Attribute (.Name x p2) "append" apos) [e] [] cpos) none pos.line X.env = pure false := by rfl) →
    D1 κ X (.Expr (.Call (.Attribute (.Name x p2) "append" apos) [e] [] cpos) pos) (sApp i f) := fun hd hcd hbase hfew hline hs hplain hsw => d1_app i hN hv h hd hcd hbase hfew hline hs hplain hsw
theorem S_appV (i : Nat) {apos cpos : Pos} (h : DE κ X e f) (hN : X.N[i]? = some x := by rfl) (hv : Vis X.env.scope x := by first | exact Or.inl rfl | exact Or.inr (Or.inl rfl) | exact Or.inr (Or.inr rfl)) : 
    (hd : (x == ("__debug__" : Str)) = false := by decide) → (hcd : (x == ("__classdict__" : Str)) = false := by decide) → (hbase : attributeBase (.Name x p2) "append" X.env (eval (.Name x p2) X.env) = eval (.Name x p2) X.env := by rfl) →
    (hfew : ((backTo cpos (starEach [e] X.env)).all (fun x => !x.1) && (backToKw cpos (keywordEach [] X.env)).all (fun x => x.1.isSome) && decide ([e].length + ([] : List Keyword).length + (if ([] : List Keyword).isEmpty then 0 else 1) < 30)) = true := by rfl) →
    (hline : (apos.endLine == cpos.line) = true := by rfl) → (hs : starEach [e] X.env = (false, eval e X.env) :: starEach [] X.env := by rfl) → (hplain : (backTo cpos (starEach [] X.env)).any (·.1) = false := by rfl) →
    (hsw : swapsWith (.Call (.Attribute (.Name x p2) "append" apos) [e] [] cpos) none pos.line X.env = pure false := by rfl) →
    D1 κ X (.Expr (.Call (.Attribute (.Name x p2) "append" apos) [e] [] cpos) pos) (sAppV i f) := fun hd hcd hbase hfew hline hs hplain hsw => d1_appV i hN hv h hd hcd hbase hfew hline hs hplain hsw
theorem S_for {iter : Expr} {body : List Stmt} {φ : SG} (hi : DI κ X tg iter far) (hg : SD κ X tg φ) (hb : DS κ X body s1) (hp : PassesOwn (model X.prog X.w) X.A X.env X.xe := by exact PassesOwn.never) (hc : X.calm = true := by rfl) (hs : ∀ x, foldedSetIterable iter X.env x = pure x := by intro _; rfl) : D1 κ X (.For tg iter body [] pos) (sFor far φ s1) := d1_for hp hc hi hg hb hs
theorem S_while {body : List Stmt} (hc : DT κ X e t1) (hb : DS κ X body s1) (hp : PassesOwn (model X.prog X.w) X.A X.env X.xe := by exact PassesOwn.never) : D1 κ X (.While e body [] pos) (sWhile t1 s1) := d1_while hp hc hb
section
variable {i : Nat} {y : Str} {py : Pos} {elt tg iter : Expr} {ifs : List Expr} {scope : Scope} {spos : Pos} {sl : List Nat} {φ : FG}
/-- the new list a value at once -/
theorem S_lcF (i : Nat) (own : List (Str × Nat)) (hN : X.N.Nodup) (hi : DI κ X tg iter far)
    (hg : ∀ (s : Shared) (H : Hp) (C : Addr) (cl : List (Str × Addr)) (fp : List Addr), DG κ (X.blk s H scope (compEnvC scope cl C X.env) fp) tg sl φ)
    (ht : ∀ (s : Shared) (H : Hp) (C : Addr) (cl : List (Str × Addr)) (fp : List Addr), DTs κ (X.blk s H scope (compEnvC scope cl C X.env) fp) ifs t1)
    (he : ∀ (s : Shared) (H : Hp) (C : Addr) (cl : List (Str × Addr)) (fp : List Addr), DE κ (X.blk s H scope (compEnvC scope cl C X.env) fp) elt f)
    (hy : X.N[i]? = some y := by rfl) (hyl : X.env.scope.names.lookup y = some .local := by rfl) (hc : X.calm = true := by rfl)
    (hsw : swapsWith (.ListComp elt [⟨tg, iter, ifs, 0⟩] scope pos) (some (.Name y py)) spos.line X.env = pure true := by exact sw_true rfl rfl rfl (by decide +kernel)) (ok : blkC X.N X.env.scope scope own = true := by rfl)
    (hsl : ∀ i ∈ sl, i ∈ own.map (·.2) := by decide) (hs : ∀ x, foldedSetIterable iter X.env x = pure x := by intro _; rfl) :
    D1 κ X (.Assign [.Name y py] (.ListComp elt [⟨tg, iter, ifs, 0⟩] scope pos) spos) (sAsg i (fFrz (oComp far φ t1 f (own.map (·.2))))) := by
  obtain ⟨w, pw, qw⟩ := hi
  exact ⟨_, PS.lk (ps_setLc hc hN hy hyl hsw pw (blkOk_by ok) (fun s H C cl fp => (hg s H C cl fp).can) (fun s H C cl fp => (ht s H C cl fp).can) (fun s H C cl fp => (he s H C cl fp).can) hs), asg_lift (DO.rdfr (lc_lift qw rd_tG rd_tT rd_tE hsl))⟩
end
theorem S_par (i j : Nat) {a b : Expr} {fxs : FXs} {x y : Str} {px py pt : Pos} {kt k2 pt2} (hN : X.N.Nodup) (h : DXs κ X [a, b] fxs) (hi : X.N[i]? = some x := by rfl) (hj : X.N[j]? = some y := by rfl) (hij : i ≠ j := by decide) (hxl : X.env.scope.names.lookup x = some .local := by rfl) (hyl : X.env.scope.names.lookup y = some .local := by rfl) (hc : X.calm = true := by rfl)
    (hw : swappedStores [.Tuple [.Name x px, .Name y py] kt pt] (.Tuple [a, b] k2 pt2) X.env = pure (some [x, y]) := by rfl) (hs : swapsWithSole [.Tuple [.Name x px, .Name y py] kt pt] (.Tuple [a, b] k2 pt2) pos.line X.env = pure false := by rfl) : D1 κ X (.Assign [.Tuple [.Name x px, .Name y py] kt pt] (.Tuple [a, b] k2 pt2) pos) (sPar [i, j] fxs) :=
  d1_par i j hc hN hi hj hij hxl hyl h fun {ta} p => ps_par hc hN hi hj hij hxl hyl p hw hs
theorem S_tup {tgs : List Expr} {is : List Nat} {fxs : FXs} {k1 k2 : _} {pt : Pos} (h : DXs κ X es fxs) (r : Names X tgs is) (hc : X.calm = true := by rfl) (hz : is.length ≤ 1000 := by decide) (hn : (assignEach tgs X.env).length = is.length := by rfl) (hst : (assignEach tgs X.env).findIdx? (·.1) = none := by rfl)
    (hs : swapsWithSole [.Tuple tgs k1 pt] (.Tuple es k2 p2) pos.line X.env = pure false := by rfl) (hw : swappedStores [.Tuple tgs k1 pt] (.Tuple es k2 p2) X.env = pure none := by rfl) (h1 : (assignEach [.Tuple tgs k1 pt] X.env).map (·.2) = [assign (.Tuple tgs k1 pt) X.env] := by rfl) :
    D1 κ X (.Assign [.Tuple tgs k1 pt] (.Tuple es k2 p2) pos) (sPar is fxs) := d1_tupAsg hc hz h r hn hst hs hw h1
theorem N_t {k n : Nat} {ψ : SGs} (h : SDs κ X es ψ) (hc : X.calm = true := by rfl) (hn : (assignEach es X.env).length = n := by rfl) (hst : (assignEach es X.env).findIdx? (·.1) = none := by rfl) : SD κ X (.Tuple es k pos) (nT n ψ) := sd_tup hc h hn hst
theorem G_t {k n : Nat} {sl : List Nat} {ψ : FGs} (h : DGs κ X es sl ψ) (hc : X.calm = true := by rfl) (hn : (assignEach es X.env).length = n := by rfl) (hst : (assignEach es X.env).findIdx? (·.1) = none := by rfl) : DG κ X (.Tuple es k pos) sl (gT n ψ) := dg_tup hc h hn hst
end
end DL
namespace DL
open PySem PySem.Spec PyProof.Rows L2
/-- what may stand at a place of the dice, n draws told -/
def DiceAt : Nat → Int → Nat → Prop
  | 0, d, _ => 0 ≤ d
  | 1, d, _ => 0 ≤ d ∧ d < 2147483629
  | 2, d, n => 0 ≤ d ∧ d ≤ n
  | 3, d, _ => 0 ≤ d ∧ d ≤ 63
  | _, _, _ => False
def DiceJ (P : Wd) (o : HO) : Prop := ∃ d0 d1 d2 d3 : Int, o = .lst [.int d0, .int d1, .int d2, .int d3] ∧ DiceAt 0 d0 P.n ∧ DiceAt 1 d1 P.n ∧ DiceAt 2 d2 P.n ∧ DiceAt 3 d3 P.n
theorem DiceAt.mono {i : Nat} {d : Int} {n m : Nat} (h : DiceAt i d n) (hn : n ≤ m) : DiceAt i d m := by
  match i, h with
  | 0, h => exact h
  | 1, h => exact h
  | 2, h => exact ⟨h.1, Int.le_trans h.2 (by omega)⟩
  | 3, h => exact h
theorem DiceJ.mono {P P' : Wd} {o : HO} (hn : P.n ≤ P'.n) (h : DiceJ P o) : DiceJ P' o := by
  obtain ⟨d0, d1, d2, d3, e, h0, h1, h2, h3⟩ := h
  exact ⟨d0, d1, d2, d3, e, h0.mono hn, h1.mono hn, h2.mono hn, h3.mono hn⟩
/-- a kit whose objects of kind 0 are dice -/
def HasDice (κ : Kit) : Prop := ∀ P o, κ.J 0 [] P o ↔ DiceJ P o
abbrev dice : D := .box 0 []
section
variable {κ : Kit} {X : Cx} {e : Expr} {f fa fb : FE} {pos p2 p3 : Pos} {x : Str} {k : Nat}
/-- dice[j] -/
@[simp] def fIxB (i j : Nat) : FE := fun env n Q => env[i]? = some (some dice) ∧ j < 4 ∧ ∀ d : Int, DiceAt j d n → Q (.int d) n
theorem e_ixB (i j : Nat) (hK : HasDice κ) {q : Expr} (hq : ∃ jj pp, q = .Constant (.int (j : Int)) jj pp) (hN : X.N[i]? = some x := by rfl) (hv : Vis X.env.scope x := by first | exact Or.inl rfl | exact Or.inr (Or.inl rfl) | exact Or.inr (Or.inr rfl))
    (hd : (x == ("__debug__" : Str)) = false := by decide) (hcd : (x == ("__classdict__" : Str)) = false := by decide) (hs : PlainIx q := by exact fun _ _ => rfl) : DE κ X (.Subscript (.Name x p2) q pos) (fIxB i j) := by
  obtain ⟨jj, pp, rfl⟩ := hq
  refine ⟨_, pe_ix ix_list (pe_var hN hv hd hcd) pe_int hs, fun P G H σ env Q R g ev hf hR => ?_⟩
  obtain ⟨h1, h2, hf⟩ := hf
  obtain ⟨u, q1, q2⟩ := ev.get i _ h1
  cases q2 with
  | box hb =>
    obtain ⟨hg, o, ho, hj⟩ := g.gi _ _ hb
    rw [hK] at hj
    obtain ⟨d0, d1, d2, d3, rfl, a0, a1, a2, a3⟩ := hj
    refine ⟨_, q1, ?_⟩
    have fin : ∀ d : Int, atI [V.int d0, V.int d1, V.int d2, V.int d3] (j : Int) = some (V.int d) → DiceAt j d P.n → rIxL X.K (V.ref _) (V.int (j : Int)) H R := fun d hd ha => ⟨_, _, _, _, rfl, rfl, SqL.of ho, hd, hR _ P G H _ .refl g .int (hf d ha)⟩
    match j, h2 with
    | 0, _ => exact fin d0 rfl a0
    | 1, _ => exact fin d1 rfl a1
    | 2, _ => exact fin d2 rfl a2
    | 3, _ => exact fin d3 rfl a3
/-- dice[j] = e: one more told -/
@[simp] def sSetB (i j : Nat) (f : FE) : FS := fun D env n => f (hide env) n fun d m => env[i]? = some (some (.val dice)) ∧ j < 4 ∧ ∃ z, d = .int z ∧ DiceAt j z (m + 1) ∧ D.nx env (m + 1)
theorem upd_grow {P : Wd} {G H : Hp} {a : Addr} {t : Nat × List D} {o : HO} (hi : P.iv a = some t) (m : Nat) (hm : P.n ≤ m) : Grow P G H { P with n := m } G (upd H a o) where
  fz := fun _ _ h => h
  iv := fun _ _ h => h
  n := hm
  g := fun _ _ h => h
  h := fun b u e n => by
    have : b ≠ a := fun z => by subst z; rw [hi] at n; cases n
    rw [upd_ne this]; exact e
  dom := fun b u e => by
    by_cases hb : b = a
    · subst hb; exact ⟨o, upd_same⟩
    · exact ⟨u, by rw [upd_ne hb]; exact e⟩
  fresh := fun _ _ _ => ⟨rfl, .inl rfl, .inl rfl⟩
theorem upd_good {P : Wd} {G H : Hp} {a : Addr} {t : Nat × List D} {o : HO} (g : Good κ P G H) (hi : P.iv a = some t) (m : Nat) (hm : P.n ≤ m) (ho : κ.J t.1 t.2 { P with n := m } o) : Good κ { P with n := m } G (upd H a o) where
  pg := g.pg
  fx := g.fx
  gh := fun b u e => by
    have : b ≠ a := fun z => by subst z; rw [(g.gi _ _ hi).1] at e; cases e
    exact (g.gh b u e).of (upd_ne this)
  gi := fun b s e => by
    by_cases hb : b = a
    · subst hb
      have e' : P.iv b = some s := e
      rw [hi] at e'; cases e'
      exact ⟨(g.gi _ _ hi).1, o, upd_same, ho⟩
    · obtain ⟨q1, u, q2, q3⟩ := g.gi b s e
      exact ⟨q1, u, by rw [upd_ne hb]; exact q2, κ.mono _ _ P _ u (fun _ _ h => h) (fun _ _ h => h) hm q3⟩
theorem S_setB (i j : Nat) (hK : HasDice κ) (hva : DE κ X e f) {q : Expr} (hq : ∃ jj pp, q = .Constant (.int (j : Int)) jj pp) (hN : X.N[i]? = some x := by rfl) (hv : Vis X.env.scope x := by first | exact Or.inl rfl | exact Or.inr (Or.inl rfl) | exact Or.inr (Or.inr rfl))
    (hs : swapsWithSole [.Subscript (.Name x p2) q p3] e pos.line X.env = pure false := by rfl) (hw : swappedStores [.Subscript (.Name x p2) q p3] e X.env = pure none := by rfl)
    (h1 : (assignEach [.Subscript (.Name x p2) q p3] X.env).map (·.2) = [assign (.Subscript (.Name x p2) q p3) X.env] := by rfl) (hd : (x == ("__debug__" : Str)) = false := by decide) (hcd : (x == ("__classdict__" : Str)) = false := by decide)
    (hg : ∀ {to ti : TE} {t : TSet}, PE X (.Name x p2) to → PE X q ti → PSet X t → PG X (.Subscript (.Name x p2) q p3) (L2.gSub to ti t) := by intro to ti t h1 h2 h3; exact pg_sub h1 h2 h3) :
    D1 κ X (.Assign [.Subscript (.Name x p2) q p3] e pos) (sSetB i j f) := by
  obtain ⟨t, p, qv⟩ := hva
  obtain ⟨jj, pp, rfl⟩ := hq
  refine ⟨_, ps_asg p (hg (pe_var hN hv hd hcd) pe_int set_list) hs hw h1, fun P0 G0 H0 P G H σ env D E gr g ev hf ok => ?_⟩
  refine at_hide qv g ev hf fun v P1 G1 H1 d gr1 g1 ev1 rv hq => ?_
  obtain ⟨h1, h2, z, ez, hz, hq⟩ := hq
  subst ez
  cases rv
  obtain ⟨u, q1, q2⟩ := ev1.get i _ h1
  cases q2 with
  | @box a _ _ hb =>
    obtain ⟨hg, o, ho, hj⟩ := g1.gi _ _ hb
    rw [hK] at hj
    obtain ⟨d0, d1, d2, d3, rfl, a0, a1, a2, a3⟩ := hj
    have hn : P1.n ≤ P1.n + 1 := Nat.le_succ _
    have fin : ∀ vs : List V, (κ.J 0 [] { P1 with n := P1.n + 1 } (.lst vs)) → E.nx σ (upd H1 a (.lst vs)) := fun vs hJ => by
      have gw := upd_grow (G := G1) (H := H1) (o := .lst vs) hb (P1.n + 1) hn
      exact ok.nx _ G1 _ σ env ((gr.trans gr1).trans gw) (upd_good g1 hb _ hn hJ) (ev1.grow gw) hq
    refine ⟨_, q1, a, _, (j : Int), j, rfl, rfl, ho, ?_, fin _ ?_⟩
    · match j, h2 with
      | 0, _ => rfl
      | 1, _ => rfl
      | 2, _ => rfl
      | 3, _ => rfl
    · rw [hK]
      match j, h2, hz with
      | 0, _, hz => exact ⟨z, d1, d2, d3, rfl, hz, a1.mono hn, a2.mono hn, a3.mono hn⟩
      | 1, _, hz => exact ⟨d0, z, d2, d3, rfl, a0.mono hn, hz, a2.mono hn, a3.mono hn⟩
      | 2, _, hz => exact ⟨d0, d1, z, d3, rfl, a0.mono hn, a1.mono hn, hz, a3.mono hn⟩
      | 3, _, hz => exact ⟨d0, d1, d2, z, rfl, a0.mono hn, a1.mono hn, a2.mono hn, hz⟩
end
/-- an own list of four numbers becomes dice -/
theorem dice_of {κ : Kit} (hK : HasDice κ) {P : Program} {w : World} {K : PySem.W.Frag} {mg : Str → Option Value} {base : Heap} {k j : Nat} {f : Addr} {fd : FuncData} {ps : List Str} {F F' : FC} (Fn : FnOk P w K mg base CX0 k f fd ps (spD κ j F))
    (h : ∀ ds n Q, F' ds n Q → F ds n fun s m => ∃ d0 d1 d2 d3 : Int, s = .own [.int d0, .int d1, .int d2, .int d3] ∧ DiceAt 0 d0 m ∧ DiceAt 1 d1 m ∧ DiceAt 2 d2 m ∧ DiceAt 3 d3 m ∧ Q (.val dice) m) : FnOk P w K mg base CX0 k f fd ps (spD κ j F') := by
  refine Fn.imp fun vs H Q E hs => ?_
  obtain ⟨hl, Pw, G, ds, QD, g, r, hf, hQ⟩ := hs
  refine ⟨hl, Pw, G, ds, _, g, r, h ds Pw.n QD hf, fun v s P' G' H' gr g' rs hq => ?_⟩
  obtain ⟨d0, d1, d2, d3, e, a0, a1, a2, a3, hq⟩ := hq
  subst e
  obtain ⟨a, ea, vs, h1, h2, h3, h4, h5, h6⟩ := rs
  subst ea
  have ev : vs = [V.int d0, V.int d1, V.int d2, V.int d3] := by
    have := Reps.of_ints (ns := [d0, d1, d2, d3]) h6
    simpa using this
  subst ev
  have iv' : ∀ b t, P'.iv b = some t → (fun c => if c = a then some (0, []) else P'.iv c) b = some t := fun b t e => by
    have : b ≠ a := fun z => by subst z; rw [h5] at e; cases e
    simp only [if_neg this]; exact e
  refine hQ (.ref a) (.val dice) { P' with iv := fun c => if c = a then some (0, []) else P'.iv c } G' H' ⟨gr.fz, fun b t e => iv' b t (gr.iv b t e), gr.n, gr.g, gr.h, gr.dom, fun b o e => ?_⟩ ⟨g'.pg, g'.gh, fun b t e => ?_, fun b t e => iv' b t (g'.fx b t e)⟩ (.box (by simp)) hq
  · obtain ⟨f1, f2, f3⟩ := gr.fresh b o e
    have : b ≠ a := fun z => by subst z; rw [h3] at e; cases e
    exact ⟨by simp only [if_neg this]; exact f1, f2, f3⟩
  · by_cases hb : b = a
    · subst hb
      simp only [if_true, Option.some.injEq] at e
      subst e
      exact ⟨h4, _, h1, (hK _ _).mpr ⟨d0, d1, d2, d3, rfl, a0, a1, a2, a3⟩⟩
    · simp only [if_neg hb] at e
      obtain ⟨q1, u, q2, q3⟩ := g'.gi b t e
      exact ⟨q1, u, q2, κ.mono _ _ P' _ u (fun _ _ h => h) iv' (Nat.le_refl _) q3⟩
end DL
namespace DL
open PySem PySem.Spec PyProof.Rows L2
/-- what stands at these places -/
def pick {α : Type} (xs : List α) (ix : List Nat) : List α := ix.filterMap fun i => xs[i]?
@[simp] theorem pick_nil {α : Type} (xs : List α) : pick xs [] = [] := rfl
@[simp] theorem pick_cons {α : Type} (xs : List α) (i : Nat) (ix : List Nat) : pick xs (i :: ix) = match xs[i]? with | some x => x :: pick xs ix | none => pick xs ix := by
  unfold pick
  cases e : xs[i]? with
  | none => rw [List.filterMap_cons_none e]
  | some x => rw [List.filterMap_cons_some e]
/-- a def of the module that keeps its promise, called with n positional values and these keywords -/
def CalN (κ : Kit) (P : Program) (w : World) (K : PySem.W.Frag) (mg : Str → Option Value) (base : Heap) (x : Str) (k j : Nat) (F : FC) (n : Nat) (ks : List Str) (ix : List Nat) (dds : List D) : Prop :=
  ∃ (f : Addr) (fd : FuncData) (ps : List Str) (dvs : List V) (its : List Value), FnOk P w K mg base CX0 k f fd ps (spD κ j F) ∧ mg x = some (.ref f) ∧ PySem.W.keepIn K (.ref f) = true ∧ KBn K fd ps n ks (fun us ws => pick (us ++ ws ++ its) ix) (fun vs zs => pick (vs ++ zs ++ dvs) ix) ∧ ∀ (G : Hp) (iv : IV), Reps κ G iv dvs dds
theorem CalN.mono {κ : Kit} {P : Program} {w : World} {K : PySem.W.Frag} {mg : Str → Option Value} {base : Heap} {x : Str} {k k' j : Nat} {F : FC} {n : Nat} {ks : List Str} {ix : List Nat} {dds : List D} (c : CalN κ P w K mg base x k j F n ks ix dds) (h : k ≤ k') : CalN κ P w K mg base x k' j F n ks ix dds := by
  obtain ⟨f, fd, ps, dvs, ds, Fn, r⟩ := c
  exact ⟨f, fd, ps, dvs, ds, Fn.mono h, r⟩
section
variable {κ : Kit} {X : Cx} {x : Str} {k k' j n : Nat} {F : FC} {ks : List Str} {ix : List Nat} {dds : List D} {e : Expr} {es : List Expr} {kws : List Keyword} {f : FE} {far fark : FA} {p pos kpos : Pos} {nm : Option Str}
/-- f(.., k = v) -/
@[simp] def xCallN (j : Nat) (F : FC) (n m : Nat) (ix : List Nat) (dds : List D) (far fark : FA) : FX := fun env n0 Q => far env n0 fun ds m1 => fark env m1 fun es m2 => ds.length = n ∧ es.length = m ∧ (pick (ds ++ es ++ dds) ix).length = j ∧ F (pick (ds ++ es ++ dds) ix) m2 Q
variable (c : CalN κ X.prog X.w X.K X.mg X.base x k j F n ks ix dds) (hr : Room k' X.A)
include hr
omit hr
/-- a value or a new list, seen -/
@[simp] def fOfX (fx : FX) : FE := fun env n Q => fx env n fun s k => Q s.view k
@[simp] def oOfX (fx : FX) : FA := fun env n Q => fx env n fun s k => ∃ xs, s = .own xs ∧ Q xs k
end
end DL
namespace DL
open PySem PySem.Spec PyProof.Rows L2
section
variable {κ : Kit} {X : Cx} {a b e : Expr} {f fa fb : FE} {te : TE} {k : Nat} {p p1 p2 p3 pos : Pos}
/-- e[::-1] -/
def gRev (x : D) (m : Nat) (Q : D → Nat → Prop) : Prop := match x with
  | .str s => Q (.str s.reverse) m
  | .lst xs => Q (.lst xs.reverse) m
  | _ => False
@[simp] def fRev (f : FE) : FE := fun env n Q => f env n fun x m => gRev x m Q
/-- list(range(..)) -/
def gListR1 (d : D) (m : Nat) (Q : List D → Nat → Prop) : Prop := match d with
  | .int j => (j ≤ 16777216 ∧ -(2 ^ 61) < j) ∧ Q (ups 0 j.toNat) m
  | _ => False
def gListR2 (d c : D) (k : Nat) (Q : List D → Nat → Prop) : Prop := match d, c with
  | .int i, .int j => (j - i ≤ 16777216 ∧ -(2 ^ 61) < i ∧ i < 2 ^ 61 ∧ -(2 ^ 61) < j) ∧ Q (ups i (j - i).toNat) k
  | _, _ => False
@[simp] def oListR1 (f : FE) : FA := fun env n Q => f env n fun d m => gListR1 d m Q
@[simp] def oListR2 (f h : FE) : FA := fun env n Q => f env n fun d m => h env m fun c k => gListR2 d c k Q
end
end DL
namespace DL
open PySem PySem.Spec PyProof.Rows L2
/-- a dict behind d[k] = v -/
def putKs (ks : List D) (k : D) : List D := if k ∈ ks then ks else ks ++ [k]
def putVs : List D → List D → D → D → List D
  | k' :: ks, v' :: vs, k, v => if k' = k then v :: vs else v' :: putVs ks vs k v
  | _, _, _, v => [v]
theorem key_of {d : D} (h : isKeyD d = true) : ∃ k : Key, d = keyD k := by
  cases d with
  | int i => exact ⟨.inl i, rfl⟩
  | str s => exact ⟨.inr ⟨s.toArray⟩, by simp [keyD]⟩
  | _ => simp at h
open Classical in
theorem putK_zip {k : Key} {v : V} : ∀ {ks : List Key} {us : List V}, ks.length = us.length → ks.Nodup →
    ∃ ks' us', putK (ks.zip us) k v = ks'.zip us' ∧ ks'.length = us'.length ∧ ks' = (if k ∈ ks then ks else ks ++ [k]) ∧ (∀ {κ : Kit} {G : Hp} {iv : IV} {vs : List D} {d : D}, Reps κ G iv us vs → Rep κ G iv v d → Reps κ G iv us' (putVs (ks.map keyD) vs (keyD k) d)) := by
  intro ks us hl hn
  by_cases hk : k ∈ ks
  · refine ⟨ks, (ks.zip us).map (fun p => if p.1 = k then v else p.2), ?_, by simp [hl], by rw [if_pos hk], ?_⟩
    · unfold putK
      have h1 : (ks.zip us).any (fun kv => decide (kv.1 = k)) = true := by
        rw [List.any_eq_true]
        obtain ⟨i, hi, e⟩ := List.getElem_of_mem hk
        exact ⟨(ks[i], us[i]'(by omega)), by rw [List.mem_iff_getElem]; exact ⟨i, by simp; omega, by simp⟩, by simp [e]⟩
      rw [if_pos h1]
      refine List.ext_getElem (by simp) fun i h1 h2 => ?_
      simp only [List.getElem_map, List.getElem_zip]
      split <;> rfl
    · intro κ G iv vs d
      revert us vs
      induction ks with
      | nil => simp at hk
      | cons a ks ih =>
        intro us hl vs r rd
        cases us with
        | nil => simp at hl
        | cons u us =>
          cases r with
          | cons r t =>
            simp only [List.map_cons, List.zip_cons_cons, putVs]
            rw [List.nodup_cons] at hn
            by_cases ha : a = k
            · subst ha
              rw [if_pos rfl, if_pos rfl]
              refine .cons rd ?_
              have : (ks.zip us).map (fun p => if p.1 = a then v else p.2) = us := by
                refine List.ext_getElem (by simp at hl ⊢; omega) fun i h1 h2 => ?_
                simp only [List.getElem_map, List.getElem_zip]
                rw [if_neg]
                intro e
                exact hn.1 (e ▸ List.getElem_mem _)
              rw [this]; exact t
            · rw [if_neg ha, if_neg fun e => ha (keyD_inj e)]
              refine .cons r (ih hn.2 ?_ (by simpa using hl) t rd)
              rcases List.mem_cons.mp hk with e | e
              · exact absurd e.symm ha
              · exact e
  · refine ⟨ks ++ [k], us ++ [v], ?_, by simp [hl], by rw [if_neg hk], ?_⟩
    · unfold putK
      have h1 : ¬ (ks.zip us).any (fun kv => decide (kv.1 = k)) = true := by
        rw [List.any_eq_true]
        rintro ⟨p, hp, e⟩
        simp at e
        exact hk (e ▸ (List.of_mem_zip hp).1)
      rw [if_neg h1, List.zip_append hl]
      rfl
    · intro κ G iv vs d
      revert us vs
      induction ks with
      | nil =>
        intro us hl vs r rd
        cases us with
        | nil => cases r; exact .cons rd .nil
        | cons => simp at hl
      | cons a ks ih =>
        intro us hl vs r rd
        cases us with
        | nil => simp at hl
        | cons u us =>
          cases r with
          | cons r t =>
            simp only [List.map_cons, putVs, List.cons_append]
            rw [List.mem_cons, not_or] at hk
            rw [if_neg fun e => hk.1 (keyD_inj e).symm]
            exact .cons r (ih (List.nodup_cons.mp hn).2 hk.2 (by simpa using hl) t rd)
theorem keyD_mem {k : Key} {ks : List Key} : keyD k ∈ ks.map keyD ↔ k ∈ ks := by
  constructor
  · intro h
    obtain ⟨j, hj, e⟩ := List.mem_map.mp h
    exact keyD_inj e ▸ hj
  · exact fun h => List.mem_map.mpr ⟨k, h, rfl⟩
open Classical in
theorem putKs_map {k : Key} {ks : List Key} : putKs (ks.map keyD) (keyD k) = (if k ∈ ks then ks else ks ++ [k]).map keyD := by
  unfold putKs
  by_cases h : k ∈ ks
  · rw [if_pos h, if_pos (keyD_mem.mpr h)]
  · rw [if_neg h, if_neg fun z => h (keyD_mem.mp z), List.map_append]; rfl
open Classical in
theorem OkKs.put {k : Key} {ks : List Key} (h : OkKs ks) (hk : OkK k) : OkKs (if k ∈ ks then ks else ks ++ [k]) := by
  by_cases e : k ∈ ks
  · rw [if_pos e]; exact h
  · rw [if_neg e]
    refine ⟨List.nodup_append.mpr ⟨h.1, by simp, ?_⟩, fun j hj => ?_⟩
    · intro x hx y hy exy
      simp at hy
      subst hy exy
      exact e hx
    · rcases List.mem_append.mp hj with hj | hj
      · exact h.2 j hj
      · simp at hj; rw [hj]; exact hk
theorem rep_keyOk {κ : Kit} {G : Hp} {iv : IV} {v : V} {k : Key} (r : Rep κ G iv v (keyD k)) : v = kV k ∧ OkK k := by
  cases k with
  | inl i => cases r; exact ⟨rfl, trivial⟩
  | inr x =>
    cases r with
    | str h => exact ⟨rfl, h⟩
section
variable {κ : Kit} {X : Cx} {H0 : Hp} {P : Wd} {G H : Hp} {σ : L2.St} {env : SEnv} {a b e : Expr} {st : Stmt} {sts : List Stmt} {fa fb f : FE} {fo : FA} {ft t1 : FT} {s1 s2 : FS} {te : TE} {tt : TT} {pos : Pos} {es : List Expr} {far : FA}
/-- an own dict changes -/
theorem SEnvR.putD (ev : SEnvR κ H0 P G H σ env) {i : Nat} {ks vs ks' vs' : List D} {a : Addr} {kk : List Key} {us : List V} (h : env[i]? = some (some (.ownd ks vs))) (hs : σ[i]? = some (some (.ref a))) (hl : kk.length = us.length) (hz : kk.length ≤ sizeLine) (nd : OkKs kk) (ek : ks' = kk.map keyD) (r : Reps κ G P.iv us vs') :
    SEnvR κ H0 P G (upd H a (.dK (kk.zip us))) σ (env.set i (some (.ownd ks' vs'))) := by
  obtain ⟨v, q1, b, eb, k0, u0, h1, h2, h2', h3, h3', h4, h5, h6, h7⟩ := ev.get i _ h
  subst eb
  rw [hs] at q1
  cases q1
  have ap : ∀ b, Holds (.ownd ks' vs') (.ref a) b → ∀ (j : Nat) (t : Sl) (w : V), i ≠ j → env[j]? = some (some t) → σ[j]? = some (some w) → ¬ Holds t w b := fun b hb j t w hij hj hw ht => by
    rw [holds_ownd hb] at ht
    exact ev.apart i j _ _ _ _ a hij h hj hs hw rfl ht
  refine ev.chg0 (s := .ownd ks' vs') hs ⟨_, rfl, kk, us, upd_same, hl, hz, nd, ek, h4, h5, h6, r⟩ (fun j t w hij hj hw r => ?_) ap
  refine r.to (fun _ _ h => h) (fun _ _ h => h) fun b hb => ?_
  obtain ⟨k1, k2, k3, _⟩ := r.held hb
  have hba : b ≠ a := fun e => by subst e; exact ap _ rfl j t w hij hj hw hb
  exact ⟨fun o ho => by rw [upd_ne hba]; exact ho, k1, k2, k3⟩
@[simp] def sDct (i : Nat) : FS := fun D env n => D.nx (env.set i (some (.ownd [] []))) n
theorem d1_dct (i : Nat) {x : Str} {p2 pd : Pos} (hN : X.N.Nodup) (hi : X.N[i]? = some x := by rfl) (hx : Loc X.env.scope x := by first | exact .inl rfl | exact .inr rfl) (hs : swapsWith (.Dict [] [] pd) (some (.Name x p2)) pos.line X.env = pure false := by rfl) (hfn : X.fn x = true ∨ X.env.scope.names.lookup x = some .local := by first | exact .inl rfl | exact .inr rfl) :
    D1 κ X (.Assign [.Name x p2] (.Dict [] [] pd) pos) (sDct i) := by
  refine ⟨_, ps_set hN hi hx pe_dnewK hs hfn, fun P0 G0 H0 P G H σ env D E gr g ev hf ok => ?_⟩
  intro p hp
  refine ok.nx P G _ _ _ (gr.trans (Grow.new hp)) (g.new hp) ?_ hf
  refine (ev.grow (Grow.new hp)).setO (s := .ownd [] []) ⟨p, rfl, [], [], upd_same, rfl, Nat.zero_le _, ⟨List.nodup_nil, fun _ h => nomatch h⟩, rfl, gr.back hp, g.gnone hp, g.inone hp, .nil⟩ (not_priv ev hp)
@[simp] def sSetD (i : Nat) (fv fk : FE) : FS := fun D env n => fv (hide env) n fun d m => ∃ ks vs, env[i]? = some (some (.ownd ks vs)) ∧ fk (hide env) m fun k m2 => isKeyD k = true ∧ ks.length < 16777216 ∧ D.nx (env.set i (some (.ownd (putKs ks k) (putVs ks vs k d)))) m2
@[simp] def sSetDV (i : Nat) (fv fk : FE) : FS := fun D env n => fv (view env) n fun d m => treeD d = true ∧ ∃ ks vs, env[i]? = some (some (.ownd ks vs)) ∧ fk (view env) m fun k m2 => treeD k = true ∧ isKeyD k = true ∧ ks.length < 16777216 ∧ D.nx (env.set i (some (.ownd (putKs ks k) (putVs ks vs k d)))) m2
theorem setD_end {P0 : Wd} {G0 : Hp} {D : DEnds} {E : Ends} {P2 : Wd} {G2 H2 : Hp} {i : Nat} {v w : V} {d k : DL.D} {ks vs : List DL.D} {a : Addr} (gr : Grow P0 G0 H0 P2 G2 H2) (g : Good κ P2 G2 H2) (ev : SEnvR κ H0 P2 G2 H2 σ env) (h : env[i]? = some (some (.ownd ks vs))) (hs : σ[i]? = some (some (.ref a))) (rv : Rep κ G2 P2.iv v d) (rk : Rep κ G2 P2.iv w k) (hk : isKeyD k = true) (hz : ks.length < 16777216) (ok : EndsOk κ P0 G0 H0 D E) (q : D.nx (env.set i (some (.ownd (putKs ks k) (putVs ks vs k d)))) P2.n) :
    ∃ a' H4, V.ref a = .ref a' ∧ DPut H2 a' w v H4 ∧ E.nx σ H4 := by
  obtain ⟨u, q1, b, eb, kk, us, h1, h2, h2', h3, h3', h4, h5, h6, h7⟩ := ev.get i _ h
  subst eb
  rw [hs] at q1
  cases q1
  obtain ⟨k1, rfl⟩ := key_of hk
  obtain ⟨ew, okk⟩ := rep_keyOk rk
  subst ew h3'
  have hsz : sizeLine = 16777216 := PySem.sizeLine_eq
  have hzl : (kk.zip us).length < sizeLine := by rw [List.length_zip, ← h2, Nat.min_self]; rw [List.length_map] at hz; omega
  obtain ⟨ks', us', e1, e2, e3, e4⟩ := putK_zip (k := k1) (v := v) h2 h3.1
  refine ⟨a, _, rfl, DPut.k h1 hzl, ?_⟩
  rw [e1]
  refine ok.nx P2 G2 _ σ _ (gr.put h4) (g.put h5 h6) (ev.putD h hs e2 ?_ (by rw [e3]; exact h3.put okk) (by rw [e3]; exact putKs_map) (e4 h7 rv)) q
  rw [List.length_map] at hz
  rw [e3]
  split
  · omega
  · rw [List.length_append]; simp; omega
theorem d1_setD (i : Nat) {x : Str} {p2 p3 : Pos} {k : Expr} (hu : X.A.units + 1 < cLine) (hN : X.N[i]? = some x) (hv : Vis X.env.scope x) (hva : DE κ X e fa) (hk : DE κ X k fb) (hs : swapsWith e (some (.Subscript (.Name x p2) k p3)) pos.line X.env = pure false := by rfl)
    (hd : (x == ("__debug__" : Str)) = false := by decide) (hcd : (x == ("__classdict__" : Str)) = false := by decide) : D1 κ X (.Assign [.Subscript (.Name x p2) k p3] e pos) (sSetD i fa fb) := by
  obtain ⟨tv, pv, qv⟩ := hva
  obtain ⟨tk, pk, qk⟩ := hk
  refine ⟨_, ps_dput hu (pe_var hN hv hd hcd) pk pv hs, fun P0 G0 H0 P G H σ env D E gr g ev hf ok => ?_⟩
  refine at_hide qv g ev hf fun v P1 G1 H1 d gr1 g1 ev1 rv h1 => ?_
  obtain ⟨ks, vs, hx, h1⟩ := h1
  obtain ⟨u, q1, a, ea, w⟩ := ev1.get i _ hx
  subst ea
  refine ⟨_, q1, at_hide qk g1 ev1 h1 fun w P2 G2 H2 dk gr2 g2 ev2 rw' h2 => ?_⟩
  exact setD_end ((gr.trans gr1).trans gr2) g2 ev2 hx q1 (gr2.rep rv) rw' h2.1 h2.2.1 ok h2.2.2
/-- a number times a number -/
def gMulI (x y : D) (n : Nat) (Q : D → Nat → Prop) : Prop := ∃ i j, x = .int i ∧ y = .int j ∧ MulOk i j ∧ Q (.int (i * j)) n
@[simp] theorem w_mulI {i j : Int} {n : Nat} {Q : D → Nat → Prop} : gMulI (.int i) (.int j) n Q = (MulOk i j ∧ Q (.int (i * j)) n) := by
  refine propext ⟨?_, fun h => ⟨i, j, rfl, rfl, h⟩⟩
  rintro ⟨a, b, e1, e2, h⟩
  cases e1; cases e2
  exact h
def downs (hi : Int) (n : Nat) : List D := (List.range n).map fun i => .int (hi - (i : Nat))
def gRange3 (ds : List D) (m : Nat) (Q : List D → Nat → Prop) : Prop := match ds with
  | [.int i, .int j, .int c] => c = -1 ∧ (i - j ≤ 16777216 ∧ -(2 ^ 61) < i ∧ i < 2 ^ 61 ∧ -(2 ^ 61) < j ∧ j < 2 ^ 61) ∧ Q (downs i (i - j).toNat) m
  | _ => False
@[simp] theorem w_rg3 {i j c : Int} {n : Nat} {R : List D → Nat → Prop} : gRange3 [.int i, .int j, .int c] n R = (c = -1 ∧ (i - j ≤ 16777216 ∧ -2305843009213693952 < i ∧ i < 2305843009213693952 ∧ -2305843009213693952 < j ∧ j < 2305843009213693952) ∧ R (downs i (i - j).toNat) n) := rfl
@[simp] def iRange3 (fa : FA) : FA := fun env n Q => fa env n fun ds m => gRange3 ds m Q
theorem S_dct (i : Nat) {x : Str} {p2 pd : Pos} (hN : X.N.Nodup) (hi : X.N[i]? = some x := by rfl) (hx : Loc X.env.scope x := by first | exact Or.inl rfl | exact Or.inr rfl) (hs : swapsWith (.Dict [] [] pd) (some (.Name x p2)) pos.line X.env = pure false := by rfl) (hfn : X.fn x = true ∨ X.env.scope.names.lookup x = some .local := by first | exact Or.inl rfl | exact Or.inr rfl) : D1 κ X (.Assign [.Name x p2] (.Dict [] [] pd) pos) (sDct i) := d1_dct i hN hi hx hs hfn
theorem S_setD (i : Nat) {x : Str} {p2 p3 : Pos} {k : Expr} {r : Nat} (hr : Room r X.A) (hva : DE κ X e fa) (hk : DE κ X k fb) (hN : X.N[i]? = some x := by rfl) (hv : Vis X.env.scope x := by first | exact Or.inl rfl | exact Or.inr (Or.inl rfl) | exact Or.inr (Or.inr rfl)) (hs : swapsWith e (some (.Subscript (.Name x p2) k p3)) pos.line X.env = pure false := by rfl)
    (hd : (x == ("__debug__" : Str)) = false := by decide) (hcd : (x == ("__classdict__" : Str)) = false := by decide) : D1 κ X (.Assign [.Subscript (.Name x p2) k p3] e pos) (sSetD i fa fb) := d1_setD i (hu_of hr) hN hv hva hk hs hd hcd
/-- {} as one of several -/
@[simp] def xDct : FX := fun _ n Q => Q (.ownd [] []) n
/-- {} as a value -/
@[simp] def fDct0 : FE := fun _ n Q => Q (.dct [] []) n
theorem e_dct0 {pd : Pos} : DE κ X (.Dict [] [] pd) fDct0 := ⟨_, pe_dnewK, fun P G H σ env Q R g ev hf hR p hp =>
  hR _ P (upd G p (.dK [])) _ _ ((Grow.new hp).frz hp (g.gnone hp)) ((g.new hp).frz (g.gnone hp) (g.inone hp) upd_same) (.dctK (ks := []) (us := []) upd_same rfl (Nat.zero_le _) ⟨List.nodup_nil, fun _ h => nomatch h⟩ .nil) hf⟩
end
end DL
namespace DL
open PySem PySem.Spec PyProof.Rows L2
section
variable {κ : Kit} {X : Cx} {a b c e o tg : Expr} {es : List Expr} {fa fb fc f : FE} {far far1 : FA} {pos : Pos} {t1 t2 : FT}
def tI (κ : Kit) (f : FA) : TI := fun σ H R => ∃ (P : Wd) (G : Hp) (env : DEnv) (Q : List D → Nat → Prop), Good κ P G H ∧ EnvR κ G P.iv σ env ∧ f env P.n Q ∧ LkI κ P G H Q R
theorem DI0.can {Y : Cx} {iter : Expr} (h : DI0 κ Y tg iter far) : PI Y tg iter (tI κ far) := by
  obtain ⟨w, p, q⟩ := h
  refine ⟨fun pins s σ H R I hw => ?_⟩
  obtain ⟨P, G, env, Q, g, ev, hf, hR⟩ := hw
  exact p.run pins s σ H R I (q P G H σ env Q R g ev hf hR)
theorem rd_tI : RdI κ far (tI κ far) := fun P G H σ env Q R g ev hf hR => ⟨P, G, env, Q, g, ev, hf, hR⟩
def go2 (tg : FG) (tt : FT) (it1 : FA) (tg1 : FG) (tt1 : FT) (te : FE) (vs1 : List Nat) (env : DEnv) : List D → Nat → Nat → (List D → Nat → Prop) → Prop
  | [], _, n, Q => Q [] n
  | x :: xs, k, n, Q => tg x env fun env1 => tt env1 n fun b n1 => if b = true then it1 env1 n1 fun ys n2 => k + ys.length ≤ 16777216 ∧ goD tg1 tt1 te (wipeE env1 vs1) ys n2 fun zs n3 => go2 tg tt it1 tg1 tt1 te vs1 env xs (k + zs.length) n3 fun ws n4 => Q (zs ++ ws) n4 else go2 tg tt it1 tg1 tt1 te vs1 env xs k n1 Q
@[simp] def oComp2 (it : FA) (tg : FG) (tt : FT) (it1 : FA) (tg1 : FG) (tt1 : FT) (te : FE) (vs vs1 : List Nat) : FA := fun env n Q => it env n fun xs n1 => go2 tg tt it1 tg1 tt1 te vs1 (wipeE env vs) xs 0 n1 Q
abbrev Acc (κ : Kit) (P0 : Wd) (G0 H0 : Hp) (D : Addr) (acc : List V) (accD : List DL.D) (P : Wd) (G H : Hp) : Prop := Grow P0 G0 H0 P G H ∧ Good κ P G H ∧ G D = none ∧ P.iv D = none ∧ H D = some (.lst acc) ∧ Reps κ G P.iv acc accD
theorem Acc.step {P0 P P1 : Wd} {G0 H0 G H G1 H1 : Hp} {D : Addr} {acc : List V} {accD : List DL.D} (a : Acc κ P0 G0 H0 D acc accD P G H) (gr : Grow P G H P1 G1 H1) (g1 : Good κ P1 G1 H1) : Acc κ P0 G0 H0 D acc accD P1 G1 H1 := by
  obtain ⟨a1, a2, a3, a4, a5, a6⟩ := a
  obtain ⟨f1, f2, _⟩ := gr.fresh D _ a5
  have f3 := gr.same a5
  exact ⟨a1.trans gr, g1, by rw [f3]; exact a3, by rw [f1]; exact a4, gr.h D _ a5 a4, gr.reps a6⟩
theorem lc2_lift {w w1 : TI} {g g1 : TG} {tt tt1 : TT} {te : TE} {vs vs1 sl sl1 : List Nat} {φ φ1 : FG} (hi : RdI κ far w) (hg : LiftG κ g sl φ) (ht : RdT κ t1 tt) (hi1 : RdI κ far1 w1) (hg1 : LiftG κ g1 sl1 φ1) (ht1 : RdT κ t2 tt1) (he : RdE κ f te) (hsl : ∀ i ∈ sl, i ∈ vs) (hsl1 : ∀ i ∈ sl1, i ∈ vs1) :
    RdO κ (oComp2 far φ t1 far1 φ1 t2 f vs vs1) (tLc2 w g tt w1 g1 tt1 te vs vs1) := by
  intro P G H σ env Q R good ev hf hR
  refine hi P G H σ env _ _ good ev hf fun J Pb Gb Hb xs gr0 gb it hq => ?_
  intro Dl hD
  have hzl := it.1
  have hsz : sizeLine = 16777216 := PySem.sizeLine_eq
  refine ⟨fun i m H' => ∃ P' G' acc accD, Acc κ Pb Gb Hb Dl acc accD P' G' H' ∧ i ≤ xs.length ∧ m = xs.length - i ∧ acc.length ≤ 16777216 ∧
    go2 φ t1 far1 φ1 t2 f vs1 (wipeE env vs) (xs.drop i) accD.length P'.n (fun ys k => Q (accD ++ ys) k), ⟨xs.length, Pb, Gb, [], [], ⟨Grow.new hD, gb.new hD, gb.gnone hD, gb.inone hD, upd_same, .nil⟩, Nat.zero_le _, rfl, Nat.zero_le _, hq⟩, ?_⟩
  rintro i m H' ⟨P', G', acc, accD, ac, hix, rfl, hal, hgo⟩
  have gr := ac.1
  have evb := (ev.grow gr0).grow gr
  by_cases hlt : i < xs.length
  · obtain ⟨go, yl⟩ := (it.2 i P' G' H' gr.ext ac.2.1).1 hlt
    refine .inr ⟨go, fun H2 => ∃ P2 G2 acc2 accD2, Acc κ Pb Gb Hb Dl acc2 accD2 P2 G2 H2 ∧ acc2.length ≤ 16777216 ∧
      go2 φ t1 far1 φ1 t2 f vs1 (wipeE env vs) (xs.drop (i + 1)) accD2.length P2.n (fun ys k => Q (accD2 ++ ys) k), fun H2 hN => ?_, fun v H2 hy => ?_⟩
    · obtain ⟨P2, G2, acc2, accD2, q1, q2, q3⟩ := hN
      exact ⟨xs.length - (i + 1), by omega, P2, G2, acc2, accD2, q1, hlt, rfl, q2, q3⟩
    · obtain ⟨G2, d, gr2, g2, hxd, rd⟩ := yl v H2 hy
      have hdrop : xs.drop i = d :: xs.drop (i + 1) := by
        rw [List.drop_eq_getElem_cons hlt]
        rw [List.getElem?_eq_getElem hlt] at hxd
        cases hxd; rfl
      rw [hdrop] at hgo
      have evw : EnvR κ G2 P'.iv (L2.wipe σ vs) (wipeE env vs) := (evb.grow gr2).wipe vs
      have ac2 := ac.step gr2 g2
      refine hg P' G2 H2 v d (L2.wipe σ vs) (wipeE env vs) _ _ g2 evw rd hgo fun σ' env' ev' hw hf1 => ?_
      refine ⟨by rw [hw vs hsl]; exact wipe_wipe σ vs, ?_⟩
      refine ht P' G2 H2 σ' env' _ _ g2 ev' hf1 fun b P3 G3 H3 gr3 g3 hf2 => ?_
      have ac3 := ac2.step gr3 g3
      cases b with
      | false => exact ⟨P3, G3, acc, accD, ac3, hal, hf2⟩
      | true =>
        refine hi1 P3 G3 H3 σ' env' _ _ g3 (ev'.grow gr3) hf2 fun J1 P4 G4 H4 ys gr4 g4 it1 hf3 => ?_
        have ac4 := ac3.step gr4 g4
        have ev4 := (ev'.grow gr3).grow gr4
        obtain ⟨hyl, hf3⟩ := hf3
        have hacl : acc.length = accD.length := ac.2.2.2.2.2.length
        refine ⟨fun j k H5 => ∃ P5 G5 acc5 accD5, Acc κ Pb Gb Hb Dl acc5 (accD ++ accD5) P5 G5 H5 ∧ Ext P4 G4 P5 G5 ∧ EnvR κ G5 P5.iv σ' env' ∧ j ≤ ys.length ∧ k = ys.length - j ∧ accD5.length ≤ j ∧
          goD φ1 t2 f (wipeE env' vs1) (ys.drop j) P5.n (fun zs n3 => go2 φ t1 far1 φ1 t2 f vs1 (wipeE env vs) (xs.drop (i + 1)) (accD.length + (accD5 ++ zs).length) n3 fun ws n4 => Q (accD ++ ((accD5 ++ zs) ++ ws)) n4),
          ⟨ys.length, P4, G4, acc, [], by simpa using ac4, .refl, ev4, Nat.zero_le _, rfl, Nat.zero_le _, by simpa using hf3⟩, ?_⟩
        rintro j k H5 ⟨P5, G5, acc5, accD5, ac5, ex5, ev5, hjx, rfl, hal5, hgo5⟩
        have hl5 : acc5.length = accD.length + accD5.length := by rw [ac5.2.2.2.2.2.length, List.length_append]
        by_cases hjt : j < ys.length
        · obtain ⟨go1, yl1⟩ := (it1.2 j P5 G5 H5 ex5 ac5.2.1).1 hjt
          refine .inr ⟨go1, fun H6 => ∃ P6 G6 acc6 accD6, Acc κ Pb Gb Hb Dl acc6 (accD ++ accD6) P6 G6 H6 ∧ Ext P4 G4 P6 G6 ∧ EnvR κ G6 P6.iv σ' env' ∧ accD6.length ≤ j + 1 ∧
            goD φ1 t2 f (wipeE env' vs1) (ys.drop (j + 1)) P6.n (fun zs n3 => go2 φ t1 far1 φ1 t2 f vs1 (wipeE env vs) (xs.drop (i + 1)) (accD.length + (accD6 ++ zs).length) n3 fun ws n4 => Q (accD ++ ((accD6 ++ zs) ++ ws)) n4), fun H6 hN => ?_, fun v1 H6 hy1 => ?_⟩
          · obtain ⟨P6, G6, acc6, accD6, q1, q2, q3, q4, q5⟩ := hN
            exact ⟨ys.length - (j + 1), by omega, P6, G6, acc6, accD6, q1, q2, q3, hjt, rfl, q4, q5⟩
          · obtain ⟨G6, d1, gr6, g6, hyd, rd1⟩ := yl1 v1 H6 hy1
            have hdrop1 : ys.drop j = d1 :: ys.drop (j + 1) := by
              rw [List.drop_eq_getElem_cons hjt]
              rw [List.getElem?_eq_getElem hjt] at hyd
              cases hyd; rfl
            rw [hdrop1] at hgo5
            have ev6 := ev5.grow gr6
            have ac6 := ac5.step gr6 g6
            refine hg1 P5 G6 H6 v1 d1 (L2.wipe σ' vs1) (wipeE env' vs1) _ _ g6 (ev6.wipe vs1) rd1 hgo5 fun σ7 env7 ev7 hw7 hf7 => ?_
            refine ⟨by rw [hw7 vs1 hsl1]; exact wipe_wipe σ' vs1, ?_⟩
            refine ht1 P5 G6 H6 σ7 env7 _ _ g6 ev7 hf7 fun b8 P8 G8 H8 gr8 g8 hf8 => ?_
            have ac8 := ac6.step gr8 g8
            have ex8 := (ex5.trans gr6.ext).trans gr8.ext
            cases b8 with
            | false => exact ⟨P8, G8, acc5, accD5, ac8, ex8, ev6.grow gr8, Nat.le_succ_of_le hal5, hf8⟩
            | true =>
              refine he P8 G8 H8 σ7 env7 _ _ g8 (ev7.grow gr8) hf8 fun y P9 G9 H9 dy gr9 g9 ry hf9 => ?_
              have ac9 := ac8.step gr9 g9
              obtain ⟨w1', w2', w3', w4', w5', w6'⟩ := ac9
              refine ⟨acc5, w5', by omega, P9, G9, acc5 ++ [y], accD5 ++ [dy], ⟨w1'.put hD, w2'.put w3' w4', w3', w4', upd_same, ?_⟩, ex8.trans gr9.ext, (ev6.grow gr8).grow gr9, by rw [List.length_append]; exact Nat.succ_le_succ hal5, ?_⟩
              · rw [← List.append_assoc]; exact w6'.append (.cons ry .nil)
              · simpa only [List.append_assoc, List.singleton_append] using hf9
        · have ej : j = ys.length := by omega
          subst ej
          rw [List.drop_length] at hgo5
          refine .inl ⟨(it1.2 _ P5 G5 H5 ex5 ac5.2.1).2 rfl, P5, G5, acc5, accD ++ accD5, ac5, by omega, ?_⟩
          have hgo6 : go2 φ t1 far1 φ1 t2 f vs1 (wipeE env vs) (xs.drop (i + 1)) (accD.length + (accD5 ++ []).length) P5.n fun ws n4 => Q (accD ++ ((accD5 ++ []) ++ ws)) n4 := by simpa only [goD] using hgo5
          simpa [List.append_assoc] using hgo6
  · have e : i = xs.length := by omega
    subst e
    refine .inl ⟨(it.2 _ P' G' H' gr.ext ac.2.1).2 rfl, ?_⟩
    rw [List.drop_length] at hgo
    have hq' : Q accD P'.n := by
      have : Q (accD ++ []) P'.n := hgo
      simpa using this
    exact hR Dl P' G' H' acc accD (gr0.trans gr) ac.2.1 (gr0.back hD) ac.2.2.1 ac.2.2.2.1 ac.2.2.2.2.1 (by omega) ac.2.2.2.2.2 hq'
variable {iter iter1 tg1 elt : Expr} {ifs ifs1 : List Expr} {scope : Scope} {sl sl1 vs1 : List Nat} {φ φ1 : FG}
theorem S_lc2F (i : Nat) {y : Str} {py spos : Pos} (own : List (Str × Nat)) (vs1 : List Nat) (hN : X.N.Nodup) (hi : DI0 κ X tg iter far)
    (hg : ∀ (s : Shared) (H : Hp) (C : Addr) (cl : List (Str × Addr)) (fp : List Addr), DG κ (X.blk s H scope (compEnvC scope cl C X.env) fp) tg sl φ)
    (ht : ∀ (s : Shared) (H : Hp) (C : Addr) (cl : List (Str × Addr)) (fp : List Addr), DTs κ (X.blk s H scope (compEnvC scope cl C X.env) fp) ifs t1)
    (hi1 : ∀ (s : Shared) (H : Hp) (C : Addr) (cl : List (Str × Addr)) (fp : List Addr), DI0 κ (X.blk s H scope (compEnvC scope cl C X.env) fp) tg1 iter1 far1)
    (hg1 : ∀ (s : Shared) (H : Hp) (C : Addr) (cl : List (Str × Addr)) (fp : List Addr), DG κ (X.blk s H scope (compEnvC scope cl C X.env) fp) tg1 sl1 φ1)
    (ht1 : ∀ (s : Shared) (H : Hp) (C : Addr) (cl : List (Str × Addr)) (fp : List Addr), DTs κ (X.blk s H scope (compEnvC scope cl C X.env) fp) ifs1 t2)
    (he : ∀ (s : Shared) (H : Hp) (C : Addr) (cl : List (Str × Addr)) (fp : List Addr), DE κ (X.blk s H scope (compEnvC scope cl C X.env) fp) elt f)
    (hy : X.N[i]? = some y := by rfl) (hyl : X.env.scope.names.lookup y = some .local := by rfl)
    (hsw : swapsWith (.ListComp elt [⟨tg, iter, ifs, 0⟩, ⟨tg1, iter1, ifs1, 0⟩] scope pos) (some (.Name y py)) spos.line X.env = pure true := by exact sw_true rfl rfl rfl (by decide +kernel)) (ok : blkC X.N X.env.scope scope own = true := by rfl) (hc : X.calm = true := by rfl) (hsl : ∀ i ∈ sl, i ∈ own.map (·.2) := by decide) (hsl1 : ∀ i ∈ sl1, i ∈ vs1 := by decide) (hv : ∀ i ∈ vs1, i ∈ own.map (·.2) := by decide) (hs : ∀ x, foldedSetIterable iter X.env x = pure x := by intro _; rfl) (hs1 : ∀ env x, foldedSetIterable iter1 env x = pure x := by intro _ _; rfl) : D1 κ X (.Assign [.Name y py] (.ListComp elt [⟨tg, iter, ifs, 0⟩, ⟨tg1, iter1, ifs1, 0⟩] scope pos) spos) (sAsg i (fFrz (oComp2 far φ t1 far1 φ1 t2 f (own.map (·.2)) vs1))) := by
  obtain ⟨w, pw, qw⟩ := hi
  exact ⟨_, ps_setLc2 hc hN hy hyl hsw pw (blkOk_by ok) hv (fun s H C cl fp => (hg s H C cl fp).can) (fun s H C cl fp => (ht s H C cl fp).can) (fun s H C cl fp => (hi1 s H C cl fp).can) (fun s H C cl fp => (hg1 s H C cl fp).can) (fun s H C cl fp => (ht1 s H C cl fp).can) (fun s H C cl fp => (he s H C cl fp).can) hs hs1, asg_lift (DO.rdfr (lc2_lift qw rd_tG rd_tT rd_tI rd_tG rd_tT rd_tE hsl hsl1))⟩
theorem i0_seq (ha : DE κ X e f) : DI0 κ X tg e (iSeq f) := di_seq ha
end
end DL
namespace DL
open PySem PySem.Spec PyProof.Rows L2
section
variable {n : Nat} {Q : D → Nat → Prop} {R : List D → Nat → Prop} {i j : Int} {s t : List Nat} {xs ys ks vs ds : List D} {x y k : D} {b : Bool} {ns : List Int} {lo hi : Option Int}
@[simp] theorem w_add1 : gAdd (.int i) (.int j) n Q = Q (.int (i + j)) n := rfl
@[simp] theorem w_add2 : gAdd (.str s) (.str t) n Q = (s.length + t.length ≤ sizeLine ∧ Q (.str (s ++ t)) n) := rfl
@[simp] theorem w_add3 : gAdd3 (.int i) (.int j) n Q = Q (.int (i + j)) n := rfl
@[simp] theorem w_add4 : gAdd3 (.str s) (.str t) n Q = (s.length + t.length ≤ 16777216 ∧ Q (.str (s ++ t)) n) := rfl
@[simp] theorem w_add5 : gAdd3 (.lst xs) (.lst ys) n Q = (xs.length + ys.length ≤ 16777216 ∧ Q (.lst (xs ++ ys)) n) := rfl
@[simp] theorem w_add6 : gAdd3 (.tup xs) (.tup ys) n Q = (xs.length + ys.length ≤ 16777216 ∧ Q (.tup (xs ++ ys)) n) := rfl
@[simp] theorem w_sub : gSub (.int i) (.int j) n Q = Q (.int (i - j)) n := rfl
@[simp] theorem w_oadd : oAdd (.lst xs) (.lst ys) n R = (xs.length + ys.length ≤ sizeLine ∧ R (xs ++ ys) n) := rfl
@[simp] theorem w_mul1 : gMul (.int i) (.int j) n Q = (MulOk i j ∧ Q (.int (i * j)) n) := rfl
@[simp] theorem w_mul2 : gMul (.str s) (.int i) n Q = ((i < 4611686018427387904 ∧ -4611686018427387904 < i ∧ s.length * i.toNat ≤ sizeLine) ∧ Q (.str (List.replicate i.toNat s).flatten) n) := rfl
@[simp] theorem w_div : gDiv (.int i) (.int j) n Q = (DivOk j ∧ Q (.int (i / j)) n) := rfl
@[simp] theorem w_mod : gMod (.int i) (.int j) n Q = (0 < j ∧ Q (.int (i % j)) n) := rfl
@[simp] theorem w_pow : gPow (.int i) (.int j) n Q = (CPowW i j ∧ Q (.int (i ^ j.toNat)) n) := rfl
@[simp] theorem w_neg : gNeg (.int i) n Q = Q (.int (-i)) n := rfl
@[simp] theorem w_lt1 : gLt (.int i) (.int j) n Q = Q (.bl (decide (i < j))) n := rfl
@[simp] theorem w_lt2 : gLt (.str s) (.str t) n Q = Q (.bl (decide (s < t))) n := rfl
@[simp] theorem w_le1 : gLe (.int i) (.int j) n Q = Q (.bl (decide (i ≤ j))) n := rfl
@[simp] theorem w_le2 : gLe (.str s) (.str t) n Q = Q (.bl (!decide (t < s))) n := rfl
@[simp] theorem w_in1 : gIn x (.lst ys) n Q = ((flatD x = true ∧ ys.all flatD = true) ∧ Q (.bl (ys.any fun y => eqD y x)) n) := rfl
@[simp] theorem w_in2 : gIn x (.tup ys) n Q = ((flatD x = true ∧ ys.all flatD = true) ∧ Q (.bl (ys.any fun y => eqD y x)) n) := rfl
@[simp] theorem w_in3 : gIn x (.str t) n Q = (∃ c, x = .str [c] ∧ Q (.bl (decide (c ∈ t))) n) := rfl
@[simp] theorem w_in4 : gIn x (.dct ks vs) n Q = (isKeyD x = true ∧ Q (.bl (dGet ks vs x).isSome) n) := rfl
@[simp] theorem w_in5 : gIn x (.dcu ks vs) n Q = (dKind (.dcu ks vs) x = true ∧ Q (.bl (dGet ks vs x).isSome) n) := rfl
@[simp] theorem w_len1 : gLen [.str s] n Q = Q (.int s.length) n := rfl
@[simp] theorem w_len2 : gLen [.lst xs] n Q = Q (.int xs.length) n := rfl
@[simp] theorem w_len3 : gLen [.tup xs] n Q = Q (.int xs.length) n := rfl
@[simp] theorem w_len4 : gLen [.dct ks vs] n Q = Q (.int ks.length) n := rfl
@[simp] theorem w_len5 : gLen [.scr ns] n Q = Q (.int ns.length) n := rfl
@[simp] theorem w_min1 : gMin [.int i, .int j] n Q = Q (.int (min i j)) n := rfl
@[simp] theorem w_min2 : gMin [.lst xs] n Q = (∃ ns : List Int, [D.lst xs] = [.lst (ns.map D.int)] ∧ ns ≠ [] ∧ ∀ m, m ∈ ns → (∀ y ∈ ns, m ≤ y) → Q (.int m) n) := rfl
@[simp] theorem w_max1 : gMax [.int i, .int j] n Q = Q (.int (max i j)) n := rfl
@[simp] theorem w_max2 : gMax [.lst xs] n Q = (∃ ns : List Int, [D.lst xs] = [.lst (ns.map D.int)] ∧ ns ≠ [] ∧ ∀ m, m ∈ ns → (∀ y ∈ ns, y ≤ m) → Q (.int m) n) := rfl
@[simp] theorem w_abs : gAbs [.int i] n Q = Q (.int (i.natAbs : Int)) n := rfl
@[simp] theorem w_int1 : gInt [.int i] n Q = Q (.int i) n := rfl
@[simp] theorem w_int2 : gInt [.bl b] n Q = Q (.int (if b then 1 else 0)) n := rfl
@[simp] theorem w_list1 : oList [.str s] n R = R (s.map fun c => .str [c]) n := rfl
@[simp] theorem w_list2 : oList [.lst xs] n R = R xs n := rfl
@[simp] theorem w_list3 : oList [.tup xs] n R = R xs n := rfl
@[simp] theorem w_ix1 : gIx (.lst xs) (.int i) n Q = (∃ v, atI xs i = some v ∧ Q v n) := rfl
@[simp] theorem w_ix2 : gIx (.tup xs) (.int i) n Q = (∃ v, atI xs i = some v ∧ Q v n) := rfl
@[simp] theorem w_ix3 : gIx (.str s) (.int i) n Q = (∃ c, atI s i = some c ∧ Q (.str [c]) n) := rfl
@[simp] theorem w_ix4 : gIx (.dct ks vs) k n Q = (isKeyD k = true ∧ ∃ v, dGet ks vs k = some v ∧ Q v n) := by cases k <;> rfl
@[simp] theorem w_ix5 : gIx (.dcu ks vs) k n Q = (dKind (.dcu ks vs) k = true ∧ ∃ v, dGet ks vs k = some v ∧ Q v n) := by cases k <;> rfl
@[simp] theorem w_starts : gStarts (.str s) (.str t) n Q = Q (.bl (s.take t.length == t)) n := rfl
@[simp] theorem w_bits : gBits (.int i) n Q = Q (.int (Builtin.Int.intBits i : Nat)) n := rfl
@[simp] theorem w_sl1 : gSl (.str s) lo hi n Q = Q (.str (cutL s lo hi)) n := rfl
@[simp] theorem w_sl2 : gSl (.tup xs) lo hi n Q = (¬ (HT.sIx xs.length 0 lo = 0 ∧ HT.sIx xs.length xs.length hi = xs.length) ∧ Q (.tup (cutL xs lo hi)) n) := rfl
@[simp] theorem w_sl3 : gSl (.lst xs) lo hi n Q = Q (.lst (cutL xs lo hi)) n := rfl
@[simp] theorem w_sl4 : gSl (.scr ns) lo hi n Q = Q (.lst ((cutL ns lo hi).map D.int)) n := rfl
@[simp] theorem w_rev1 : gRev (.str s) n Q = Q (.str s.reverse) n := rfl
@[simp] theorem w_rev2 : gRev (.lst xs) n Q = Q (.lst xs.reverse) n := rfl
@[simp] theorem w_lr1 : gListR1 (.int j) n R = ((j ≤ 16777216 ∧ -2305843009213693952 < j) ∧ R (ups 0 j.toNat) n) := rfl
@[simp] theorem w_lr2 : gListR2 (.int i) (.int j) n R = ((j - i ≤ 16777216 ∧ -2305843009213693952 < i ∧ i < 2305843009213693952 ∧ -2305843009213693952 < j) ∧ R (ups i (j - i).toNat) n) := rfl
@[simp] theorem w_seq1 : gSeq (.lst xs) n R = R xs n := rfl
@[simp] theorem w_seq2 : gSeq (.tup xs) n R = R xs n := rfl
@[simp] theorem w_seq3 : gSeq (.str s) n R = R (s.map fun c => .str [c]) n := rfl
@[simp] theorem w_seqn1 : gSeqN (.lst xs) n R = R xs n := rfl
@[simp] theorem w_seqn2 : gSeqN (.tup xs) n R = R xs n := rfl
@[simp] theorem w_seqn3 : gSeqN (.str s) n R = R (s.map fun c => .str [c]) n := rfl
@[simp] theorem w_seqn4 : gSeqN (.dct ks vs) n R = R ks n := rfl
@[simp] theorem w_seqn6 : gSeqN (.dcu ks vs) n R = R ks n := rfl
@[simp] theorem w_rg1 : gRange1 [.int j] n R = ((j ≤ 16777216 ∧ -2305843009213693952 < j) ∧ R (ups 0 j.toNat) n) := rfl
@[simp] theorem w_rg2 : gRange2 [.int i, .int j] n R = ((j - i ≤ 16777216 ∧ -2305843009213693952 < i ∧ i < 2305843009213693952 ∧ -2305843009213693952 < j) ∧ R (ups i (j - i).toNat) n) := rfl
@[simp] theorem w_enum : gEnumD [.lst xs] n R = R (enumD 0 xs) n := rfl
@[simp] theorem w_zip1 : gZipD [.lst xs, .lst ys] n R = R (zipD xs ys) n := rfl
@[simp] theorem w_zip2 : gZipD [.tup xs, .tup ys] n R = R (zipD xs ys) n := rfl
@[simp] theorem w_nsn {env : SEnv} {P : SEnv → Prop} : nsNil [] env P = P env := rfl
@[simp] theorem w_nsc {φ : SG} {ψ : SGs} {env : SEnv} {P : SEnv → Prop} : nsCons φ ψ (x :: xs) env P = φ x env fun env' => ψ xs env' P := rfl
@[simp] theorem w_nt {m : Nat} {ψ : SGs} {env : SEnv} {P : SEnv → Prop} : nT m ψ (.tup ds) env P = (ds.length = m ∧ ψ ds env P) := rfl
@[simp] theorem w_gsn {env : DEnv} {P : DEnv → Prop} : gsNil [] env P = P env := rfl
@[simp] theorem w_gsc {φ : FG} {ψ : FGs} {env : DEnv} {P : DEnv → Prop} : gsCons φ ψ (x :: xs) env P = φ x env fun env' => ψ xs env' P := rfl
@[simp] theorem w_gt {m : Nat} {ψ : FGs} {env : DEnv} {P : DEnv → Prop} : gT m ψ (.tup ds) env P = (ds.length = m ∧ ψ ds env P) := rfl
end
end DL
namespace DL
open PySem L2
/-- one item of a comprehension -/
def stepD (tg : FG) (tt : FT) (te : FE) (env : DEnv) (x : D) (n : Nat) (K : Option D → Nat → Prop) : Prop := tg x env fun env' => tt env' n fun b n1 => if b = true then te env' n1 fun y n2 => K (some y) n2 else K none n1
theorem goD_step {tg : FG} {tt : FT} {te : FE} {env : DEnv} {x : D} {xs : List D} {n : Nat} {Q : List D → Nat → Prop} (h : stepD tg tt te env x n fun o m => match o with | some y => goD tg tt te env xs m fun ys k => Q (y :: ys) k | none => goD tg tt te env xs m Q) : goD tg tt te env (x :: xs) n Q := h
/-- a comprehension whose items are reckoned without draws -/
theorem goD_pure {α : Type} {c : α → D} {tg : FG} {tt : FT} {te : FE} {env : DEnv} (r : α → Option D) : ∀ {xs : List α} {n : Nat} {Q : List D → Nat → Prop}, (∀ a ∈ xs, ∀ m K, K (r a) m → stepD tg tt te env (c a) m K) → Q (xs.filterMap r) n → goD tg tt te env (xs.map c) n Q
  | [], n, Q, _, h => h
  | a :: xs, n, Q, H, h => goD_step (H a (List.mem_cons_self ..) n _ (by
      cases e : r a with
      | none =>
        rw [List.filterMap_cons_none e] at h
        exact goD_pure r (fun b hb => H b (List.mem_cons_of_mem _ hb)) h
      | some y =>
        rw [List.filterMap_cons_some e] at h
        exact goD_pure r (Q := fun ys k => Q (y :: ys) k) (fun b hb => H b (List.mem_cons_of_mem _ hb)) h))
theorem goD_map {α : Type} {c : α → D} {tg : FG} {tt : FT} {te : FE} {env : DEnv} (r : α → D) {xs : List α} {n : Nat} {Q : List D → Nat → Prop} (H : ∀ a ∈ xs, ∀ m K, K (some (r a)) m → stepD tg tt te env (c a) m K) (h : Q (xs.map r) n) : goD tg tt te env (xs.map c) n Q :=
  goD_pure (fun a => some (r a)) H (by rw [show xs.filterMap (fun a => some (r a)) = xs.map r from by simp]; exact h)
theorem goD_filter {α : Type} {c : α → D} {tg : FG} {tt : FT} {te : FE} {env : DEnv} (p : α → Bool) (r : α → D) {xs : List α} {n : Nat} {Q : List D → Nat → Prop} (H : ∀ a ∈ xs, ∀ m K, (p a = true → K (some (r a)) m) → (p a = false → K none m) → stepD tg tt te env (c a) m K) (h : Q ((xs.filter p).map r) n) : goD tg tt te env (xs.map c) n Q := by
  refine goD_pure (fun a => if p a = true then some (r a) else none) (fun a ha m K hK => H a ha m K (fun e => by rw [if_pos e] at hK; exact hK) (fun e => by rw [if_neg (by rw [e]; decide)] at hK; exact hK)) ?_
  have : xs.filterMap (fun a => if p a = true then some (r a) else none) = (xs.filter p).map r := by
    clear H h
    induction xs with
    | nil => rfl
    | cons x xs ih =>
      by_cases e : p x = true
      · rw [List.filterMap_cons_some (by rw [if_pos e]), List.filter_cons_of_pos e, List.map_cons, ih]
      · rw [List.filterMap_cons_none (by rw [if_neg e]), List.filter_cons_of_neg e, ih]
  rw [this]; exact h
/-- the same where each item gives one -/
theorem goD_draws {α : Type} {f : α → D} {tg : FG} {tt : FT} {te : FE} {env : DEnv} (c : Nat) (P : D → Prop) (B : Nat) : ∀ {xs : List α} {n : Nat} {Q : List D → Nat → Prop}, n + c * xs.length ≤ B → (∀ a ∈ xs, ∀ m K, m + c ≤ B → (∀ y k, m ≤ k → k ≤ m + c → P y → K (some y) k) → stepD tg tt te env (f a) m K) →
    (∀ ys m, n ≤ m → m ≤ n + c * xs.length → (∀ y ∈ ys, P y) → ys.length = xs.length → Q ys m) → goD tg tt te env (xs.map f) n Q
  | [], n, Q, hB, _, h => h [] n (Nat.le_refl _) (by simp) (fun _ h => nomatch h) rfl
  | a :: xs, n, Q, hB, H, h => by
    rw [List.length_cons, Nat.mul_succ] at hB
    refine goD_step (H a (List.mem_cons_self ..) n _ (by omega) fun y k h1 h2 hP => ?_)
    refine goD_draws c P B (by omega) (fun b hb => H b (List.mem_cons_of_mem _ hb)) fun ys m w1 w2 w3 w4 => h (y :: ys) m (by omega) (by rw [List.length_cons, Nat.mul_succ]; omega) (fun z hz => ?_) (by rw [List.length_cons, List.length_cons, w4])
    rcases List.mem_cons.mp hz with rfl | hz
    · exact hP
    · exact w3 z hz
/-- a loop by what holds behind each turn -/
theorem forD_inv {α : Type} {c : α → D} {tg : SG} {body : FS} {E : DEnds} (I : List α → SEnv → Nat → Prop) {xs : List α}
    (H : ∀ (pre : List α) (a : α) (post : List α) (env : SEnv) (n : Nat) (next : SEnv → Nat → Prop), xs = pre ++ a :: post → I pre env n → (∀ e m, I (pre ++ [a]) e m → next e m) → tg (c a) env fun env' => body { nx := next, ct := next, bk := E.nx, rt := E.rt } env' n)
    (hE : ∀ env n, I xs env n → E.nx env n) {env : SEnv} {n : Nat} (h0 : I [] env n) : forD tg body E (xs.map c) env n := by
  have key : ∀ (post pre : List α) env n, xs = pre ++ post → I pre env n → forD tg body E (post.map c) env n := by
    intro post
    induction post with
    | nil =>
      intro pre env n e h
      rw [List.append_nil] at e
      subst e
      exact hE env n h
    | cons a post ih =>
      intro pre env n e h
      exact H pre a post env n _ e h fun e2 m h2 => ih (pre ++ [a]) e2 m (by rw [e]; simp) h2
  exact key xs [] env n rfl h0
theorem ups_eq (lo : Int) (n : Nat) : ups lo n = (List.range n).map fun i : Nat => D.int (lo + (i : Int)) := rfl
abbrev LIM : Nat := 1000000000000000000
/-- what one draw tells at the most -/
abbrev DRW : Nat := 400
def F_mixed : FC := fun ds n Q => ∃ a b c : Int, ds = [.int a, .int b, .int c] ∧ (0 ≤ a ∧ a < 2147483648) ∧ (0 ≤ b ∧ b < 1152921504606846976) ∧ (0 ≤ c ∧ c ≤ 63) ∧ ∀ r : Int, 0 ≤ r → r < 2147483587 → Q (.val (.int r)) n
def F_draw : FC := fun ds n Q => ∃ many : Int, ds = [dice, .int many] ∧ 1 ≤ many ∧ many.natAbs.log2 < 9000 ∧ n + DRW ≤ LIM ∧ ∀ (r : Int) (m : Nat), 0 ≤ r → r < many → n ≤ m → m ≤ n + DRW → Q (.val (.int r)) m
def F_one_of : FC := fun ds n Q => ∃ xs : List D, ds = [dice, .lst xs] ∧ xs ≠ [] ∧ xs.length ≤ 16777216 ∧ n + DRW ≤ LIM ∧ ∀ (x : D) (m : Nat), x ∈ xs → n ≤ m → m ≤ n + DRW → Q (.val x) m
def F_dice0 : FC := fun ds n Q => ∃ (ns : List Int) (i : Int), ds = [.scr ns, .int i] ∧ 0 ≤ i ∧ i ≤ 62 ∧ ∀ d0 d1 : Int, 0 ≤ d0 → (0 ≤ d1 ∧ d1 < 2147483629) → Q (.own [.int d0, .int d1, .int 0, .int i]) n
def F_dice : FC := fun ds n Q => ∃ (ns : List Int) (i : Int), ds = [.scr ns, .int i] ∧ 0 ≤ i ∧ i ≤ 62 ∧ Q (.val dice) n
def F_dices : FC := fun ds n Q => ∃ (ns : List Int) (few : Int), ds = [.scr ns, .int few] ∧ ns.length ≤ 63 ∧ 1 ≤ few ∧ few ≤ 60 ∧ ∀ k : Nat, 1 ≤ k → k ≤ few.toNat → Q (.own (List.replicate k dice)) n
/-- plain data of depth at most k: told alike exactly if it is the same -/
def F_exact (k : Nat) : FC := fun ds n Q => ∃ x y : D, ds = [x, y] ∧ plain k x = true ∧ plain k y = true ∧ Q (.val (.bl (decide (x = y)))) n
def F_none : FC := fun _ _ _ => False
def pr_mixed : FS := (sSeq (sAsg 3 (f2 gAdd3 (f2 gMul (fVar 0) (fC (.int 69069))) (f2 gMul (f2 gMul (fC (.int 104729)) (fVar 1)) (fVar 1)))) (sSeq (sAsg 3 (f2 gMod (fCl gInt (aCons (f2 gAdd3 (f2 gAdd3 (fVar 3) (f2 gMul (fC (.int 7919)) (fVar 2))) (fVar 1)) aNil)) (fC (.int 2147483647)))) (sSeq (sAsg 3 (f2 gMod (fCl gInt (aCons (f2 gAdd3 (f2 gMul (fVar 3) (fVar 3)) (fC (.int 40503))) aNil)) (fC (.int 2147483629)))) (sRet (f2 gMod (fCl gInt (aCons (f2 gMul (fVar 3) (fC (.int 48271))) aNil)) (fC (.int 2147483587)))))))
def pr_draw : FS := (sSeq (sIf (tVal (f2 gGt (fIxB 0 0) (fC (.int 0)))) (sSeq (sAsg 4 (f2 gMod (fCl gInt (aCons (fIxB 0 0) aNil)) (fVar 1))) (sSeq (sSetB 0 0 (f2 gDiv (fIxB 0 0) (fVar 1))) (sRet (fVar 4)))) sNext) (sSeq (sAsg 2 (fC (.int 0))) (sSeq (sFor (iRange1 (aCons (f2 gAdd3 (fC (.int 1)) (f2 gDiv (f1 gBits (fVar 1)) (fC (.int 28)))) aNil)) (nN 3) (sSeq (sSetB 0 2 (f2 gAdd3 (fIxB 0 2) (fC (.int 1)))) (sAsg 2 (f2 gAdd3 (f2 gMul (fVar 2) (fC (.int 2147483587))) (fCall 3 F_mixed [] (aCons (fIxB 0 1) (aCons (fIxB 0 2) (aCons (fIxB 0 3) aNil)))))))) (sRet (f2 gMod (fCl gInt (aCons (fVar 2) aNil)) (fVar 1))))))
def pr_one_of : FS := (sRet (f2 gIx (fVar 1) (fCall 2 F_draw [] (aCons (fVar 0) (aCons (fCl gLen (aCons (fVar 1) aNil)) aNil)))))
def pr_dice : FS := (sSeq (sAsg 2 (fCl gSum (aCons (fSl (fVar 0) (oSo (fVar 1)) (oSo (f2 gAdd3 (fVar 1) (fC (.int 1))))) aNil))) (sRetO (oLst (aCons (f2 gMod (fCl gInt (aCons (fCl gMax (aCons (f2 gSub (fVar 2) (f2 gPow (fC (.int 10)) (fC (.int 18)))) (aCons (fC (.int 0)) aNil))) aNil)) (f2 gPow (f2 gPow (fC (.int 10)) (fC (.int 60))) (fC (.int 8)))) (aCons (f2 gMod (fCl gInt (aCons (fVar 2) aNil)) (fC (.int 2147483629))) (aCons (fC (.int 0)) (aCons (fVar 1) aNil)))))))
def pr_dices : FS := (sRetO (oComp (iRange1 (aCons (fCl gMax (aCons (fC (.int 1)) (aCons (fCl gMin (aCons (fVar 1) (aCons (fCl gLen (aCons (fVar 0) aNil)) aNil))) aNil))) aNil)) (gN 2) tYesD (fCall 2 F_dice [] (aCons (fVar 0) (aCons (fVar 2) aNil))) [2]))
def pr_exact (Fx : FC) : FS := (sSeq (sIf (tVal (fIsiT [.list, .tuple] (fVar 0))) (sSeq (sAsg 2 (fAnd (f2 gEq (fIsi .list (fVar 1)) (fIsi .list (fVar 0))) (f2 gEq (fIsi .tuple (fVar 1)) (fIsi .tuple (fVar 0))))) (sRet (fAnd (fVar 2) (fAnd (f2 gEq (fCl gLen (aCons (fVar 0) aNil)) (fCl gLen (aCons (fVar 1) aNil))) (fCl gAll (aCons (fFrz (oComp (iZipD (aCons (fVar 0) (aCons (fVar 1) aNil))) (gT 2 (gsCons (gN 3) (gsCons (gN 4) gsNil))) tYesD (fCall 2 Fx [] (aCons (fVar 3) (aCons (fVar 4) aNil))) [3, 4])) aNil)))))) sNext) (sSeq (sIf (tVal (fIsi .dict (fVar 0))) (sSeq (sAsg 2 (fAnd (fIsi .dict (fVar 1)) (fCall 2 Fx [] (aCons (fFrz (oCl oList (aCons (fVar 0) aNil))) (aCons (fFrz (oCl oList (aCons (fVar 1) aNil))) aNil))))) (sRet (fAnd (fVar 2) (fCl gAll (aCons (fFrz (oComp (iSeqN 0) (gN 5) tYesD (fCall 2 Fx [] (aCons (f2 gIx (fVar 0) (fVar 5)) (aCons (f2 gIx (fVar 1) (fVar 5)) aNil))) [5])) aNil))))) sNext) (sSeq (sIf (tOrD (tVal (fIsiT [.list, .tuple, .dict] (fVar 1))) (tVal (f2 gNe (f2 gIsN (fVar 0) (fC .non)) (f2 gIsN (fVar 1) (fC .non))))) (sRet (fC (.bl false))) sNext) (sSeq (sAsg 2 (fAnd (f2 gEq (fIsi .int (fVar 0)) (fIsi .int (fVar 1))) (f2 gEq (fIsi .str (fVar 0)) (fIsi .str (fVar 1))))) (sRet (fAnd (fVar 2) (fAnd (f2 gEq (fIsi .bool (fVar 0)) (fIsi .bool (fVar 1))) (f2 gEq (fVar 0) (fVar 1)))))))))
theorem mod_lt {a b : Int} (h : 0 < b) : 0 ≤ a % b ∧ a % b < b := ⟨Int.emod_nonneg _ (by omega), Int.emod_lt_of_pos _ h⟩
theorem pre_mixed : ∀ ds n Q, F_mixed ds n Q → ds.length = 3 → pr_mixed { nx := fun _ m => Q (.val .non) m, rt := fun _ => Q } (startE 1 ds) n := by
  rintro ds n Q ⟨a, b, c, rfl, ha, hb, hc, h⟩ _
  simp [sSeq, pr_mixed]
  refine ⟨.right (by decide), .left (by decide), .right (by omega), .left (by decide), ?_, .right (by decide), ?_⟩
  · have := @mod_lt (a * 69069 + 104729 * b * b + 7919 * c + b) 2147483647 (by decide)
    exact .left (by omega)
  · have := @mod_lt ((((a * 69069 + 104729 * b * b + 7919 * c + b) % 2147483647 * ((a * 69069 + 104729 * b * b + 7919 * c + b) % 2147483647) + 40503) % 2147483629) * 48271) 2147483587 (by decide)
    exact h _ this.1 this.2
theorem divOk_small {j : Int} (h : 0 < j) (h2 : j < 1073741824) : DivOk j := ⟨h, by
  have h3 : j.natAbs < 2 ^ 30 := by omega
  have := (Nat.log2_lt (by omega)).mpr h3
  omega⟩
theorem bits_le (many : Int) (h : many.natAbs.log2 < 9000) : Builtin.Int.intBits many ≤ 9000 := by
  unfold Builtin.Int.intBits
  split <;> omega
theorem pre_draw : ∀ ds n Q, F_draw ds n Q → ds.length = 2 → pr_draw { nx := fun _ m => Q (.val .non) m, rt := fun _ => Q } (startE 3 ds) n := by
  rintro ds n Q ⟨many, rfl, h1, h2, h3, h⟩ _
  simp [sSeq, pr_draw]
  intro d hd
  split
  · intro d1 hd1
    refine ⟨by omega, fun d2 hd2 => ⟨⟨by omega, h2⟩, ?_, ?_⟩⟩
    · exact Int.ediv_nonneg hd2 (by omega)
    · have := @mod_lt d1 many (by omega)
      exact h _ _ this.1 this.2 (by omega) (by simp only [DRW] at *; omega)
  · have hb := bits_le many h2
    refine ⟨divOk_small (by decide) (by decide), by omega, ?_⟩
    have hlen : (1 + (Builtin.Int.intBits many : Int) / 28).toNat ≤ 323 := by omega
    rw [ups_eq]
    refine forD_inv (fun pre env m => ∃ (v : Int) (x3 : Option Sl), env = [some (.val dice), some (.val (.int many)), some (.val (.int v)), x3, none] ∧ m = n + pre.length) ?_ ?_ ⟨0, none, rfl, rfl⟩
    · rintro pre a post env m next hx ⟨v, x3, rfl, rfl⟩ hn
      have hpl : pre.length < 323 := by
        have := congrArg List.length hx
        simp at this
        omega
      simp only [DRW, LIM] at h3
      simp [sSeq, DiceAt]
      intro d2 hd2 hd2'
      refine ⟨⟨by omega, by omega⟩, .right (by decide), ?_⟩
      intro d3 hd3 hd3' d4 hd4 hd4' d5 hd5 hd5'
      refine ⟨d3, d4, d5, rfl, ⟨by omega, by omega⟩, ⟨by omega, by omega⟩, ⟨hd5, hd5'⟩, fun r hr hr' => ?_⟩
      refine hn _ _ ⟨_, _, rfl, by simp; omega⟩
    · rintro env m ⟨v, x3, rfl, rfl⟩
      have := @mod_lt v many (by omega)
      simp
      refine ⟨by omega, h _ _ this.1 this.2 (by omega) (by simp only [DRW]; omega)⟩
theorem atI_ok {α : Type} {xs : List α} {r : Int} (h : 0 ≤ r) (h2 : r < xs.length) : ∃ x, atI xs r = some x ∧ x ∈ xs := by
  refine ⟨xs[r.toNat]'(by omega), ?_, List.getElem_mem _⟩
  unfold atI ixN
  rw [if_pos h, if_pos (by omega)]
  simp
theorem pre_one_of : ∀ ds n Q, F_one_of ds n Q → ds.length = 2 → pr_one_of { nx := fun _ m => Q (.val .non) m, rt := fun _ => Q } (startE 0 ds) n := by
  rintro ds n Q ⟨xs, rfl, h0, hz, h1, h⟩ _
  simp [sSeq, pr_one_of]
  have hl : 0 < xs.length := List.length_pos_iff.mpr h0
  refine ⟨xs.length, rfl, by omega, ?_, h1, fun r m hr hr' hm hm' => ?_⟩
  · have h3 : ((xs.length : Int)).natAbs < 2 ^ 30 := by omega
    have := (Nat.log2_lt (by omega)).mpr h3
    omega
  · obtain ⟨x, hx, hx'⟩ := atI_ok hr hr'
    exact ⟨x, hx, h x m hx' hm hm'⟩
theorem pre_dice0 : ∀ ds n Q, F_dice0 ds n Q → ds.length = 2 → pr_dice { nx := fun _ m => Q (.val .non) m, rt := fun _ => Q } (startE 1 ds) n := by
  rintro ds n Q ⟨ns, i, rfl, h0, h1, h⟩ _
  simp [sSeq, pr_dice]
  refine ⟨_, rfl, ⟨by decide, by decide⟩, ⟨by decide, by decide +kernel⟩, ⟨by decide, by decide +kernel⟩, by decide, h _ _ (Int.emod_nonneg _ (by decide)) ?_⟩
  exact mod_lt (by decide)
theorem goD_const {α : Type} {c : α → D} {tg : FG} {tt : FT} {te : FE} {env : DEnv} (d : D) {xs : List α} {n : Nat} {Q : List D → Nat → Prop} (H : ∀ a ∈ xs, ∀ m K, K (some d) m → stepD tg tt te env (c a) m K) (h : Q (List.replicate xs.length d) n) : goD tg tt te env (xs.map c) n Q := by
  refine goD_map (fun _ => d) H ?_
  rw [show xs.map (fun _ => d) = List.replicate xs.length d from List.map_const' ..]
  exact h
theorem pre_dices : ∀ ds n Q, F_dices ds n Q → ds.length = 2 → pr_dices { nx := fun _ m => Q (.val .non) m, rt := fun _ => Q } (startE 1 ds) n := by
  rintro ds n Q ⟨ns, few, rfl, hl, h0, h1, h⟩ _
  simp [sSeq, pr_dices]
  refine ⟨⟨by omega, by omega⟩, ?_⟩
  rw [ups_eq]
  refine goD_const dice (fun a ha m K hK => ?_) ?_
  · have := List.mem_range.mp ha
    simp [stepD]
    exact ⟨ns, a, rfl, by omega, by omega, hK⟩
  · rw [List.length_range]
    exact h _ (by omega) (by omega)
theorem plain_lst {k : Nat} {xs : List D} (h : plain k (.lst xs) = true) : ∃ j, k = j + 1 ∧ plains j xs = true := by
  cases k with
  | zero => simp at h
  | succ j => exact ⟨j, rfl, by simpa using h⟩
theorem plain_tup {k : Nat} {xs : List D} (h : plain k (.tup xs) = true) : ∃ j, k = j + 1 ∧ plains j xs = true := by
  cases k with
  | zero => simp at h
  | succ j => exact ⟨j, rfl, by simpa using h⟩
theorem plains_mem {k : Nat} {x : D} : ∀ {xs : List D}, plains k xs = true → x ∈ xs → plain k x = true
  | [], _, h => nomatch h
  | y :: ys, h, hx => by
    simp only [plains, Bool.and_eq_true] at h
    rcases List.mem_cons.mp hx with rfl | hx
    · exact h.1
    · exact plains_mem h.2 hx
theorem zipD_eq : ∀ xs ys : List D, zipD xs ys = (xs.zip ys).map fun p => .tup [p.1, p.2]
  | [], _ => by simp [zipD]
  | _ :: _, [] => by simp [zipD]
  | x :: xs, y :: ys => by simp [zipD, zipD_eq xs ys]
theorem zip_all : ∀ xs ys : List D, xs.length = ys.length → ((xs.zip ys).map fun p => decide (p.1 = p.2)).all id = decide (xs = ys)
  | [], [], _ => rfl
  | [], _ :: _, h => by simp at h
  | _ :: _, [], h => by simp at h
  | x :: xs, y :: ys, h => by
    have ih := zip_all xs ys (by simpa using h)
    simp only [List.zip_cons_cons, List.map_cons, List.all_cons, ih, id]
    rw [← Bool.decide_and]
    simp
/-- the kinds of plain data -/
theorem plain_cases {k : Nat} {x : D} (h : plain k x = true) : x = .non ∨ (∃ b, x = .bl b) ∨ (∃ i, x = .int i) ∨ (∃ s, x = .str s) ∨ (∃ xs, x = .lst xs) ∨ ∃ xs, x = .tup xs := by
  cases x with
  | non => exact .inl rfl
  | bl b => exact .inr (.inl ⟨b, rfl⟩)
  | int i => exact .inr (.inr (.inl ⟨i, rfl⟩))
  | str s => exact .inr (.inr (.inr (.inl ⟨s, rfl⟩)))
  | lst xs => exact .inr (.inr (.inr (.inr (.inl ⟨xs, rfl⟩))))
  | tup xs => exact .inr (.inr (.inr (.inr (.inr ⟨xs, rfl⟩))))
  | _ => cases k <;> simp at h
theorem exact_all {Fx : FC} {k n : Nat} {xs ys : List D} {env : DEnv} {Q : List D → Nat → Prop} (hF : Fx = F_exact k) (hl : 5 ≤ env.length) (hx : plains k xs = true) (hy : plains k ys = true) (h : xs.length = ys.length) (hQ : Q (((xs.zip ys).map fun p => decide (p.1 = p.2)).map D.bl) n) :
    goD (gT 2 (gsCons (gN 3) (gsCons (gN 4) gsNil))) tYesD (fCall 2 Fx [] (aCons (fVar 3) (aCons (fVar 4) aNil))) env (zipD xs ys) n Q := by
  subst hF
  rw [zipD_eq]
  refine goD_map (fun p => .bl (decide (p.1 = p.2))) (fun p hp m K hK => ?_) (by rw [List.map_map] at hQ; exact hQ)
  have h1 := List.of_mem_zip hp
  match env, hl with
  | a :: b :: c :: d :: e :: r, _ =>
    simp [stepD]
    exact ⟨_, _, rfl, plains_mem hx h1.1, plains_mem hy h1.2, hK⟩
theorem pre_exact_lst (k : Nat) (Fx : FC) (hF : ∀ j, k = j + 1 → Fx = F_exact j) (xs : List D) (y : D) (n : Nat) (Q : Sl → Nat → Prop) (hx : plain k (.lst xs) = true) (hy : plain k y = true) (h : Q (.val (.bl (decide (D.lst xs = y)))) n) : pr_exact Fx { nx := fun _ m => Q (.val .non) m, rt := fun _ => Q } (startE 4 [.lst xs, y]) n := by
  obtain ⟨j, rfl, hxs⟩ := plain_lst hx
  rcases plain_cases hy with rfl | ⟨b, rfl⟩ | ⟨b, rfl⟩ | ⟨b, rfl⟩ | ⟨ys, rfl⟩ | ⟨b, rfl⟩
  case inr.inr.inr.inr.inl =>
    obtain ⟨j', e, hys⟩ := plain_lst hy
    cases e
    simp [sSeq, pr_exact]
    split
    · rename_i hl
      refine exact_all (hF j rfl) (by simp) hxs hys (by omega) ⟨_, rfl, ?_⟩
      rw [zip_all xs ys (by omega)]
      have e : decide (D.lst xs = D.lst ys) = decide (xs = ys) := by simp
      rw [← e]; exact h
    · rename_i hl
      have e : decide (D.lst xs = D.lst ys) = false := by
        simp
        intro e
        subst e
        exact hl rfl
      rw [e] at h; exact h
  all_goals (simp [sSeq, pr_exact]; simpa using h)
theorem pre_exact_tup (k : Nat) (Fx : FC) (hF : ∀ j, k = j + 1 → Fx = F_exact j) (xs : List D) (y : D) (n : Nat) (Q : Sl → Nat → Prop) (hx : plain k (.tup xs) = true) (hy : plain k y = true) (h : Q (.val (.bl (decide (D.tup xs = y)))) n) : pr_exact Fx { nx := fun _ m => Q (.val .non) m, rt := fun _ => Q } (startE 4 [.tup xs, y]) n := by
  obtain ⟨j, rfl, hxs⟩ := plain_tup hx
  rcases plain_cases hy with rfl | ⟨b, rfl⟩ | ⟨b, rfl⟩ | ⟨b, rfl⟩ | ⟨b, rfl⟩ | ⟨ys, rfl⟩
  case inr.inr.inr.inr.inr =>
    obtain ⟨j', e, hys⟩ := plain_tup hy
    cases e
    simp [sSeq, pr_exact]
    split
    · rename_i hl
      refine exact_all (hF j rfl) (by simp) hxs hys (by omega) ⟨_, rfl, ?_⟩
      rw [zip_all xs ys (by omega)]
      have e : decide (D.tup xs = D.tup ys) = decide (xs = ys) := by simp
      rw [← e]; exact h
    · rename_i hl
      have e : decide (D.tup xs = D.tup ys) = false := by
        simp
        intro e
        subst e
        exact hl rfl
      rw [e] at h; exact h
  all_goals (simp [sSeq, pr_exact]; simpa using h)
theorem pre_exact_atom (k : Nat) (Fx : FC) (x y : D) (n : Nat) (Q : Sl → Nat → Prop) (hx : flatD x = true) (hy : plain k y = true) (h : Q (.val (.bl (decide (x = y)))) n) : pr_exact Fx { nx := fun _ m => Q (.val .non) m, rt := fun _ => Q } (startE 4 [x, y]) n := by
  cases x with
  | non => 
    rcases plain_cases hy with rfl | ⟨b, rfl⟩ | ⟨b, rfl⟩ | ⟨b, rfl⟩ | ⟨b, rfl⟩ | ⟨ys, rfl⟩
    all_goals (simp [sSeq, pr_exact]; first | simpa using h | (rw [Bool.beq_eq_decide_eq]; simpa using h))
  | bl a => 
    rcases plain_cases hy with rfl | ⟨b, rfl⟩ | ⟨b, rfl⟩ | ⟨b, rfl⟩ | ⟨b, rfl⟩ | ⟨ys, rfl⟩
    all_goals (simp [sSeq, pr_exact]; first | simpa using h | (rw [Bool.beq_eq_decide_eq]; simpa using h))
  | int a => 
    rcases plain_cases hy with rfl | ⟨b, rfl⟩ | ⟨b, rfl⟩ | ⟨b, rfl⟩ | ⟨b, rfl⟩ | ⟨ys, rfl⟩
    all_goals (simp [sSeq, pr_exact]; first | simpa using h | (rw [Bool.beq_eq_decide_eq]; simpa using h))
  | str a => 
    rcases plain_cases hy with rfl | ⟨b, rfl⟩ | ⟨b, rfl⟩ | ⟨b, rfl⟩ | ⟨b, rfl⟩ | ⟨ys, rfl⟩
    all_goals (simp [sSeq, pr_exact]; first | simpa using h | (rw [Bool.beq_eq_decide_eq]; simpa using h))
  | _ => simp [flatD] at hx
theorem pre_exactF (k : Nat) (Fx : FC) (hF : ∀ j, k = j + 1 → Fx = F_exact j) : ∀ ds n Q, F_exact k ds n Q → ds.length = 2 → pr_exact Fx { nx := fun _ m => Q (.val .non) m, rt := fun _ => Q } (startE 4 ds) n := by
  rintro ds n Q ⟨x, y, rfl, hx, hy, h⟩ _
  rcases plain_cases hx with rfl | ⟨b, rfl⟩ | ⟨b, rfl⟩ | ⟨b, rfl⟩ | ⟨b, rfl⟩ | ⟨ys, rfl⟩
  · exact pre_exact_atom k Fx _ _ n Q rfl hy h
  · exact pre_exact_atom k Fx _ _ n Q rfl hy h
  · exact pre_exact_atom k Fx _ _ n Q rfl hy h
  · exact pre_exact_atom k Fx _ _ n Q rfl hy h
  · exact pre_exact_lst k Fx hF _ _ n Q hx hy h
  · exact pre_exact_tup k Fx hF _ _ n Q hx hy h
end DL
namespace DL
open PySem L2
/-- one statement at a time, what follows left closed -/
theorem sSeq_of {a b : FS} {E : DEnds} {env : SEnv} {n : Nat} (h : ∀ next : SEnv → Nat → Prop, (∀ e m, b E e m → next e m) → a { E with nx := next } env n) : sSeq a b E env n := h _ fun _ _ h => h
theorem atI_nat' {α : Type} {xs : List α} {i : Nat} {x : α} (h : xs[i]? = some x) : atI xs (i : Int) = some x := by
  have hi := (List.getElem?_eq_some_iff.mp h).1
  unfold atI ixN
  rw [if_pos (by omega), if_pos (by omega)]
  simpa using h
theorem range_pre {n : Nat} {pre post : List Nat} {a : Nat} (hx : List.range n = pre ++ a :: post) : pre.length < n ∧ a = pre.length := by
  have hlen := congrArg List.length hx
  have hpl : pre.length < n := by simp at hlen; omega
  refine ⟨hpl, ?_⟩
  have h2 := congrArg (fun l : List Nat => l[pre.length]?) hx
  simp only [List.getElem?_append_right (Nat.le_refl _), Nat.sub_self, List.getElem?_cons_zero] at h2
  rw [List.getElem?_range hpl] at h2
  exact (Option.some.inj h2).symm
end DL
namespace DL
open PySem PySem.Spec PyProof.Rows L2
section
variable {κ : Kit} {P : Program} {w : World} {K : PySem.W.Frag} {mg : Str → Option Value} {base : Heap} {f : Addr} {fd : FuncData} {ps : List Str} {k j : Nat}
theorem fn_none : FnOk P w K mg base CX0 k f fd ps (spD κ j F_none) := by
  have no : ∀ vs H Q E, spD κ j F_none vs H Q E → False := fun vs H Q E h => by
    obtain ⟨_, _, _, _, _, _, _, hf, _⟩ := h
    exact hf
  exact ⟨fun vs H Q E h => (no _ _ _ _ h).elim, fun A outer s H args us vs Q E _ _ _ _ h => (no _ _ _ _ h).elim⟩
theorem dice_step : ∀ ds n Q, F_dice ds n Q → F_dice0 ds n fun s m => ∃ d0 d1 d2 d3 : Int, s = .own [.int d0, .int d1, .int d2, .int d3] ∧ DiceAt 0 d0 m ∧ DiceAt 1 d1 m ∧ DiceAt 2 d2 m ∧ DiceAt 3 d3 m ∧ Q (.val dice) m := by
  rintro ds n Q ⟨ns, i, rfl, h0, h1, h⟩
  exact ⟨ns, i, rfl, h0, h1, fun d0 d1 a0 a1 => ⟨d0, d1, 0, i, rfl, a0, a1, ⟨Int.le_refl _, by omega⟩, ⟨h0, by omega⟩, h⟩⟩
/-- the contract of a law: over the script it answers True -/
def F_law : FC := fun ds n Q => ∃ ns : List Int, ds = [.scr ns] ∧ ns.length ≤ 63 ∧ n = 0 ∧ ∀ m, Q (.val (.bl true)) m
theorem law_sp {κ : Kit} {H : Hp} {a : Addr} {ns : List Int} (hl : ns.length ≤ 63) (hS : SqL κ.K H a (ns.map V.int)) (hx : ∀ a, κ.fx a = none := by intro _; rfl) : spD κ 1 F_law [.ref a] H (fun v _ => v = .bl true) fun _ _ _ => False := by
  refine ⟨rfl, ⟨fun _ => none, fun _ => none, 0⟩, H, [.scr ns], fun s _ => s = .val (.bl true), ⟨fun _ _ h => (nomatch h), fun _ _ h => .inl h, fun _ _ h => (nomatch h), fun a t h => by rw [hx a] at h; cases h⟩, .cons (.scr hS (Nat.le_trans hl (by decide))) .nil, ⟨ns, rfl, hl, rfl, fun _ => rfl⟩, ?_⟩
  intro v s P' G' H' gr g r e
  subst e
  cases r
  rfl
end
end DL
namespace DL
open PySem L2
/-- is_whole(value), slots 0 value -/
def cm_is_whole : FS := (sRet (fAnd (fIsi .int (fVar 0)) (fNot (fIsi .bool (fVar 0)))))
/-- is_count(value, most), slots 0 value 1 most -/
def cm_is_count (F_is_whole : FC) : FS := (sRet (fAnd (fCall 1 F_is_whole [] (aCons (fVar 0) aNil)) (fAnd (f2 gGe (fVar 0) (fC (.int 0))) (fOr (f2 gIsN (fVar 1) (fC .non)) (f2 gLe (fVar 0) (fVar 1))))))
/-- is_text(value), slots 0 value 1 sign -/
def cm_is_text : FS := (sRet (fAnd (fIsi .str (fVar 0)) (fCl gAll (aCons (fFrz (oComp (iSeqN 0) (gN 1) tYesD (fChain gLe gLe (fC (.str [97])) (fVar 1) (fC (.str [122]))) [1])) aNil))))
/-- _law_letters(dice, many), slots 0 dice 1 many 2 found 3 spin 4 late 5 sign -/
def cm__law_letters (F__law_draw : FC) : FS := (sSeq (sAsgO 2 (oLst aNil)) (sSeq (sFor (iRange1 (aCons (fVar 1) aNil)) (nN 3) (sSeq (sAsg 4 (f2 gIx (fC (.str [97, 98, 99, 100, 101, 102, 103, 104, 105, 106, 107, 108, 109, 110, 111, 112, 113, 114, 115, 116, 117, 118, 119, 120, 121, 122])) (fCall 2 F__law_draw [] (aCons (fVar 0) (aCons (fC (.int 26)) aNil))))) (sAppV 2 (fIf (tVal (f2 gNotIn (fVar 4) (fVar 2))) (fVar 4) (f2 gIx (fFrz (oComp (iSeq (fFrz (oCl oList (aCons (fC (.str [97, 98, 99, 100, 101, 102, 103, 104, 105, 106, 107, 108, 109, 110, 111, 112, 113, 114, 115, 116, 117, 118, 119, 120, 121, 122])) aNil)))) (gN 5) (tVal (f2 gNotIn (fVar 5) (fVar 2))) (fVar 5) [5])) (fC (.int 0))))))) (sRetV (fM1 gJoin (fC (.str [])) (fFrz (oCl oSorted (aCons (fVar 2) aNil)))))))
/-- is_word(value), slots 0 value -/
def cm_is_word (F_is_text : FC) : FS := (sRet (fAnd (fCall 1 F_is_text [] (aCons (fVar 0) aNil)) (f2 gNe (fVar 0) (fC (.str [])))))
/-- has(text, period), slots 0 text 1 period -/
def cm_has : FS := (sRet (fAnd (f2 gLt (fVar 1) (fCl gLen (aCons (fVar 0) aNil))) (f2 gEq (fSl (fVar 0) (oSo (fVar 1)) oNo) (fSl (fVar 0) oNo (oSo (f2 gSub (fCl gLen (aCons (fVar 0) aNil)) (fVar 1)))))))
/-- _law_text(dice, ground, most), slots 0 dice 1 ground 2 most 3 signs 4 found 5 size 6 way 7 word 8 spin -/
def cm__law_text (F__law_draw : FC) (F__law_one_of : FC) : FS := (sSeq (sPar [3, 4] (xCons (xV (fFrz (oCl oList (aCons (f2 gIx (fVar 1) (fC (.int 0))) aNil)))) (xCons (xV (fC (.str []))) xNil))) (sSeq (sAsg 5 (fCall 2 F__law_draw [] (aCons (fVar 0) (aCons (f2 gAdd3 (fVar 2) (fC (.int 1))) aNil)))) (sSeq (sWhile (tVal (f2 gLt (fCl gLen (aCons (fVar 4) aNil)) (fVar 5))) (sSeq (sAsg 6 (fCall 2 F__law_draw [] (aCons (fVar 0) (aCons (fC (.int 4)) aNil)))) (sIf (tVal (f2 gEq (fVar 6) (fC (.int 0)))) (sSeq (sAsg 7 (fM1 gJoin (fC (.str [])) (fFrz (oComp (iRange1 (aCons (f2 gAdd3 (fC (.int 1)) (fCall 2 F__law_draw [] (aCons (fVar 0) (aCons (f2 gIx (fVar 1) (fC (.int 1))) aNil)))) aNil)) (gN 8) tYesD (fCall 2 F__law_one_of [] (aCons (fVar 0) (aCons (fVar 3) aNil))) [8])))) (sAsg 4 (f2 gAdd3 (fVar 4) (f2 gMul (fVar 7) (f2 gAdd3 (fC (.int 1)) (fCall 2 F__law_draw [] (aCons (fVar 0) (aCons (fC (.int 4)) aNil)))))))) (sIf (tVal (f2 gEq (fVar 6) (fC (.int 1)))) (sAsg 4 (f2 gAdd3 (fVar 4) (f2 gMul (f2 gIx (fVar 3) (fC (.int 0))) (f2 gAdd3 (fC (.int 1)) (fCall 2 F__law_draw [] (aCons (fVar 0) (aCons (fC (.int 3)) aNil))))))) (sAsg 4 (f2 gAdd3 (fVar 4) (fM1 gJoin (fC (.str [])) (fFrz (oComp (iRange1 (aCons (f2 gAdd3 (fC (.int 1)) (fCall 2 F__law_draw [] (aCons (fVar 0) (aCons (fC (.int 4)) aNil)))) aNil)) (gN 8) tYesD (fCall 2 F__law_one_of [] (aCons (fVar 0) (aCons (fVar 3) aNil))) [8]))))))))) (sRet (fSl (fVar 4) oNo (oSo (fVar 5)))))))
end DL
namespace DL
open PySem L2
def isWh (d : D) : Bool := isiD .int d && !isiD .bool d
@[simp] theorem isWh_int (i : Int) : isWh (.int i) = true := rfl
def isCnt (d e : D) : Bool := isWh d && match d, e with
  | .int i, .int j => decide (0 ≤ i) && decide (i ≤ j)
  | .int i, _ => decide (0 ≤ i)
  | _, _ => false
@[simp] theorem isCnt_non (i : Int) : isCnt (.int i) .non = decide (0 ≤ i) := rfl
@[simp] theorem isCnt_int (i j : Int) : isCnt (.int i) (.int j) = (decide (0 ≤ i) && decide (i ≤ j)) := rfl
def low (s : List Nat) : Bool := s.all fun c => decide (97 ≤ c) && decide (c ≤ 122)
def isTx : D → Bool
  | .str s => low s
  | _ => false
@[simp] theorem isTx_str (s : List Nat) : isTx (.str s) = low s := rfl
def isWd : D → Bool
  | .str s => low s && !s.isEmpty
  | _ => false
@[simp] theorem isWd_str (s : List Nat) : isWd (.str s) = (low s && !s.isEmpty) := rfl
def F_is_whole : FC := fun ds n Q => ∃ d, ds = [d] ∧ hasTy d = true ∧ Q (.val (.bl (isWh d))) n
def F_is_count : FC := fun ds n Q => ∃ d e, ds = [d, e] ∧ hasTy d = true ∧ (e = .non ∨ ∃ j, e = .int j) ∧ Q (.val (.bl (isCnt d e))) n
def F_is_text : FC := fun ds n Q => ∃ d, ds = [d] ∧ hasTy d = true ∧ Q (.val (.bl (isTx d))) n
def F_is_word : FC := fun ds n Q => ∃ d, ds = [d] ∧ plain 64 d = true ∧ Q (.val (.bl (isWd d))) n
theorem law_is_whole : ∀ ds n Q, F_is_whole ds n Q → ds.length = 1 → cm_is_whole { nx := fun _ m => Q (.val .non) m, rt := fun _ => Q } (startE 0 ds) n := by
  rintro ds n Q ⟨d, rfl, h1, h⟩ _
  cases d <;> simp [cm_is_whole, isWh] at h1 h ⊢ <;> exact h
theorem isWh_iff {d : D} (h : isWh d = true) : ∃ i, d = .int i := by
  cases d <;> simp [isWh] at h
  exact ⟨_, rfl⟩
theorem law_is_count : ∀ ds n Q, F_is_count ds n Q → ds.length = 2 → cm_is_count F_is_whole { nx := fun _ m => Q (.val .non) m, rt := fun _ => Q } (startE 0 ds) n := by
  rintro ds n Q ⟨d, e, rfl, h1, h2, h⟩ _
  by_cases hw : isWh d = true
  · obtain ⟨i, rfl⟩ := isWh_iff hw
    simp [cm_is_count]
    refine ⟨_, rfl, rfl, ?_⟩
    rcases h2 with rfl | ⟨j, rfl⟩
    · by_cases hi : 0 ≤ i <;> simp [hi] at h ⊢ <;> exact h
    · by_cases hi : 0 ≤ i <;> simp [hi] at h ⊢ <;> exact h
  · simp at hw
    have : isCnt d e = false := by
      unfold isCnt
      rw [hw]; rfl
    rw [this] at h
    simp [cm_is_count]
    refine ⟨d, rfl, h1, ?_⟩
    simp [hw]
    exact h
@[simp] theorem lt1 (a b : Nat) : ([a] < [b]) = (a < b) := by simp [List.cons_lt_cons_iff]
@[simp] theorem le1 (a b : Nat) : ([a] ≤ [b]) = (a ≤ b) := by
  show (¬ [b] < [a]) = _
  simp
theorem law_is_text : ∀ ds n Q, F_is_text ds n Q → ds.length = 1 → cm_is_text { nx := fun _ m => Q (.val .non) m, rt := fun _ => Q } (startE 1 ds) n := by
  rintro ds n Q ⟨d, rfl, h1, h⟩ _
  cases d with
  | str s =>
    simp [cm_is_text]
    refine goD_map (fun c => .bl (decide (97 ≤ c) && decide (c ≤ 122))) (fun c hc m K hK => ?_) ?_
    · simp [stepD]
      by_cases g1 : 97 ≤ c
      · rw [if_pos g1]
        by_cases g2 : c ≤ 122
        · have : ¬ 122 < c := by omega
          simpa [g1, g2, this] using hK
        · have : 122 < c := by omega
          simpa [g1, g2, this] using hK
      · rw [if_neg g1]
        simpa [g1] using hK
    · refine ⟨s.map fun c => decide (97 ≤ c) && decide (c ≤ 122), by rw [List.map_map]; rfl, ?_⟩
      simpa [isTx, low, List.all_map, Function.comp_def] using h
  | _ => simp [cm_is_text] at h1 ⊢ <;> simpa [isTx] using h
theorem law_is_word : ∀ ds n Q, F_is_word ds n Q → ds.length = 1 → cm_is_word F_is_text { nx := fun _ m => Q (.val .non) m, rt := fun _ => Q } (startE 0 ds) n := by
  rintro ds n Q ⟨d, rfl, h1, h⟩ _
  simp [cm_is_word]
  refine ⟨d, rfl, by cases d <;> simp at h1 ⊢, ?_⟩
  cases d with
  | str s =>
    by_cases hl : low s = true
    · simp [hl]
      cases s with
      | nil => simpa [hl] using h
      | cons => simpa [hl] using h
    · simp [hl] at h ⊢
      exact h
  | _ => simp [isTx] ; simpa [isWd] using h
end DL
namespace DL
open PySem L2 PyProof.Rows
def ABC : List Nat := [97, 98, 99, 100, 101, 102, 103, 104, 105, 106, 107, 108, 109, 110, 111, 112, 113, 114, 115, 116, 117, 118, 119, 120, 121, 122]
theorem abc_low : ∀ c ∈ ABC, 97 ≤ c ∧ c ≤ 122 := by decide
theorem abc_len : ABC.length = 26 := rfl
theorem abc_nodup : ABC.Nodup := by decide
theorem low_iff {s : List Nat} : low s = true ↔ ∀ c ∈ s, 97 ≤ c ∧ c ≤ 122 := by simp [low]
theorem nodup_le : ∀ {xs ys : List Nat}, xs.Nodup → (∀ x ∈ xs, x ∈ ys) → xs.length ≤ ys.length
  | [], _, _, _ => Nat.zero_le _
  | x :: xs, ys, h, hs => by
    have h1 := List.nodup_cons.mp h
    have hx := hs x (List.mem_cons_self ..)
    have h2 := nodup_le (ys := ys.erase x) h1.2 (fun z hz => by
      have hne : z ≠ x := fun e => by subst e; exact h1.1 hz
      exact (List.mem_erase_of_ne hne).mpr (hs z (List.mem_cons_of_mem _ hz)))
    rw [List.length_erase_of_mem hx] at h2
    have := List.length_pos_of_mem hx
    rw [List.length_cons]
    omega
theorem lt_cps (a b : Nat) : Spec.ltCps [a] [b] = decide (a < b) := by
  simp [Spec.ltCps]
theorem rising_lt : ∀ (cs : List Nat) (p : Nat), risingS ⟨[p].toArray⟩ (cs.map fun c => (⟨[c].toArray⟩ : Str)) = true → (p :: cs).Pairwise (· ≤ ·)
  | [], p, _ => by simp
  | c :: cs, p, h => by
    rw [List.map_cons] at h
    unfold risingS at h
    simp only [Bool.and_eq_true, Bool.not_eq_true'] at h
    have h1 : ¬ c < p := by
      have := h.1
      rw [show Spec.ltCps (⟨[c].toArray⟩ : Str).cps.toList (⟨[p].toArray⟩ : Str).cps.toList = decide (c < p) from lt_cps c p] at this
      simpa using this
    have ih := rising_lt cs c h.2
    refine List.pairwise_cons.mpr ⟨fun z hz => ?_, ih⟩
    rcases List.mem_cons.mp hz with rfl | hz
    · omega
    · have := (List.pairwise_cons.mp ih).1 z hz
      omega
theorem sorted_lt {cs : List Nat} (h : sortedS (cs.map fun c => (⟨[c].toArray⟩ : Str)) = true) (hn : cs.Nodup) : cs.Pairwise (· < ·) := by
  have h1 : cs.Pairwise (· ≤ ·) := by
    cases cs with
    | nil => exact .nil
    | cons c cs => exact rising_lt cs c h
  have := h1.and hn
  exact this.imp fun ⟨a, b⟩ => by omega
theorem joinL_nil : ∀ ss : List (List Nat), joinL [] ss = ss.flatten
  | [] => rfl
  | [s] => by simp [joinL]
  | s :: t :: r => by
    have := joinL_nil (t :: r)
    simp [joinL, this]
theorem flat_ones (cs : List Nat) : (cs.map fun c => [c]).flatten = cs := by
  induction cs with
  | nil => rfl
  | cons c cs ih => rw [List.map_cons, List.flatten_cons, ih]; rfl
theorem sum_ones (ds : List Nat) : ((ds.map fun c => [c]).map List.length).sum = ds.length := by
  induction ds with
  | nil => rfl
  | cons d ds ih => rw [List.map_cons, List.map_cons, List.sum_cons, ih, List.length_cons, List.length_cons, List.length_nil]; omega
theorem perm_ones {ts : List (List Nat)} {cs : List Nat} (h : ts.Perm (cs.map fun c => [c])) : ∃ ds : List Nat, ts = ds.map (fun c => [c]) ∧ ds.Perm cs := by
  refine ⟨ts.flatten, ?_, ?_⟩
  · have : ∀ t ∈ ts, ∃ c, t = [c] := fun t ht => by
      obtain ⟨c, _, e⟩ := List.mem_map.mp (h.mem_iff.mp ht)
      exact ⟨c, e.symm⟩
    clear h
    induction ts with
    | nil => rfl
    | cons t ts ih =>
      obtain ⟨c, rfl⟩ := this t (List.mem_cons_self ..)
      have ih := ih fun t ht => this t (List.mem_cons_of_mem _ ht)
      rw [List.flatten_cons, List.map_append, ← ih]; rfl
  · have := h.flatten
    rw [flat_ones] at this
    exact this
/-- join over single signs -/
theorem join_ones {cs : List Nat} {n : Nat} {Q : D → Nat → Prop} (hl : cs.length ≤ 16777216) (h : Q (.str cs) n) : gJoin (.str []) (.lst ((cs.map fun c => [c]).map D.str)) n Q := by
  refine ⟨[], _, rfl, .inl rfl, ?_, by rw [joinL_nil, flat_ones]; exact h⟩
  rw [sum_ones]
  simp
  exact hl
/-- letters: so many, in order, no two alike -/
structure Letters (many : Nat) (s : List Nat) : Prop where
  len : s.length = many
  low : low s = true
  inc : s.Pairwise (· < ·)
def F__law_letters : FC := fun ds n Q => ∃ many : Nat, ds = [dice, .int many] ∧ many ≤ 26 ∧ n + DRW * 26 ≤ LIM ∧ ∀ s m, Letters many s → n ≤ m → m ≤ n + DRW * 26 → Q (.val (.str s)) m
theorem law__law_letters : ∀ ds n Q, F__law_letters ds n Q → ds.length = 2 → cm__law_letters F_draw { nx := fun _ m => Q (.val .non) m, rt := fun _ => Q } (startE 4 ds) n := by
  rintro ds n Q ⟨many, rfl, hm, hn, h⟩ _
  unfold cm__law_letters
  rw [show ([97, 98, 99, 100, 101, 102, 103, 104, 105, 106, 107, 108, 109, 110, 111, 112, 113, 114, 115, 116, 117, 118, 119, 120, 121, 122] : List Nat) = ABC from rfl]
  obtain ⟨A, eA, abc_len, abc_nodup, abc_low⟩ : ∃ A : List Nat, ABC = A ∧ A.length = 26 ∧ A.Nodup ∧ ∀ c ∈ A, 97 ≤ c ∧ c ≤ 122 := ⟨ABC, rfl, abc_len, abc_nodup, abc_low⟩
  rw [eA]
  refine sSeq_of fun next0 hn0 => ?_
  simp
  refine hn0 _ _ ?_
  refine sSeq_of fun next1 hn1 => ?_
  simp
  refine ⟨by omega, ?_⟩
  rw [ups_eq]
  refine forD_inv (fun pre env m => ∃ (cs : List Nat) (x3 x4 : Option Sl), env = [some (.val dice), some (.val (.int many)), some (.own (cs.map fun c => .str [c])), x3, x4, none] ∧ cs.length = pre.length ∧ cs.Nodup ∧ (∀ c ∈ cs, c ∈ A) ∧ n ≤ m ∧ m ≤ n + DRW * pre.length) ?_ ?_ ⟨[], none, none, rfl, rfl, .nil, fun _ h => (nomatch h), Nat.le_refl _, Nat.le_refl _⟩
  · rintro pre a post env m next hx ⟨cs, x3, x4, rfl, hl, hnd, hsub, hm1, hm2⟩ hnext
    obtain ⟨hpl, rfl⟩ := range_pre hx
    simp only [DRW, LIM] at *
    refine sSeq_of fun next2 hn2 => ?_
    simp
    refine ⟨26, rfl, by decide, by decide, by simp only [DRW, LIM]; omega, fun r m2 hr hr' hm3 hm4 => ?_⟩
    simp only [DRW, LIM] at *
    obtain ⟨c, hc, hcm⟩ := atI_ok (xs := A) hr (by rw [abc_len]; exact hr')
    simp
    refine ⟨c, hc, hn2 _ _ ?_⟩
    simp
    have fin : ∀ d, d ∈ A → d ∉ cs → ∀ e, e = [some (.val dice), some (.val (.int many)), some (.own ((cs ++ [d]).map fun c => .str [c])), some (.val (.int (pre.length : Int))), some (.val (.str [c])), none] → next e m2 := fun d hd hd2 e he => by
      refine hnext _ _ ⟨cs ++ [d], _, _, he, by simp [hl], ?_, ?_, by omega, by simp; omega⟩
      · refine List.nodup_append.mpr ⟨hnd, by simp, ?_⟩
        intro x hx y hy e
        simp at hy
        subst hy e
        exact hd2 hx
      · intro x hx
        rcases List.mem_append.mp hx with h1 | h1
        · exact hsub x h1
        · simp at h1; subst h1; exact hd
    by_cases hcs : c ∈ cs
    · rw [if_pos hcs]
      refine goD_filter (fun d => decide (d ∉ cs)) (fun d => .str [d]) (fun d hd k K hT hF => ?_) ?_
      · simp [stepD]
        by_cases hdc : d ∈ cs
        · rw [if_pos hdc]; exact hF (by simpa using hdc)
        · rw [if_neg hdc]; exact hT (by simpa using hdc)
      · obtain ⟨d, hd, hdc⟩ : ∃ d, d ∈ A ∧ d ∉ cs := by
          refine Classical.byContradiction fun hno => ?_
          have : A.length ≤ cs.length := nodup_le abc_nodup fun d hd => Classical.byContradiction fun hc => hno ⟨d, hd, hc⟩
          have e26 := abc_len
          omega
        have hne : d ∈ A.filter (fun d => decide (d ∉ cs)) := List.mem_filter.mpr ⟨hd, by simpa using hdc⟩
        cases hf : A.filter (fun d => decide (d ∉ cs)) with
        | nil => rw [hf] at hne; cases hne
        | cons e es =>
          have he : e ∈ A.filter (fun d => decide (d ∉ cs)) := by rw [hf]; simp
          have he := List.mem_filter.mp he
          simp
          refine ⟨_, by rw [show (0 : Int) = ((0 : Nat) : Int) from rfl]; exact atI_nat' rfl, rfl, by omega, ?_⟩
          exact fin e he.1 (by simpa using he.2) _ (by simp)
    · rw [if_neg hcs]
      refine ⟨by omega, ?_⟩
      exact fin c hcm hcs _ (by simp)
  · rintro env m ⟨cs, x3, x4, rfl, hl, hnd, hsub, hm1, hm2⟩
    refine hn1 _ _ ?_
    simp at hl hm2
    simp
    refine .inl ⟨cs.map fun c => [c], by simp, by simp; omega, fun ts hp hs => ?_⟩
    obtain ⟨ds, rfl, hd⟩ := perm_ones hp
    rw [List.map_map] at hs
    have hs := sorted_lt (cs := ds) hs (hd.nodup_iff.mpr hnd)
    refine join_ones (cs := ds) (by rw [hd.length_eq]; omega) ?_
    refine ⟨rfl, ?_⟩
    refine h ds m ⟨by rw [hd.length_eq, hl], low_iff.mpr fun c hc => abc_low c (hsub c (hd.mem_iff.mp hc)), hs⟩ hm1 (by simp only [DRW] at *; omega)
theorem ones_of {P : Nat → Prop} : ∀ {ys : List D}, (∀ y ∈ ys, ∃ c : Nat, y = .str [c] ∧ P c) → ∃ cs : List Nat, ys = (cs.map fun c => [c]).map D.str ∧ ∀ c ∈ cs, P c
  | [], _ => ⟨[], rfl, fun _ h => nomatch h⟩
  | y :: ys, h => by
    obtain ⟨r, rfl, hr⟩ := h y (List.mem_cons_self ..)
    obtain ⟨rs, rfl, hrs⟩ := ones_of (fun y hy => h y (List.mem_cons_of_mem _ hy))
    refine ⟨r :: rs, rfl, fun x hx => ?_⟩
    rcases List.mem_cons.mp hx with rfl | hx
    · exact hr
    · exact hrs x hx
end DL
namespace DL
open PySem L2 PyProof.Rows
/-- single signs drawn out of some -/
theorem draw_ones {s : List Nat} {a1 a2 a4 a5 a6 a7 a8 : Option D} {k n : Nat} {lo : Int} {Q : List D → Nat → Prop} (hs : s ≠ []) (hsl : s.length ≤ 1000) (hB : n + DRW * k ≤ LIM) (hQ : ∀ (cs : List Nat) m, (∀ c ∈ cs, c ∈ s) → cs.length = k → n ≤ m → m ≤ n + DRW * k → Q ((cs.map fun c => [c]).map D.str) m) :
    goD (gN 8) tYesD (fCall 2 F_one_of [] (aCons (fVar 0) (aCons (fVar 3) aNil))) [some dice, a1, a2, some (.lst (s.map fun c => .str [c])), a4, a5, a6, a7, a8] (ups lo k) n Q := by
  rw [ups_eq]
  refine goD_draws DRW (fun y => ∃ c : Nat, y = .str [c] ∧ c ∈ s) LIM (by simpa using hB) (fun a ha m K hm hK => ?_) fun ys m h1 h2 hys hyl => ?_
  · simp [stepD]
    refine ⟨_, rfl, by simpa using hs, by simp; omega, hm, fun x m5 hx hx1 hx2 => ?_⟩
    obtain ⟨c, hc, rfl⟩ := List.mem_map.mp hx
    exact hK _ _ hx1 hx2 ⟨c, rfl, hc⟩
  · obtain ⟨cs, rfl, hcs⟩ := ones_of hys
    simp at hyl h2
    exact hQ cs m hcs hyl h1 h2
theorem rep_mem {s w : List Nat} {k : Nat} (h : ∀ c ∈ w, c ∈ s) : ∀ c ∈ (List.replicate k w).flatten, c ∈ s := fun c hc => by
  obtain ⟨l, hl, hc⟩ := List.mem_flatten.mp hc
  rw [(List.mem_replicate.mp hl).2] at hc
  exact h c hc
theorem rep_len {w : List Nat} {k : Nat} : (List.replicate k w).flatten.length = k * w.length := by simp
def F__law_text : FC := fun ds n Q => ∃ (s : List Nat) (g most : Nat), ds = [dice, .tup [.str s, .int g], .int most] ∧ s ≠ [] ∧ s.length ≤ 26 ∧ 1 ≤ g ∧ g ≤ 100 ∧ most ≤ 100000 ∧ n + DRW * 100000000 ≤ LIM ∧
  ∀ (t : List Nat) m, (∀ c ∈ t, c ∈ s) → t.length ≤ most → n ≤ m → m ≤ n + DRW * 100000000 → Q (.val (.str t)) m
theorem law__law_text : ∀ ds n Q, F__law_text ds n Q → ds.length = 3 → cm__law_text F_draw F_one_of { nx := fun _ m => Q (.val .non) m, rt := fun _ => Q } (startE 6 ds) n := by
  rintro ds n Q ⟨s, g, most, rfl, hs, hsl, hg1, hg2, hm, hn, h⟩ _
  simp only [DRW, LIM] at *
  unfold cm__law_text
  refine sSeq_of fun next0 hn0 => ?_
  simp
  refine ⟨_, by rw [show (0 : Int) = ((0 : Nat) : Int) from rfl]; exact atI_nat' rfl, ?_⟩
  simp
  refine hn0 _ _ ?_
  refine sSeq_of fun next1 hn1 => ?_
  simp
  refine ⟨(most : Int) + 1, rfl, by omega, ?_, by simp only [DRW, LIM]; omega, fun size0 m1 hz1 hz2 hm1 hm2 => ?_⟩
  · have h3 : ((most : Int) + 1).natAbs < 2 ^ 30 := by omega
    have := (Nat.log2_lt (by omega)).mpr h3
    omega
  obtain ⟨size, rfl⟩ : ∃ size : Nat, size0 = size := ⟨size0.toNat, by omega⟩
  simp only [DRW] at hm2
  simp
  refine hn1 _ _ ?_
  refine sSeq_of fun next2 hn2 => ?_
  unfold sWhile
  refine ⟨fun k env j => ∃ (found : List Nat) (x6 x7 : Option Sl), env = [some (.val dice), some (.val (.tup [.str s, .int g])), some (.val (.int most)), some (.val (.lst (s.map fun c => .str [c]))), some (.val (.str found)), some (.val (.int size)), x6, x7, none] ∧ k = size - found.length ∧ (∀ c ∈ found, c ∈ s) ∧ n ≤ j ∧ j + 80000 * k ≤ n + 400 + 80000 * size, ⟨size, [], none, none, rfl, by simp, fun _ h => (nomatch h), by omega, by omega⟩, ?_⟩
  rintro k env j ⟨found, x6, x7, rfl, rfl, hf, hj1, hj2⟩
  by_cases hlt : found.length < size
  · simp [hlt]
    refine sSeq_of fun next3 hn3 => ?_
    simp
    refine ⟨4, rfl, by decide, by decide, by simp only [DRW, LIM]; omega, fun way m3 hw1 hw2 hm3 hm4 => ?_⟩
    simp only [DRW] at hm4
    simp
    refine hn3 _ _ ?_
    have fin : ∀ (w : List Nat) (j2 : Nat), (∀ c ∈ w, c ∈ s) → 1 ≤ w.length → j ≤ j2 → j2 ≤ j + 400 * 200 → ∃ k' < size - found.length, k' = size - (found.length + w.length) ∧ (∀ c, c ∈ found ∨ c ∈ w → c ∈ s) ∧ n ≤ j2 ∧ j2 + 80000 * k' ≤ n + 400 + 80000 * size := by
      intro w j2 hw hw1 hj3 hj4
      refine ⟨_, by omega, rfl, fun c hc => ?_, by omega, by omega⟩
      rcases hc with hc | hc
      · exact hf c hc
      · exact hw c hc
    by_cases hw0 : way = 0
    · simp [hw0]
      refine sSeq_of fun next4 hn4 => ?_
      simp
      refine ⟨_, by rw [show (1 : Int) = ((1 : Nat) : Int) from rfl]; exact atI_nat' rfl, ?_⟩
      refine ⟨g, rfl, by omega, ?_, by simp only [DRW, LIM]; omega, fun q m4 hq1 hq2 hm5 hm6 => ?_⟩
      · have h3 : ((g : Int)).natAbs < 2 ^ 30 := by omega
        have := (Nat.log2_lt (by omega)).mpr h3
        omega
      simp only [DRW] at hm6
      simp
      refine ⟨⟨by omega, by omega⟩, ?_⟩
      refine draw_ones hs (by omega) (by simp only [DRW, LIM]; omega) fun cs m5 hcs hcl hm7 hm8 => ?_
      simp only [DRW] at hm8
      refine join_ones (cs := cs) (by omega) ?_
      refine hn4 _ _ ?_
      simp
      refine ⟨4, rfl, by decide, by decide, by simp only [DRW, LIM]; omega, fun t m6 ht1 ht2 hm9 hm10 => ?_⟩
      simp only [DRW] at hm10
      have hl : sizeLine = 16777216 := PySem.sizeLine_eq
      have e2 : (1 + t).toNat * cs.length ≤ 4 * 101 := Nat.mul_le_mul (by omega) (by omega)
      have e3 : cs.length * (1 + t).toNat = (1 + t).toNat * cs.length := Nat.mul_comm _ _
      have := fin (List.replicate (1 + t).toNat cs).flatten m6 (rep_mem hcs) (by rw [rep_len]; exact Nat.mul_pos (by omega) (by omega)) (by omega) (by omega)
      rw [rep_len] at this
      simp
      refine ⟨⟨by omega, by omega, by omega⟩, by omega, ?_⟩
      simpa using this
    · by_cases hw1 : way = 1
      · simp [hw0, hw1]
        obtain ⟨c0, cs, rfl⟩ : ∃ c0 cs, s = c0 :: cs := by
          cases s with
          | nil => exact absurd rfl hs
          | cons a b => exact ⟨a, b, rfl⟩
        refine ⟨_, by rw [show (0 : Int) = ((0 : Nat) : Int) from rfl]; exact atI_nat' rfl, ?_⟩
        refine ⟨3, rfl, by decide, by decide, by simp only [DRW, LIM]; omega, fun t m6 ht1 ht2 hm9 hm10 => ?_⟩
        simp only [DRW] at hm10
        have hl : sizeLine = 16777216 := PySem.sizeLine_eq
        simp
        refine ⟨⟨by omega, by omega, by omega⟩, by omega, ?_⟩
        refine ⟨_, by omega, rfl, fun c hc => ?_, by omega, by omega⟩
        rcases hc with hc | hc
        · simpa using hf c hc
        · exact .inl hc.2
      · simp [hw0, hw1]
        refine ⟨4, rfl, by decide, by decide, by simp only [DRW, LIM]; omega, fun q m4 hq1 hq2 hm5 hm6 => ?_⟩
        simp only [DRW] at hm6
        simp
        refine ⟨⟨by omega, by omega⟩, ?_⟩
        refine draw_ones hs (by omega) (by simp only [DRW, LIM]; omega) fun cs m5 hcs hcl hm7 hm8 => ?_
        simp only [DRW] at hm8
        refine join_ones (cs := cs) (by omega) ?_
        simp
        refine ⟨by omega, fin cs m5 hcs (by omega) (by omega) (by omega)⟩
  · simp [hlt]
    refine hn2 _ _ ?_
    simp
    have e : cutL found none (some (size : Int)) = found.take size := by
      unfold cutL
      have : HT.sIx found.length found.length (some (size : Int)) = min size found.length := HT.sIx_nat _ _ _
      rw [this]
      show (found.drop 0).take (min size found.length - 0) = _
      rw [List.drop_zero, Nat.sub_zero, Nat.min_eq_left (by omega)]
    rw [e]
    refine h _ _ (fun c hc => hf c (List.mem_of_mem_take hc)) (by rw [List.length_take]; omega) hj1 (by omega)
end DL
namespace DL
open PySem L2 PyProof.Rows
/-- sizes of grounds: signs, gap, how many orders -/
def GL : List (Nat × Nat × Nat) := [(2, 2, 2), (3, 2, 6), (2, 3, 12), (4, 2, 12), (5, 2, 20), (2, 4, 54), (3, 3, 72)]
structure Gnd (most : Int) (s : List Nat) (g : Nat) : Prop where
  let_ : Letters s.length s
  sz : ∃ q ∈ GL, q.1 = s.length ∧ q.2.1 = g ∧ (q.2.2 : Int) ≤ most
theorem Gnd.two {most : Int} {s : List Nat} {g : Nat} (h : Gnd most s g) : 2 ≤ s.length ∧ s.length ≤ 5 ∧ 2 ≤ g ∧ g ≤ 4 := by
  obtain ⟨q, hq, h1, h2, _⟩ := h.sz
  rw [← h1, ← h2]
  have : ∀ q ∈ GL, 2 ≤ q.1 ∧ q.1 ≤ 5 ∧ 2 ≤ q.2.1 ∧ q.2.1 ≤ 4 := by decide
  exact this q hq
end DL
namespace DL
open PySem L2
theorem cutL_nat {α : Type} (s : List α) (a b : Nat) : cutL s (some (a : Int)) (some (b : Int)) = (s.drop (min a s.length)).take (min b s.length - min a s.length) := by
  unfold cutL
  rw [HT.sIx_nat, HT.sIx_nat]
theorem cutL_in {α : Type} (s : List α) {a b : Nat} (h1 : a ≤ s.length) (h2 : b ≤ s.length) : cutL s (some (a : Int)) (some (b : Int)) = (s.drop a).take (b - a) := by
  rw [cutL_nat, Nat.min_eq_left h1, Nat.min_eq_left h2]
abbrev I (ps : List Nat) : List D := ps.map fun p : Nat => D.int p
theorem all_bl {α : Type} (f : α → Bool) (xs : List α) : xs.map (fun x => D.bl (f x)) = (xs.map f).map D.bl := by rw [List.map_map]; rfl
theorem plains_I {k : Nat} : ∀ ps : List Nat, plains k (I ps) = true
  | [] => by simp
  | p :: ps => by simp [plains_I ps]
theorem plains_S {k : Nat} : ∀ ws : List (List Nat), plains k (ws.map D.str) = true
  | [] => by simp
  | p :: ps => by simp [plains_S ps]
theorem exact_same {k n : Nat} {x : D} {Q : Sl → Nat → Prop} (hp : plain k x = true) (h : Q (.val (.bl true)) n) : F_exact k [x, x] n Q := ⟨x, x, rfl, hp, hp, by simpa using h⟩
theorem forD_inv0 {tg : SG} {body : FS} {E : DEnds} (I : List D → SEnv → Nat → Prop) {xs : List D}
    (H : ∀ (pre : List D) (a : D) (post : List D) (env : SEnv) (n : Nat) (next : SEnv → Nat → Prop), xs = pre ++ a :: post → I pre env n → (∀ e m, I (pre ++ [a]) e m → next e m) → tg a env fun env' => body { nx := next, ct := next, bk := E.nx, rt := E.rt } env' n)
    (hE : ∀ env n, I xs env n → E.nx env n) {env : SEnv} {n : Nat} (h0 : I [] env n) : forD tg body E xs env n := by
  have := forD_inv (c := id) I H hE h0
  rwa [List.map_id] at this
theorem up_I (zs : List Nat) : zs.map (fun i : Nat => D.int (1 + (i : Int))) = I (zs.map fun i => 1 + i) := by
  show _ = (zs.map fun i => 1 + i).map (fun p : Nat => D.int (p : Int))
  rw [List.map_map]
  refine List.map_congr_left fun i _ => ?_
  show D.int (1 + (i : Int)) = D.int ((1 + i : Nat) : Int)
  congr 1
theorem cutL_take {α : Type} (s : List α) (k : Nat) : cutL s none (some (k : Int)) = s.take k := by
  unfold cutL
  have : HT.sIx s.length s.length (some (k : Int)) = min k s.length := HT.sIx_nat _ _ _
  rw [this]
  show (s.drop 0).take (min k s.length - 0) = _
  rw [List.drop_zero, Nat.sub_zero]
  by_cases h : k ≤ s.length
  · rw [Nat.min_eq_left h]
  · rw [Nat.min_eq_right (by omega), List.take_of_length_le (Nat.le_refl _), List.take_of_length_le (by omega)]
theorem cutL_drop {α : Type} (s : List α) (k : Nat) : cutL s (some (k : Int)) none = s.drop k := by
  unfold cutL
  have : HT.sIx s.length 0 (some (k : Int)) = min k s.length := HT.sIx_nat _ _ _
  rw [this]
  show (s.drop (min k s.length)).take (s.length - min k s.length) = _
  by_cases h : k ≤ s.length
  · rw [Nat.min_eq_left h, List.take_of_length_le (by simp)]
  · rw [Nat.min_eq_right (by omega), List.drop_of_length_le (Nat.le_refl _), List.drop_of_length_le (by omega)]; simp
end DL
namespace DL
open PySem L2
theorem log_small {many : Int} (h1 : 1 ≤ many) (h2 : many < 1073741824) : many.natAbs.log2 < 9000 := by
  have h3 : many.natAbs < 2 ^ 30 := by omega
  have := (Nat.log2_lt (by omega)).mpr h3
  omega
theorem draw_of {many : Int} {n : Nat} {K : Sl → Nat → Prop} (h1 : 1 ≤ many) (h2 : many < 1073741824) (hn : n + 400 ≤ 1000000000000000000) (h : ∀ (r m : Nat), (r : Int) < many → n ≤ m → m ≤ n + 400 → K (.val (.int r)) m) : F_draw [dice, .int many] n K :=
  ⟨many, rfl, h1, log_small h1 h2, by simp only [DRW, LIM]; omega, fun r m hr1 hr2 hm1 hm2 => by
    obtain ⟨k, rfl⟩ := Int.eq_ofNat_of_zero_le hr1
    exact h k m hr2 hm1 (by simpa only [DRW] using hm2)⟩
theorem text_of {s : List Nat} {g most n : Nat} {K : Sl → Nat → Prop} (hs0 : s ≠ []) (hs : s.length ≤ 26) (hl : low s = true) (g1 : 1 ≤ g) (g2 : g ≤ 100) (hm : most ≤ 100000) (hn : n + 40000000000 ≤ 1000000000000000000)
    (h : ∀ t m, low t = true → (∀ c ∈ t, c ∈ s) → t.length ≤ most → n ≤ m → m ≤ n + 40000000000 → K (.val (.str t)) m) : F__law_text [dice, .tup [.str s, .int (g : Nat)], .int (most : Nat)] n K :=
  ⟨s, g, most, rfl, hs0, hs, g1, g2, hm, by simp only [DRW, LIM]; omega, fun t m ht hl' h3 h4 => h t m (low_iff.mpr fun c hc => low_iff.mp hl c (ht c hc)) ht hl' h3 (by simpa only [DRW] using h4)⟩
/-- the loop over the dice of a law -/
theorem dices_inv {tg : SG} {body : FS} {E : DEnds} {k c : Nat} {env : SEnv} (sh : SEnv → Prop) (hk : k ≤ 60) (hc : c * 60 ≤ 1000000000000000000)
    (H : ∀ (env : SEnv) (n : Nat) (next : SEnv → Nat → Prop), sh env → n + c ≤ 1000000000000000000 → (∀ e m, sh e → m ≤ n + c → next e m) → tg dice env fun env' => body { nx := next, ct := next, bk := E.nx, rt := E.rt } env' n)
    (hE : ∀ env n, sh env → n ≤ c * k → E.nx env n) (h0 : sh env) : forD tg body E (List.replicate k dice) env 0 := by
  refine forD_inv0 (fun pre env m => sh env ∧ m ≤ pre.length * c) ?_ (fun env n h => hE env n h.1 (by have := h.2; simp at this; rw [Nat.mul_comm]; exact this)) ⟨h0, by simp⟩
  rintro pre a post env m next hx ⟨hs, hm⟩ hn
  have ha : a = dice := by
    have : a ∈ List.replicate k dice := by rw [hx]; simp
    exact (List.mem_replicate.mp this).2
  subst ha
  have hlen := congrArg List.length hx
  simp at hlen
  have h1 : (pre.length + 1) * c ≤ 60 * c := Nat.mul_le_mul_right c (by omega)
  rw [Nat.succ_mul] at h1
  refine H env m next hs (by rw [Nat.mul_comm 60 c] at h1; omega) fun e m' hs' hm' => hn e m' ⟨hs', ?_⟩
  rw [List.length_append, Nat.add_mul]
  simp
  omega
@[simp] theorem atI_0 {α : Type} (x : α) (xs : List α) : atI (x :: xs) 0 = some x := by
  rw [show (0 : Int) = ((0 : Nat) : Int) from rfl]; exact atI_nat' rfl
@[simp] theorem atI_1 {α : Type} (x y : α) (xs : List α) : atI (x :: y :: xs) 1 = some y := by
  rw [show (1 : Int) = ((1 : Nat) : Int) from rfl]; exact atI_nat' rfl
@[simp] theorem atI_2 {α : Type} (x y z : α) (xs : List α) : atI (x :: y :: z :: xs) 2 = some z := by
  rw [show (2 : Int) = ((2 : Nat) : Int) from rfl]; exact atI_nat' rfl
@[simp] theorem atI_3 {α : Type} (x y z w : α) (xs : List α) : atI (x :: y :: z :: w :: xs) 3 = some w := by
  rw [show (3 : Int) = ((3 : Nat) : Int) from rfl]; exact atI_nat' rfl
theorem cutL_take1 {α : Type} (s : List α) : cutL s none (some 1) = s.take 1 := cutL_take s 1
theorem cutL_mid {α : Type} (s : List α) (a o : Nat) (h : a + o ≤ s.length) : cutL s (some (a : Int)) (some ((a : Int) + (o : Int))) = (s.drop a).take o := by
  rw [show (a : Int) + (o : Int) = ((a + o : Nat) : Int) from by omega, cutL_in s (by omega) h]
  congr 1
  omega
theorem atI_D {s : List Nat} {i : Nat} (h : i < s.length) : atI s (i : Int) = some (s.getD i 0) := by
  refine atI_nat' ?_
  rw [List.getElem?_eq_getElem h, List.getD_eq_getElem?_getD, List.getElem?_eq_getElem h]
  rfl
end DL
namespace DL
open PySem L2
def isPer (s : List Nat) (p : Nat) : Bool := decide (p < s.length) && (s.drop p == s.take (s.length - p))
def upto (n : Nat) : List Nat := (List.range (n - 1)).map fun i => 1 + i
theorem mem_upto {n p : Nat} : p ∈ upto n ↔ 1 ≤ p ∧ p < n := by
  unfold upto
  rw [List.mem_map]
  refine ⟨fun ⟨i, hi, e⟩ => ?_, fun h => ⟨p - 1, List.mem_range.mpr (by omega), by omega⟩⟩
  have := List.mem_range.mp hi
  omega
theorem ups_upto' (n : Nat) : ups 1 (n - 1) = I (upto n) := by
  rw [ups_eq]
  exact up_I _
def F_has : FC := fun ds n Q => ∃ (s : List Nat) (p : Nat), ds = [.str s, .int p] ∧ s.length ≤ 1000000 ∧ Q (.val (.bl (isPer s p))) n
theorem law_has : ∀ ds n Q, F_has ds n Q → ds.length = 2 → cm_has { nx := fun _ m => Q (.val .non) m, rt := fun _ => Q } (startE 0 ds) n := by
  rintro ds n Q ⟨s, p, rfl, hz, h⟩ _
  unfold isPer at h
  simp [cm_has]
  by_cases hp : p < s.length
  · simp [hp] at h ⊢
    have e : (s.length : Int) - (p : Int) = ((s.length - p : Nat) : Int) := by omega
    rw [e, cutL_take, cutL_drop]
    exact h
  · simp [hp] at h ⊢
    exact h
end DL
namespace DL
open PySem L2
theorem per_all {s : List Nat} {p : Nat} (hp : p < s.length) : isPer s p = true ↔ ∀ i < s.length - p, s.getD i 0 = s.getD (i + p) 0 := by
  unfold isPer
  simp only [hp, decide_true, Bool.true_and, beq_iff_eq]
  refine ⟨fun e i hi => ?_, fun h => ?_⟩
  · have := congrArg (fun l : List Nat => l.getD i 0) e
    simp only [List.getD_eq_getElem?_getD, List.getElem?_drop, List.getElem?_take] at this
    rw [if_pos hi] at this
    rw [List.getD_eq_getElem?_getD, List.getD_eq_getElem?_getD, Nat.add_comm i p]
    exact this.symm
  · refine List.ext_getElem (by simp) fun i h1 h2 => ?_
    have hi : i < s.length - p := by simpa using h1
    have := h i hi
    rw [List.getD_eq_getElem?_getD, List.getD_eq_getElem?_getD, List.getElem?_eq_getElem (by omega), List.getElem?_eq_getElem (by omega)] at this
    simp only [Option.getD_some] at this
    rw [List.getElem_drop, List.getElem_take, this]
    congr 1
    omega
theorem per_iff {s : List Nat} {p : Nat} : isPer s p = true ↔ p < s.length ∧ ∀ i, i + p < s.length → s.getD i 0 = s.getD (i + p) 0 := by
  constructor
  · intro h
    have hp : p < s.length := by
      unfold isPer at h
      simp only [Bool.and_eq_true, decide_eq_true_eq] at h
      exact h.1
    exact ⟨hp, fun i hi => (per_all hp).mp h i (by omega)⟩
  · intro ⟨hp, h⟩
    exact (per_all hp).mpr fun i hi => h i (by omega)
theorem ext_getD {xs ys : List Nat} (hl : xs.length = ys.length) (h : ∀ i, i < xs.length → xs.getD i 0 = ys.getD i 0) : xs = ys := by
  refine List.ext_getElem hl fun i h1 h2 => ?_
  have := h i h1
  rw [List.getD_eq_getElem?_getD, List.getD_eq_getElem?_getD, List.getElem?_eq_getElem h1, List.getElem?_eq_getElem h2] at this
  simpa using this
end DL
namespace DL
open PySem PySem.Spec PyProof.Rows L2
/-- a ground -/
abbrev gnd (s : List Nat) (g : Nat) : D := .box 1 [.str s, .int (g : Nat)]
def gf (s : List Nat) (g : Nat) (kn : Addr) : List (Str × V) := putF "known" (.ref kn) (putF "span" (.int (2 * (g : Int) - 2)) (putF "least" (.int g) (putF "row" (.str ⟨s.toArray⟩) [])))
theorem nm_ne : ¬ (("row" : Str) = "least") ∧ ¬ (("row" : Str) = "span") ∧ ¬ (("row" : Str) = "known") ∧ ¬ (("least" : Str) = "span") ∧ ¬ (("least" : Str) = "known") ∧ ¬ (("span" : Str) = "known") := by decide +kernel
theorem gf_row (s : List Nat) (g : Nat) (kn : Addr) : (gf s g kn).lookup ("row" : Str) = some (V.str ⟨s.toArray⟩) := by
  unfold gf
  rw [lookup_putF, if_neg nm_ne.2.2.1, lookup_putF, if_neg nm_ne.2.1, lookup_putF, if_neg nm_ne.1, lookup_putF, if_pos rfl]
theorem gf_least (s : List Nat) (g : Nat) (kn : Addr) : (gf s g kn).lookup ("least" : Str) = some (V.int g) := by
  unfold gf
  rw [lookup_putF, if_neg nm_ne.2.2.2.2.1, lookup_putF, if_neg nm_ne.2.2.2.1, lookup_putF, if_pos rfl]
/-- a kit with nothing of its own, for what the invariants say -/
def kitN (K : PySem.W.Frag) : Kit := ⟨K, fun _ => none, fun _ _ _ _ => False, fun _ => none, fun _ _ _ _ _ _ _ _ h => h.elim, fun _ _ _ _ h => h.elim⟩
/-- what may be noted of a ground: by names, what each one tells -/
abbrev CV := List Nat → Nat → Key → Option D
def GrdJ (C : Addr) (s : List Nat) (g : Nat) (P : Wd) (o : HO) : Prop := OkS s ∧ ∃ dx kn, o = .ins C dx (gf s g kn) ∧ P.iv kn = some (2, [.str s, .int (g : Nat)])
def KnJ (K : PySem.W.Frag) (cv : CV) (s : List Nat) (g : Nat) (P : Wd) (o : HO) : Prop := ∃ kvs : List (Key × V), o = .dK kvs ∧ (kvs.map (·.1)).Nodup ∧ ∀ k v, valV kvs k = some v → ∃ d, cv s g k = some d ∧ Rep (kitN K) P.fz P.iv v d
def kitG (K : PySem.W.Frag) (C : Addr) (cv : CV) : Kit where
  K := K
  cls := fun _ => none
  J := fun t ps P o => (t = 0 ∧ ps = [] ∧ DiceJ P o) ∨ (∃ s g, t = 1 ∧ ps = [.str s, .int (g : Nat)] ∧ GrdJ C s g P o) ∨ (∃ s g, t = 2 ∧ ps = [.str s, .int (g : Nat)] ∧ KnJ K cv s g P o) ∨ ∃ i j : Int, t = 5 ∧ ps = [.int i, .int j] ∧ o = .rng i j
  mono := fun t ps P P' o hf hi hn h => by
    rcases h with ⟨h1, h2, h3⟩ | ⟨s, g, h1, h2, ho, dx, kn, h3, h4⟩ | ⟨s, g, h1, h2, kvs, h3, h4, h5⟩ | ⟨i, j, h1, h2, h3⟩
    · exact .inl ⟨h1, h2, h3.mono hn⟩
    · exact .inr (.inl ⟨s, g, h1, h2, ho, dx, kn, h3, hi _ _ h4⟩)
    · refine .inr (.inr (.inl ⟨s, g, h1, h2, kvs, h3, h4, fun k v e => ?_⟩))
      obtain ⟨d, q1, q2⟩ := h5 k v e
      exact ⟨d, q1, q2.mono hf hi⟩
    · exact .inr (.inr (.inr ⟨i, j, h1, h2, h3⟩))
  jk := fun t ps P o h => by
    rcases h with ⟨_, _, _, _, _, _, rfl, _⟩ | ⟨s, g, h1, h2, ho, dx, kn, rfl, h4⟩ | ⟨s, g, h1, h2, kvs, rfl, h4, h5⟩ | ⟨i, j, h1, h2, rfl⟩ <;> rfl
/-- the names under which something may be noted -/
def ckeys : List Key := [.inr "own", .inr "near", .inr "rounds"]
/-- a kit whose objects of kind 1 and 2 are grounds and what is noted of them -/
structure HasGnd (κ : Kit) (C : Addr) (cv : CV) : Prop where
  d : HasDice κ
  ck : ∀ s g k d, cv s g k = some d → k ∈ ckeys
  j1 : ∀ s g P o, κ.J 1 [.str s, .int (g : Nat)] P o ↔ GrdJ C s g P o
  j2 : ∀ s g P o, κ.J 2 [.str s, .int (g : Nat)] P o ↔ KnJ κ.K cv s g P o
  rg : ∀ i j P o, κ.J 5 [.int i, .int j] P o ↔ o = .rng i j
theorem kitG_has {K : PySem.W.Frag} {C : Addr} {cv : CV} (hcv : ∀ s g k d, cv s g k = some d → k ∈ ckeys) : HasGnd (kitG K C cv) C cv where
  ck := hcv
  rg := fun i j P o => by
    refine ⟨fun h => ?_, fun h => .inr (.inr (.inr ⟨i, j, rfl, rfl, h⟩))⟩
    rcases h with ⟨h, _⟩ | ⟨s, g, h, _⟩ | ⟨s, g, h, _⟩ | ⟨i', j', _, e, h⟩
    · cases h
    · cases h
    · cases h
    · simp only [List.cons.injEq, D.int.injEq, and_true] at e
      obtain ⟨rfl, rfl⟩ := e
      exact h
  d := fun P o => by
    refine ⟨fun h => ?_, fun h => .inl ⟨rfl, rfl, h⟩⟩
    rcases h with h | ⟨s, g, h, _⟩ | ⟨s, g, h, _⟩ | ⟨i, j, h, _⟩
    · exact h.2.2
    · cases h
    · cases h
    · cases h
  j1 := fun s g P o => by
    refine ⟨fun h => ?_, fun h => .inr (.inl ⟨s, g, rfl, rfl, h⟩)⟩
    rcases h with ⟨h, _⟩ | ⟨s', g', _, e, h⟩ | ⟨s', g', h, _⟩ | ⟨i, j, h, _⟩
    · cases h
    · simp only [List.cons.injEq, D.str.injEq, D.int.injEq, and_true] at e
      obtain ⟨rfl, e⟩ := e
      have : g = g' := by omega
      subst this
      exact h
    · cases h
    · cases h
  j2 := fun s g P o => by
    refine ⟨fun h => ?_, fun h => .inr (.inr (.inl ⟨s, g, rfl, rfl, h⟩))⟩
    rcases h with ⟨h, _⟩ | ⟨s', g', h, _⟩ | ⟨s', g', _, e, h⟩ | ⟨i, j, h, _⟩
    · cases h
    · cases h
    · simp only [List.cons.injEq, D.str.injEq, D.int.injEq, and_true] at e
      obtain ⟨rfl, e⟩ := e
      have : g = g' := by omega
      subst this
      exact h
    · cases h
/-- what the top has left of the class -/
structure GndF (K : PySem.W.Frag) (C : Addr) : Prop where
  cl : Cls K C
  nR : NoAttr K C "row"
  nL : NoAttr K C "least"
  nS : NoAttr K C "span"
  nK : NoAttr K C "known"
  ha : PySem.W.findIn K (.ref C) "__class__" = some (some (.builtin "object.__class__"))
  hn : PySem.W.specialIn K (.builtin "object.__class__") "__get__" = some (some (.builtin "getset_descriptor.__get__"))
  htk : PySem.W.takesIn K (.builtin "object.__class__") = some true
  hm : PySem.W.mroIn K C (.type "object") = some true
  kp : PySem.W.keepIn K (.ref C) = true
  iN : PySem.W.kitOne K (.type "NoneType") (.ref C) = some false
  iB : PySem.W.kitOne K (.type "bool") (.ref C) = some false
  iI : PySem.W.kitOne K (.type "int") (.ref C) = some false
  iS : PySem.W.kitOne K (.type "str") (.ref C) = some false
  iL : PySem.W.kitOne K (.type "list") (.ref C) = some false
  iT : PySem.W.kitOne K (.type "tuple") (.ref C) = some false
  iD : PySem.W.kitOne K (.type "dict") (.ref C) = some false
section
variable {κ : Kit} {X : Cx} {C : Addr} {cv : CV} {a b c e : Expr} {es : List Expr} {fa fb f : FE} {far : FA} {pos p p2 : Pos}
/-- the object of a ground -/
theorem HasGnd.at (hG : HasGnd κ C cv) {P : Wd} {G H : Hp} {v : V} {s : List Nat} {g : Nat} (gd : Good κ P G H) (r : Rep κ G P.iv v (gnd s g)) :
    ∃ a dx kn, v = .ref a ∧ OkS s ∧ P.iv a = some (1, [.str s, .int (g : Nat)]) ∧ H a = some (.ins C dx (gf s g kn)) ∧ P.iv kn = some (2, [.str s, .int (g : Nat)]) := by
  cases r with
  | @box a _ _ h =>
    obtain ⟨_, o, q1, q2⟩ := gd.gi a _ h
    obtain ⟨ho, dx, kn, rfl, q3⟩ := (hG.j1 s g P o).mp q2
    exact ⟨a, dx, kn, rfl, ho, h, q1, q3⟩
/-- .row, .least, .span -/
def gRow (d : D) (n : Nat) (Q : D → Nat → Prop) : Prop := ∃ (s : List Nat) (g : Nat), d = gnd s g ∧ Q (.str s) n
def gLeast (d : D) (n : Nat) (Q : D → Nat → Prop) : Prop := ∃ (s : List Nat) (g : Nat), d = gnd s g ∧ Q (.int (g : Nat)) n
def gSpan (d : D) (n : Nat) (Q : D → Nat → Prop) : Prop := ∃ (s : List Nat) (g : Nat), d = gnd s g ∧ Q (.int (2 * (g : Int) - 2)) n
theorem gnd_inj {s t : List Nat} {g k : Nat} (e : gnd s g = gnd t k) : s = t ∧ g = k := by
  simp only [gnd, D.box.injEq, List.cons.injEq, D.str.injEq, D.int.injEq, and_true, true_and] at e
  exact ⟨e.1, by omega⟩
@[simp] theorem w_row {s : List Nat} {g n : Nat} {Q : D → Nat → Prop} : gRow (gnd s g) n Q = Q (.str s) n := by
  refine propext ⟨?_, fun h => ⟨s, g, rfl, h⟩⟩
  rintro ⟨t, k, e, h⟩
  obtain ⟨rfl, rfl⟩ := gnd_inj e
  exact h
@[simp] theorem w_least {s : List Nat} {g n : Nat} {Q : D → Nat → Prop} : gLeast (gnd s g) n Q = Q (.int (g : Nat)) n := by
  refine propext ⟨?_, fun h => ⟨s, g, rfl, h⟩⟩
  rintro ⟨t, k, e, h⟩
  obtain ⟨rfl, rfl⟩ := gnd_inj e
  exact h
@[simp] theorem w_span {s : List Nat} {g n : Nat} {Q : D → Nat → Prop} : gSpan (gnd s g) n Q = Q (.int (2 * (g : Int) - 2)) n := by
  refine propext ⟨?_, fun h => ⟨s, g, rfl, h⟩⟩
  rintro ⟨t, k, e, h⟩
  obtain ⟨rfl, rfl⟩ := gnd_inj e
  exact h
theorem e_row (hG : HasGnd κ C cv) (hF : GndF X.K C) (ha : DE κ X a fa) (hb : attributeBase a "row" X.env (eval a X.env) = eval a X.env := by rfl) : DE κ X (.Attribute a "row" pos) (f1 gRow fa) := by
  obtain ⟨t, pt, q⟩ := ha
  refine ⟨_, pe_fld pt hb, fun P G H σ env Q R g ev hf hR => q P G H σ env _ _ g ev hf fun v P1 G1 H1 d gr g1 r hq => ?_⟩
  obtain ⟨s, k, rfl, hq⟩ := hq
  obtain ⟨a, dx, kn, rfl, ho, h1, h2, h3⟩ := hG.at g1 r
  exact ⟨a, C, dx, _, _, rfl, h2, hF.cl, hF.nR, gf_row _ _ _, hR _ P1 G1 H1 _ gr g1 (.str ho) hq⟩
theorem e_least (hG : HasGnd κ C cv) (hF : GndF X.K C) (ha : DE κ X a fa) (hb : attributeBase a "least" X.env (eval a X.env) = eval a X.env := by rfl) : DE κ X (.Attribute a "least" pos) (f1 gLeast fa) := by
  obtain ⟨t, pt, q⟩ := ha
  refine ⟨_, pe_fld pt hb, fun P G H σ env Q R g ev hf hR => q P G H σ env _ _ g ev hf fun v P1 G1 H1 d gr g1 r hq => ?_⟩
  obtain ⟨s, k, rfl, hq⟩ := hq
  obtain ⟨a, dx, kn, rfl, ho, h1, h2, h3⟩ := hG.at g1 r
  exact ⟨a, C, dx, _, _, rfl, h2, hF.cl, hF.nL, gf_least _ _ _, hR _ P1 G1 H1 _ gr g1 .int hq⟩
def gIsG (d : D) (n : Nat) (Q : D → Nat → Prop) : Prop := (∃ (s : List Nat) (g : Nat), d = gnd s g ∧ Q (.bl true) n) ∨ ((∃ T, tyNm d = some T) ∧ hasTy d = true ∧ Q (.bl false) n)
@[simp] theorem w_isG1 {s : List Nat} {g n : Nat} {Q : D → Nat → Prop} : gIsG (gnd s g) n Q = Q (.bl true) n := by
  refine propext ⟨?_, fun h => .inl ⟨s, g, rfl, h⟩⟩
  rintro (⟨t, k, e, h⟩ | ⟨_, h, _⟩)
  · exact h
  · cases h
theorem e_isG (hG : HasGnd κ C cv) (hF : GndF X.K C) (hm : X.mg "isinstance" = none) (hC : X.mg "Ground" = some (.ref C)) (ha : DE κ X a fa) (hg : Gl X "isinstance" := by rfl) (hgT : Gl X "Ground" := by rfl)
    (he : starEach [a, .Name "Ground" p2] X.env = (false, eval a X.env) :: starEach [.Name "Ground" p2] X.env := by rfl) (he2 : starEach [.Name "Ground" p2] X.env = (false, eval (.Name "Ground" p2) X.env) :: starEach [] X.env := by rfl) (hpl : (backTo pos (starEach [.Name "Ground" p2] X.env)).any (·.1) = false := by rfl) :
    DE κ X (.Call (.Name "isinstance" p) [a, .Name "Ground" p2] [] pos) (f1 gIsG fa) := by
  obtain ⟨t, pa, q⟩ := ha
  have hT : PE X (.Name "Ground" p2) (tC (.ref C)) := pe_glob hgT hC rfl
  refine ⟨_, pe_callB call_isi hg hm boot_isinstance (pa_cons pa (pa_cons hT pa_nil he2) he) (by decide) (by decide) he hpl, fun P G H σ env Q R g ev hf hR => q P G H σ env _ _ g ev hf fun v P' G' H' d gr g' r hq => ?_⟩
  rcases hq with ⟨s, k, rfl, hq⟩ | ⟨⟨T, hT⟩, hty, hq⟩
  · obtain ⟨a, dx, kn, rfl, ho, h1, h2, h3⟩ := hG.at g' r
    refine ⟨.ref a, .ref C, .ref C, .ref C, true, rfl, .own C, .base (.ins h2 hF.cl hF.ha hF.hn hF.htk hF.hm), ?_, hR _ P' G' H' _ gr g' .bl hq⟩
    unfold PySem.W.kitOne
    rw [if_pos (by simp)]
  · refine ⟨v, .ref C, .type T, .ref C, false, rfl, .own C, rep_tyx g'.gh r hT, ?_, hR _ P' G' H' _ gr g' .bl hq⟩
    cases d <;> simp only [tyNm, Option.some.injEq, reduceCtorEq] at hT <;> subst hT
    · exact hF.iN
    · exact hF.iB
    · exact hF.iI
    · exact hF.iS
    · exact hF.iL
    · exact hF.iT
    · exact hF.iD
end
end DL
namespace DL
open PySem PySem.Spec PyProof.Rows L2
/-- what may be a ground's: signs and a gap -/
structure OkG (s : List Nat) (g : Nat) : Prop where
  ok : OkS s
  low : ∀ c ∈ s, 97 ≤ c ∧ c ≤ 122
  two : 2 ≤ s.length
  inc : s.Pairwise (· < ·)
  gap : 2 ≤ g
/-- the promise of __init__ -/
def spInitG (κ : Kit) (C : Addr) : Sp := fun vs H Q _ => ∃ (P : Wd) (G H1 : Hp) (x dx : Addr) (s : List Nat) (g : Nat), vs = [.ref x, .str ⟨s.toArray⟩, .int (g : Nat)] ∧ H = upd (upd H1 dx (.own x)) x (.ins C dx []) ∧ Good κ P G H1 ∧ H1 x = none ∧ H1 dx = none ∧ dx ≠ x ∧ OkG s g ∧
  ∀ (P' : Wd) (G' H' : Hp) (kn : Addr), Grow P G H1 P' G' H' → Good κ P' G' H' → H' x = some (.ins C dx (gf s g kn)) → H' kn = some (.dK []) → G' x = none → G' kn = none → P'.iv x = none → P'.iv kn = none → H1 kn = none → kn ≠ x → P'.n = P.n → Q .non H'
section
variable {κ : Kit} {X : Cx} {C : Addr} {cv : CV} {a b c e : Expr} {es : List Expr} {fa fb f : FE} {far : FA} {pos p p2 : Pos} {ft1 ft2 : FT} {e1 e2 : Expr} {r1 r2 : List Stmt}
/-- the body of __init__ -/
theorem init_ps {p1 q1 q2 q3 q4 q5 q6 q7 a1 a2 a3 a4 b1 b2 b3 b4 bb c1 c2 c3 dd : Pos} {j1 j2 : _} (hF : GndF X.K C) (hK : κ.K = X.K) (h1 : DT κ X e1 ft1) (h2 : DT κ X e2 ft2) (hN : X.N = (["self", "signs", "gap"] : List Str))
    (hv0 : Vis X.env.scope "self") (hv1 : Vis X.env.scope "signs") (hv2 : Vis X.env.scope "gap")
    (f1 : ∀ s g, OkG s g → ∀ n, ft1 [none, some (.str s), some (.int (g : Nat))] n fun b m => b = false ∧ m = n)
    (f2 : ∀ s g, OkG s g → ∀ n, ft2 [none, some (.str s), some (.int (g : Nat))] n fun b m => b = false ∧ m = n)
    (hs1 : swapsWith (.Name "signs" q1) (some (.Attribute (.Name "self" q2) "row" a1)) b1.line X.env = pure false := by rfl)
    (hs2 : swapsWith (.Name "gap" q3) (some (.Attribute (.Name "self" q4) "least" a2)) b2.line X.env = pure false := by rfl)
    (hs3 : swapsWith (.BinOp (.BinOp (.Constant (.int 2) j1 c1) .Mult (.Name "gap" q5) c2) .Sub (.Constant (.int 2) j2 c3) bb) (some (.Attribute (.Name "self" q6) "span" a3)) b3.line X.env = pure false := by rfl)
    (hs4 : swapsWith (.Dict [] [] dd) (some (.Attribute (.Name "self" q7) "known" a4)) b4.line X.env = pure false := by rfl) :
    ∃ t, PSs X [.If e1 r1 [] p1, .If e2 r2 [] p2, .Assign [.Attribute (.Name "self" q2) "row" a1] (.Name "signs" q1) b1, .Assign [.Attribute (.Name "self" q4) "least" a2] (.Name "gap" q3) b2,
      .Assign [.Attribute (.Name "self" q6) "span" a3] (.BinOp (.BinOp (.Constant (.int 2) j1 c1) .Mult (.Name "gap" q5) c2) .Sub (.Constant (.int 2) j2 c3) bb) b3, .Assign [.Attribute (.Name "self" q7) "known" a4] (.Dict [] [] dd) b4] t ∧
      ∀ vs H Q E, spInitG κ C vs H Q E → t { nx := fun _ H' => Q .non H', rt := Q } (start X.N vs) H := by
  obtain ⟨t1, pt1, qt1⟩ := h1
  obtain ⟨t2, pt2, qt2⟩ := h2
  have v0 : ∀ q, PE X (.Name "self" q) (tVar 0) := fun q => pe_var (by rw [hN]; rfl) hv0
  have v1 : ∀ q, PE X (.Name "signs" q) (tVar 1) := fun q => pe_var (by rw [hN]; rfl) hv1
  have v2 : ∀ q, PE X (.Name "gap" q) (tVar 2) := fun q => pe_var (by rw [hN]; rfl) hv2
  refine ⟨_, pss_cons (ps_if pt1 pss_never pss_nil) (pss_cons (ps_if pt2 pss_never pss_nil) (pss_cons (ps_fld (v0 q2) (v1 q1) hs1) (pss_cons (ps_fld (v0 q4) (v2 q3) hs2)
    (pss_cons (ps_fld (v0 q6) (pe_op op_sub (pe_op op_mulA pe_int (v2 q5)) pe_int) hs3) (pss_one (ps_fld (v0 q7) pe_dnewK hs4)))))), fun vs H Q E hsp => ?_⟩
  obtain ⟨P, G, H1, x, dx, s, g, rfl, rfl, gd, hx, hdx, hne, ok, hQ⟩ := hsp
  rw [hN]
  have hst : start (["self", "signs", "gap"] : List Str) [.ref x, .str ⟨s.toArray⟩, .int (g : Nat)] = [some (V.ref x), some (.str ⟨s.toArray⟩), some (.int (g : Nat))] := rfl
  rw [hst]
  have hx1 : (upd H1 dx (.own x)) x = none := by rw [upd_ne hne.symm]; exact hx
  have gd1 : Good κ P G (upd H1 dx (.own x)) := gd.new hdx
  have gd2 : Good κ P G (upd (upd H1 dx (.own x)) x (.ins C dx [])) := gd1.new hx1
  have gr2 : Grow P G H1 P G (upd (upd H1 dx (.own x)) x (.ins C dx [])) := (Grow.new hdx).trans (Grow.new hx1)
  have ev : EnvR κ G P.iv [some (V.ref x), some (.str ⟨s.toArray⟩), some (.int (g : Nat))] [none, some (.str s), some (.int (g : Nat))] := by
    refine ⟨rfl, fun i d h => ?_⟩
    match i, h with
    | 0, h => simp at h
    | 1, h => simp at h; subst h; exact ⟨_, rfl, .str ok.ok⟩
    | 2, h => simp at h; subst h; exact ⟨_, rfl, .int⟩
    | k + 3, h => simp at h
  refine qt1 P G _ _ _ _ _ gd2 ev (f1 s g ok P.n) fun b P3 G3 H3 gr3 gd3 hb => ?_
  obtain ⟨hb, hn3⟩ := hb
  subst hb
  refine qt2 P3 G3 H3 _ _ _ _ gd3 (ev.grow gr3) (f2 s g ok P3.n) fun b P4 G4 H4 gr4 gd4 hb => ?_
  obtain ⟨hb, hn4⟩ := hb
  subst hb
  have gr := (gr2.trans gr3).trans gr4
  have hix : P.iv x = none := gd.inone hx
  have h3x : H3 x = some (.ins C dx []) := gr3.h x _ upd_same hix
  have hi3 : P3.iv x = none := by rw [(gr3.fresh x _ upd_same).1]; exact hix
  have h4x : H4 x = some (.ins C dx []) := gr4.h x _ h3x hi3
  have hi4 : P4.iv x = none := by rw [(gr4.fresh x _ h3x).1]; exact hi3
  have hg4 : G4 x = none := by
    rw [gr4.same h3x, gr3.same (upd_same (H := _))]
    exact gd.gnone hx
  refine ⟨_, rfl, _, rfl, x, C, dx, [], rfl, h4x, hF.cl, hF.nR, by decide, ?_⟩
  refine ⟨_, rfl, _, rfl, x, C, dx, _, rfl, upd_same, hF.cl, hF.nL, by show 1 < 1000; decide, ?_⟩
  refine ⟨_, rfl, _, _, rfl, rfl, .inl (.inl (by decide)), _, _, rfl, rfl, _, rfl, x, C, dx, _, rfl, upd_same, hF.cl, hF.nS, ?_, ?_⟩
  · show (putF "least" _ (putF "row" _ [])).length < 1000
    have : ∀ (f : Str) (v : V) (fs : List (Str × V)), (putF f v fs).length ≤ fs.length + 1 := fun f v fs => by
      induction fs with
      | nil => simp [putF]
      | cons q fs ih =>
        obtain ⟨k, w⟩ := q
        unfold putF
        split
        · simp
        · simp; exact ih
    have a1 := this "least" (V.int (g : Nat)) (putF "row" (.str ⟨s.toArray⟩) [])
    have a2 := this "row" (V.str ⟨s.toArray⟩) []
    simp at a2
    omega
  intro kn hkn
  have hkx : kn ≠ x := fun e => by subst e; rw [upd_same] at hkn; cases hkn
  have hk4 : H4 kn = none := by rw [upd_ne hkx, upd_ne hkx, upd_ne hkx] at hkn; exact hkn
  have hlen : ∀ (f : Str) (v : V) (fs : List (Str × V)), (putF f v fs).length ≤ fs.length + 1 := fun f v fs => by
    induction fs with
    | nil => simp [putF]
    | cons q fs ih =>
      obtain ⟨k, w⟩ := q
      unfold putF
      split
      · simp
      · simp; exact ih
  have hH1 : H1 kn = none := gr.back hk4
  refine ⟨_, rfl, x, C, dx, _, rfl, Eq.trans (upd_ne hkx.symm) upd_same, hF.cl, hF.nK, ?_, ?_⟩
  · have a1 := hlen "span" (V.int (2 * (g : Int) - 2)) (putF "least" (V.int (g : Nat)) (putF "row" (.str ⟨s.toArray⟩) []))
    have a2 := hlen "least" (V.int (g : Nat)) (putF "row" (.str ⟨s.toArray⟩) [])
    have a3 := hlen "row" (V.str ⟨s.toArray⟩) []
    simp at a3
    exact Nat.lt_of_le_of_lt a1 (by omega)
  · have g5 := ((gd4.put (o := .ins C dx (putF "row" (.str ⟨s.toArray⟩) [])) hg4 hi4).put (o := .ins C dx (putF "least" (.int (g : Nat)) (putF "row" (.str ⟨s.toArray⟩) []))) hg4 hi4).put (o := .ins C dx (putF "span" (.int (2 * (g : Int) - 2)) (putF "least" (.int (g : Nat)) (putF "row" (.str ⟨s.toArray⟩) [])))) hg4 hi4
    have g6 := (g5.new (o := .dK []) hkn).put (o := .ins C dx (gf s g kn)) hg4 hi4
    have gw := ((((gr.put (o := .ins C dx (putF "row" (.str ⟨s.toArray⟩) [])) hx).put (o := .ins C dx (putF "least" (.int (g : Nat)) (putF "row" (.str ⟨s.toArray⟩) []))) hx).put (o := .ins C dx (putF "span" (.int (2 * (g : Int) - 2)) (putF "least" (.int (g : Nat)) (putF "row" (.str ⟨s.toArray⟩) [])))) hx).put (o := .dK []) hH1).put (o := .ins C dx (gf s g kn)) hx
    refine hQ P4 G4 _ kn gw g6 upd_same (by rw [upd_ne hkx]; exact upd_same) hg4 (gd4.gnone hk4) hi4 (gd4.inone hk4) hH1 hkx (hn4.trans hn3)
def gMkG (ds : List D) (n : Nat) (Q : D → Nat → Prop) : Prop := ∃ (s : List Nat) (g : Nat), ds = [.str s, .int (g : Nat)] ∧ OkG s g ∧ Q (gnd s g) n
theorem gMkG_of {s : List Nat} {g n : Nat} {Q : D → Nat → Prop} (h : OkG s g) (hq : Q (gnd s g) n) : gMkG [.str s, .int (g : Nat)] n Q := ⟨s, g, rfl, h, hq⟩
theorem e_mkG {k k' : Nat} {f : Addr} {fd : FuncData} (hG : HasGnd κ C cv) (M : Mk X.K C f) (F : FnOk X.prog X.w X.K X.mg X.base CX0 k f fd ["self", "signs", "gap"] (spInitG κ C)) (hb : Binds X.K fd ["self", "signs", "gap"] []) (hC : X.mg "Ground" = some (.ref C)) (hr : Room k' X.A) (ha : DA κ X (e :: es) far)
    (hk : k + 1 ≤ k' := by first | decide | exact Nat.le_refl _ | omega) (hg : Gl X "Ground" := by rfl) (he : starEach (e :: es) X.env = (false, eval e X.env) :: starEach es X.env := by rfl) (hpl : (backTo pos (starEach es X.env)).any (·.1) = false := by rfl) :
    DE κ X (.Call (.Name "Ground" p) (e :: es) [] pos) (fCl gMkG far) := by
  obtain ⟨t, pt, q⟩ := ha
  refine ⟨_, pe_make (E := E0) M F (hr.mono hk) hg hC hb .nil pass0 pt (by decide) he hpl, fun P G H σ env Q R gd ev hf hR => q P G H σ env _ _ gd ev hf fun vs P1 G1 H1 ds gr gd1 r hq => ?_⟩
  obtain ⟨s, g, rfl, ok, hq⟩ := hq
  intro x dx hx hdx hne
  cases r with
  | cons r r' => cases r' with
    | cons r1 r' =>
      cases r'
      cases r with
      | str hs =>
      cases r1
      refine ⟨P1, G1, H1, x, dx, s, g, rfl, rfl, gd1, hx, hdx, hne, ok, fun P' G' H' kn gr' gd' hx' hkn' gx' gk' ix' ik' hk1 hkx hn' => ⟨rfl, ?_⟩⟩
      have iv' : ∀ b t, P'.iv b = some t → (fun c => if c = x then some (1, [D.str s, .int (g : Nat)]) else if c = kn then some (2, [D.str s, .int (g : Nat)]) else P'.iv c) b = some t := fun b t e => by
        have h1 : b ≠ x := fun z => by subst z; rw [ix'] at e; cases e
        have h2 : b ≠ kn := fun z => by subst z; rw [ik'] at e; cases e
        simp only [if_neg h1, if_neg h2]; exact e
      refine hR (.ref x) { P' with iv := fun c => if c = x then some (1, [D.str s, .int (g : Nat)]) else if c = kn then some (2, [D.str s, .int (g : Nat)]) else P'.iv c } G' H' (gnd s g) (gr.trans ⟨gr'.fz, fun b t e => iv' b t (gr'.iv b t e), gr'.n, gr'.g, gr'.h, gr'.dom, fun b o e => ?_⟩) ⟨gd'.pg, gd'.gh, fun b t e => ?_, fun b t e => iv' b t (gd'.fx b t e)⟩ (.box (by simp)) (by show Q (gnd s g) P'.n; rw [hn']; exact hq)
      · obtain ⟨f1, f2, f3⟩ := gr'.fresh b o e
        have h1 : b ≠ x := fun z => by subst z; rw [hx] at e; cases e
        have h2 : b ≠ kn := fun z => by subst z; rw [hk1] at e; cases e
        exact ⟨by simp only [if_neg h1, if_neg h2]; exact f1, f2, f3⟩
      · by_cases h1 : b = x
        · subst h1
          simp only [if_true, Option.some.injEq] at e
          subst e
          refine ⟨gx', _, hx', (hG.j1 s g _ _).mpr ⟨ok.ok, dx, kn, rfl, ?_⟩⟩
          simp only [if_neg hkx, if_true]
        · by_cases h2 : b = kn
          · subst h2
            simp only [if_neg h1, if_true, Option.some.injEq] at e
            subst e
            exact ⟨gk', _, hkn', (hG.j2 s g _ _).mpr ⟨[], rfl, List.nodup_nil, fun k v e => by simp [valV] at e⟩⟩
          · simp only [if_neg h1, if_neg h2] at e
            obtain ⟨w1, o, w2, w3⟩ := gd'.gi b t e
            exact ⟨w1, o, w2, κ.mono _ _ P' _ o (fun _ _ h => h) iv' (Nat.le_refl _) w3⟩
end
end DL
namespace DL
open PySem PySem.Spec PyProof.Rows L2
theorem sub_len {α : Type} : ∀ {xs ys : List α}, xs.Nodup → (∀ x ∈ xs, x ∈ ys) → xs.length ≤ ys.length
  | [], _, _, _ => Nat.zero_le _
  | x :: xs, ys, hn, hs => by
    obtain ⟨a, b, rfl⟩ := List.append_of_mem (hs x (List.mem_cons_self ..))
    rw [List.nodup_cons] at hn
    have ih := sub_len (xs := xs) (ys := a ++ b) hn.2 fun y hy => by
      have h1 := hs y (List.mem_cons_of_mem _ hy)
      rcases List.mem_append.mp h1 with h1 | h1
      · exact List.mem_append_left _ h1
      · rcases List.mem_cons.mp h1 with rfl | h1
        · exact absurd hy hn.1
        · exact List.mem_append_right _ h1
    simp only [List.length_append, List.length_cons] at ih ⊢
    omega
theorem valV_in {κ' : Type} [DecidableEq κ'] {kvs : List (κ' × V)} {k : κ'} (h : k ∈ kvs.map (·.1)) : ∃ v, valV kvs k = some v := by
  cases e : valV kvs k with
  | some v => exact ⟨v, rfl⟩
  | none => exact absurd h (valV_not e)
section
variable {κ : Kit} {X : Cx} {C : Addr} {cv : CV} {a b c e : Expr} {es : List Expr} {fa fb f : FE} {far fo : FA} {pos p p2 : Pos} {st : Stmt} {s1 : FS}
theorem KnJ.len (hG : HasGnd κ C cv) {s : List Nat} {g : Nat} {P : Wd} {kvs : List (Key × V)} (hn : (kvs.map (·.1)).Nodup) (h : ∀ k v, valV kvs k = some v → ∃ d, cv s g k = some d ∧ Rep (kitN κ.K) P.fz P.iv v d) : kvs.length ≤ 3 := by
  have := sub_len (ys := ckeys) hn fun k hk => by
    obtain ⟨v, hv⟩ := valV_in hk
    obtain ⟨d, hd, _⟩ := h k v hv
    exact hG.ck s g k d hd
  rw [List.length_map] at this
  exact Nat.le_trans this (by decide)
/-- noted under a name, told as a new list -/
@[simp] def sOwn (i : Nat) (key : Str) (cv : CV) (s1 : FS) (fo : FA) : FS := fun D env n => ∃ (s : List Nat) (g : Nat) (W : List (List Nat)), env[i]? = some (some (.val (gnd s g))) ∧ cv s g (.inr key) = some (.lst (W.map DL.D.str)) ∧ (∀ e, D.rt e (.own (W.map DL.D.str)) n) ∧
  s1 { nx := fun e m => e[i]? = some (some (.val (gnd s g))) ∧ fo (hide e) m fun xs k => xs = W.map DL.D.str ∧ (∀ e, D.rt e (.own (W.map DL.D.str)) k), rt := fun _ _ _ => False } env n
end
def spLaw (K : PySem.W.Frag) : Sp := fun vs H Q _ => ∃ (a : Addr) (ns : List Int), vs = [.ref a] ∧ ns.length ≤ 63 ∧ SqL K H a (ns.map V.int) ∧ ∀ H', Q (.bl true) H'
theorem fn_law {κ : Kit} {P : Program} {w : World} {K : PySem.W.Frag} {mg : Str → Option Value} {base : Heap} {k : Nat} {f : Addr} {fd : FuncData} {ps : List Str} (h : FnOk P w K mg base CX0 k f fd ps (spD κ 1 F_law)) (hK : κ.K = K) (hx : ∀ a, κ.fx a = none := by intro _; rfl) : FnOk P w K mg base CX0 k f fd ps (spLaw K) := by
  subst hK
  refine h.imp fun vs H Q E hs => ?_
  obtain ⟨a, ns, rfl, hl, hS, hQ⟩ := hs
  obtain ⟨h1, P0, G, ds, QD, g, r, hf, hv⟩ := law_sp (κ := κ) hl hS hx
  exact ⟨h1, P0, G, ds, QD, g, r, hf, fun v s P' G' H' gr gd rs hq => by
    have := hv v s P' G' H' gr gd rs hq
    rw [this]; exact hQ _⟩
end DL
namespace DL
open PySem L2
/-- is_rising(things), slots 0 things 1 at -/
def cm_is_rising : FS := (sRet (fCl gAll (aCons (fFrz (oComp (iRange2 (aCons (fC (.int 1)) (aCons (fCl gLen (aCons (fVar 0) aNil)) aNil))) (gN 1) tYesD (f2 gLt (f2 gIx (fVar 0) (f2 gSub (fVar 1) (fC (.int 1)))) (f2 gIx (fVar 0) (fVar 1))) [1])) aNil)))
/-- repeats(word, gap), slots 0 word 1 gap 2 period -/
def cm_repeats (F_has : FC) : FS := (sRet (fCl gAny (aCons (fFrz (oComp (iRange2 (aCons (fC (.int 1)) (aCons (fCl gMin (aCons (fVar 1) (aCons (fCl gLen (aCons (fVar 0) aNil)) aNil))) aNil))) (gN 2) tYesD (fCall 2 F_has [] (aCons (fVar 0) (aCons (fVar 2) aNil))) [2])) aNil)))
/-- check_ground(value), slots 0 value -/
def cm_check_ground : FS := (sIf (tNotD (tVal (f1 gIsG (fVar 0)))) sNever sNext)
/-- is_text_of(ground, value), slots 0 ground 1 value 2 sign -/
def cm_is_text_of : FS := (sRet (fAnd (fIsi .str (fVar 1)) (fCl gAll (aCons (fFrz (oComp (iSeqN 1) (gN 2) tYesD (f2 gIn (fVar 2) (f1 gRow (fVar 0))) [2])) aNil))))
/-- _law_repeats(word, gap), slots 0 word 1 gap 2 period -/
def cm__law_repeats : FS := (sRet (fCl gAny (aCons (fFrz (oComp (iRange2 (aCons (fC (.int 1)) (aCons (fCl gMin (aCons (fVar 1) (aCons (fCl gLen (aCons (fVar 0) aNil)) aNil))) aNil))) (gN 2) tYesD (f2 gEq (fSl (fVar 0) (oSo (fVar 2)) oNo) (fSl (fVar 0) oNo (oSo (f2 gSub (fCl gLen (aCons (fVar 0) aNil)) (fVar 2))))) [2])) aNil)))
/-- _law_words_of(signs, size), slots 0 signs 1 size 2 found 3 spin 4 longer 5 word 6 sign -/
def cm__law_words_of : FS := (sSeq (sAsg 2 (fFrz (oLst (aCons (fC (.str [])) aNil)))) (sSeq (sFor (iRange1 (aCons (fVar 1) aNil)) (nN 3) (sSeq (sAsg 4 (fFrz (oLst aNil))) (sSeq (sFor (iSeqN 2) (nN 5) (sAsg 4 (f2 gAdd3 (fVar 4) (fFrz (oComp (iSeq (fFrz (oCl oList (aCons (fVar 0) aNil)))) (gN 6) tYesD (f2 gAdd3 (fVar 5) (fVar 6)) [6]))))) (sAsg 2 (fVar 4))))) (sRet (fVar 2))))
/-- _law_made(ground), slots 0 ground -/
def cm__law_made : FS := (sRet (fCl gMkG (aCons (f2 gIx (fVar 0) (fC (.int 0))) (aCons (f2 gIx (fVar 0) (fC (.int 1))) aNil))))
def cm_init1 (F_is_count : FC) (F_is_rising : FC) (F_is_text : FC) : FT := (tOrD (tNotD (tTru (fCall 1 F_is_text [] (aCons (fVar 1) aNil)))) (tOrD (tVal (f2 gLt (fCl gLen (aCons (fVar 1) aNil)) (fC (.int 2)))) (tNotD (tTru (fCall 1 F_is_rising [] (aCons (fVar 1) aNil))))))
def cm_init2 (F_is_count : FC) (F_is_rising : FC) (F_is_text : FC) : FT := (tOrD (tNotD (tTru (fCall 2 F_is_count [.non] (aCons (fVar 2) aNil)))) (tVal (f2 gLt (fVar 2) (fC (.int 2)))))
end DL
namespace DL
open PySem L2
theorem one_of {xs : List D} {n : Nat} {K : Sl → Nat → Prop} (h0 : xs ≠ []) (h1 : xs.length ≤ 16777216) (hn : n + 400 ≤ 1000000000000000000) (h : ∀ x m, x ∈ xs → n ≤ m → m ≤ n + 400 → K (.val x) m) : F_one_of [dice, .lst xs] n K :=
  ⟨xs, rfl, h0, h1, by simp only [DRW, LIM]; omega, fun x m hx h2 h3 => h x m hx h2 (by simpa only [DRW] using h3)⟩
def wordsOf (S : List Nat) : Nat → List (List Nat)
  | 0 => [[]]
  | k + 1 => (wordsOf S k).flatMap fun w => S.map fun c => w ++ [c]
theorem wordsOf_len (S : List Nat) : ∀ k, (wordsOf S k).length = S.length ^ k
  | 0 => by simp [wordsOf]
  | k + 1 => by
    have hs : ∀ L : List (List Nat), (L.map fun _ => S.length).sum = L.length * S.length := fun L => by
      induction L with
      | nil => simp
      | cons a L ih => rw [List.map_cons, List.sum_cons, ih, List.length_cons, Nat.succ_mul]; omega
    rw [wordsOf, List.length_flatMap]
    simp only [List.length_map]
    rw [hs, wordsOf_len S k, Nat.pow_succ]
theorem wordsOf_mem {S : List Nat} : ∀ {k : Nat} {w : List Nat}, w ∈ wordsOf S k → w.length = k ∧ ∀ c ∈ w, c ∈ S
  | 0, w, h => by simp [wordsOf] at h; subst h; simp
  | k + 1, w, h => by
    rw [wordsOf, List.mem_flatMap] at h
    obtain ⟨u, hu, hw⟩ := h
    obtain ⟨c, hc, rfl⟩ := List.mem_map.mp hw
    have := wordsOf_mem hu
    refine ⟨by simp [this.1], fun d hd => ?_⟩
    rcases List.mem_append.mp hd with hd | hd
    · exact this.2 d hd
    · simp at hd; subst hd; exact hc
theorem wordsOf_le {S : List Nat} {k j : Nat} (h0 : S ≠ []) (h : S.length ^ k ≤ 1000000) (hj : j ≤ k) : (wordsOf S j).length ≤ 1000000 := by
  rw [wordsOf_len]
  exact Nat.le_trans (Nat.pow_le_pow_right (List.length_pos_iff.mpr h0) hj) h
def F_words_of : FC := fun ds n Q => ∃ (S : List Nat) (k : Nat), ds = [.str S, .int k] ∧ S ≠ [] ∧ S.length ^ k ≤ 1000000 ∧ k ≤ 10000 ∧ Q (.val (.lst ((wordsOf S k).map D.str))) n
def F__law_words_of : FC := F_words_of
theorem law__law_words_of : ∀ ds n Q, F__law_words_of ds n Q → ds.length = 2 → cm__law_words_of { nx := fun _ m => Q (.val .non) m, rt := fun _ => Q } (startE 5 ds) n := by
  rintro ds n Q ⟨S, k, rfl, hS0, hS, hk, h⟩ _
  have hb : ∀ j ≤ k, (wordsOf S j).length ≤ 1000000 := fun j hj => wordsOf_le hS0 hS hj
  unfold cm__law_words_of
  refine sSeq_of fun next0 hn0 => ?_
  simp
  refine ⟨by decide, hn0 _ _ ?_⟩
  refine sSeq_of fun next1 hn1 => ?_
  simp
  refine ⟨by omega, ?_⟩
  rw [ups_eq]
  refine forD_inv (fun pre env m => (∃ x3 x4 x5 x6, env = [some (.val (.str S)), some (.val (.int k)), some (.val (.lst ((wordsOf S pre.length).map D.str))), x3, x4, x5, x6]) ∧ m = n) ?_ ?_ ⟨⟨_, _, _, _, rfl⟩, rfl⟩
  · rintro pre a post env m next hx ⟨⟨x3, x4, x5, x6, rfl⟩, rfl⟩ hn
    have hr := range_pre hx
    simp
    refine sSeq_of fun next2 hn2 => ?_
    simp
    refine hn2 _ _ ?_
    refine sSeq_of fun next3 hn3 => ?_
    simp
    refine forD_inv (fun pr env m' => (∃ x5 x6, env = [some (.val (.str S)), some (.val (.int k)), some (.val (.lst ((wordsOf S pre.length).map D.str))), some (.val (.int (a : Nat))), some (.val (.lst ((pr.flatMap fun w => S.map fun c => w ++ [c]).map D.str))), x5, x6]) ∧ m' = m) ?_ ?_ ⟨⟨_, _, rfl⟩, rfl⟩
    · rintro pr w po env m' next4 hx4 ⟨⟨x5, x6, rfl⟩, rfl⟩ hn4
      have hw : w ∈ wordsOf S pre.length := by rw [hx4]; simp
      have hwl := (wordsOf_mem hw).1
      simp
      refine goD_map (fun c : Nat => D.str (w ++ [c])) (fun c hc j K hK => ?_) ?_
      · simp [stepD]
        refine ⟨by omega, hK⟩
      · have hle : (pr.flatMap fun w => S.map fun c => w ++ [c]).length + S.length ≤ (wordsOf S (pre.length + 1)).length := by
          rw [wordsOf, hx4, List.flatMap_append, List.flatMap_cons, List.length_append, List.length_append]
          simp
        have := hb (pre.length + 1) (by omega)
        refine ⟨by simpa using (by simp at hle ⊢; omega), hn4 _ _ ⟨⟨some (.val (.str w)), x6, ?_⟩, rfl⟩⟩
        simp [List.flatMap_append]
    · rintro env m' ⟨⟨x5, x6, rfl⟩, rfl⟩
      refine hn3 _ _ ?_
      simp
      refine hn _ _ ⟨⟨some (.val (.int (a : Nat))), some (.val (.lst ((wordsOf S (pre.length + 1)).map D.str))), x5, x6, ?_⟩, rfl⟩
      rw [List.length_append]
      rfl
  · rintro env m ⟨⟨x3, x4, x5, x6, rfl⟩, rfl⟩
    refine hn1 _ _ ?_
    simpa using h
/-- two fors, nothing drawn -/
theorem go2_map {α β : Type} {c : α → D} {tg tg1 : FG} {it1 : FA} {te : FE} {vs1 : List Nat} {env : DEnv} (r : α → β → D) (ys : List β) : ∀ {xs : List α} {k n : Nat} {Q : List D → Nat → Prop}, k + xs.length * ys.length ≤ 16777216 →
    (∀ a ∈ xs, ∀ (j m : Nat) (K : List D → Nat → Prop), j + ys.length ≤ 16777216 → K (ys.map (r a)) m → tg (c a) env fun env1 => it1 env1 m fun zs n2 => j + zs.length ≤ 16777216 ∧ goD tg1 tYesD te (wipeE env1 vs1) zs n2 K) →
    Q (xs.flatMap fun a => ys.map (r a)) n → go2 tg tYesD it1 tg1 tYesD te vs1 env (xs.map c) k n Q
  | [], k, n, Q, _, _, h => h
  | a :: xs, k, n, Q, hz, H, h => by
    rw [List.length_cons, Nat.succ_mul] at hz
    refine H a (List.mem_cons_self ..) k n (fun zs n3 => go2 tg tYesD it1 tg1 tYesD te vs1 env (xs.map c) (k + zs.length) n3 fun ws n4 => Q (zs ++ ws) n4) (by omega) ?_
    refine go2_map r ys (by rw [List.length_map]; omega) (fun b hb => H b (List.mem_cons_of_mem _ hb)) ?_
    simpa [List.flatMap_cons] using h
end DL
namespace DL
open PySem L2
theorem Letters.okG {s : List Nat} {g : Nat} (h : Letters s.length s) (h2 : 2 ≤ s.length) (hg : 2 ≤ g) : OkG s g := by
  have hl := low_iff.mp h.low
  have hs : sizeLine = 16777216 := PySem.sizeLine_eq
  have hn : s.length ≤ 26 := by
    have := nodup_le (h.inc.imp (fun h => Nat.ne_of_lt h)) fun x hx => show x ∈ ABC from by
      have := hl x hx
      have h3 : ∀ c, c ≤ 122 → 97 ≤ c → c ∈ ABC := by decide
      exact h3 x this.2 this.1
    exact this
  exact ⟨⟨by omega, fun c hc => by have := hl c hc; omega⟩, hl, h2, h.inc, hg⟩
theorem OkG.len {s : List Nat} {g : Nat} (h : OkG s g) : s.length ≤ 26 :=
  nodup_le (h.inc.imp (fun h => Nat.ne_of_lt h)) fun x hx => show x ∈ ABC from by
    have := h.low x hx
    have h3 : ∀ c, c ≤ 122 → 97 ≤ c → c ∈ ABC := by decide
    exact h3 x this.2 this.1
def F_is_rising : FC := fun ds n Q => ∃ s : List Nat, ds = [.str s] ∧ s.Pairwise (· < ·) ∧ s.length ≤ 26 ∧ Q (.val (.bl true)) n
theorem law_is_rising : ∀ ds n Q, F_is_rising ds n Q → ds.length = 1 → cm_is_rising { nx := fun _ m => Q (.val .non) m, rt := fun _ => Q } (startE 1 ds) n := by
  rintro ds n Q ⟨s, rfl, hs, hl, h⟩ _
  simp [cm_is_rising]
  refine ⟨by omega, ?_⟩
  rw [ups_upto']
  refine goD_map (fun p : Nat => D.bl true) (fun p hp m K hK => ?_) ?_
  · have hp2 := mem_upto.mp hp
    simp [stepD]
    have e : (p : Int) - 1 = ((p - 1 : Nat) : Int) := by omega
    rw [e]
    refine ⟨_, atI_D (by omega), _, atI_D (by omega), ?_⟩
    have : s.getD (p - 1) 0 < s.getD p 0 := by
      rw [List.pairwise_iff_getElem] at hs
      have := hs (p - 1) p (by omega) (by omega) (by omega)
      have h1 : p < s.length := by omega
      have h2 : p - 1 < s.length := by omega
      simpa [h1, h2] using this
    rw [decide_eq_true this]
    exact hK
  · refine ⟨(upto s.length).map fun _ => true, by simp, ?_⟩
    have e : ((upto s.length).map fun _ => true).all id = true := by simp
    rw [e]; exact h
theorem law_init1 : ∀ s g, OkG s g → ∀ n, cm_init1 F_is_count F_is_rising F_is_text [none, some (.str s), some (.int (g : Nat))] n fun b m => b = false ∧ m = n := by
  intro s g ok n
  have := ok.two
  have hl := low_iff.mpr ok.low
  simp [cm_init1]
  refine ⟨_, rfl, rfl, ?_⟩
  simp [hl]
  have h2 : ¬ ((s.length : Int) < 2) := by omega
  exact ⟨by omega, s, rfl, ok.inc, ok.len, by simp⟩
theorem law_init2 : ∀ s g, OkG s g → ∀ n, cm_init2 F_is_count F_is_rising F_is_text [none, some (.str s), some (.int (g : Nat))] n fun b m => b = false ∧ m = n := by
  intro s g ok n
  have := ok.gap
  simp [cm_init2]
  refine ⟨_, _, rfl, rfl, .inl rfl, ?_⟩
  simp
  omega
def reps (w : List Nat) (g : Nat) : Bool := (upto (min g w.length)).any (isPer w)
def F_repeats : FC := fun ds n Q => ∃ (w : List Nat) (g : Nat), ds = [.str w, .int g] ∧ w.length ≤ 1000000 ∧ Q (.val (.bl (reps w g))) n
def F__law_repeats : FC := F_repeats
theorem ups_min (g k : Nat) : ups 1 ((min (g : Int) (k : Int)).toNat - 1) = I (upto (min g k)) := by
  rw [← ups_upto']
  congr 2
  omega
theorem law_repeats : ∀ ds n Q, F_repeats ds n Q → ds.length = 2 → cm_repeats F_has { nx := fun _ m => Q (.val .non) m, rt := fun _ => Q } (startE 1 ds) n := by
  rintro ds n Q ⟨w, g, rfl, hl, h⟩ _
  simp [cm_repeats]
  refine ⟨⟨by omega, by omega⟩, ?_⟩
  rw [ups_min]
  refine goD_map (fun p : Nat => D.bl (isPer w p)) (fun p hp m K hK => ?_) ?_
  · simp [stepD]
    exact ⟨w, p, rfl, hl, hK⟩
  · refine ⟨(upto (min g w.length)).map (isPer w), by rw [all_bl], ?_⟩
    simpa [reps, List.any_map] using h
theorem law__law_repeats : ∀ ds n Q, F__law_repeats ds n Q → ds.length = 2 → cm__law_repeats { nx := fun _ m => Q (.val .non) m, rt := fun _ => Q } (startE 1 ds) n := by
  rintro ds n Q ⟨w, g, rfl, hl, h⟩ _
  simp [cm__law_repeats]
  refine ⟨⟨by omega, by omega⟩, ?_⟩
  rw [ups_min]
  refine goD_map (fun p : Nat => D.bl (isPer w p)) (fun p hp m K hK => ?_) ?_
  · have hp2 := mem_upto.mp hp
    simp [stepD]
    have e : (w.length : Int) - (p : Int) = ((w.length - p : Nat) : Int) := by omega
    rw [e, cutL_take, cutL_drop]
    have h3 : p < w.length := by omega
    simpa [isPer, h3] using hK
  · refine ⟨(upto (min g w.length)).map (isPer w), by rw [all_bl], ?_⟩
    simpa [reps, List.any_map] using h
def F_check_ground : FC := fun ds n Q => ∃ s g, ds = [gnd s g] ∧ Q (.val .non) n
theorem law_check_ground : ∀ ds n Q, F_check_ground ds n Q → ds.length = 1 → cm_check_ground { nx := fun _ m => Q (.val .non) m, rt := fun _ => Q } (startE 0 ds) n := by
  rintro ds n Q ⟨s, g, rfl, h⟩ _
  simpa [cm_check_ground] using h
def isTxOf (s : List Nat) : D → Bool
  | .str t => t.all fun c => decide (c ∈ s)
  | _ => false
@[simp] theorem isTxOf_str (s t : List Nat) : isTxOf s (.str t) = t.all fun c => decide (c ∈ s) := rfl
def F_is_text_of : FC := fun ds n Q => ∃ s g d, ds = [gnd s g, d] ∧ hasTy d = true ∧ Q (.val (.bl (isTxOf s d))) n
theorem law_is_text_of : ∀ ds n Q, F_is_text_of ds n Q → ds.length = 2 → cm_is_text_of { nx := fun _ m => Q (.val .non) m, rt := fun _ => Q } (startE 1 ds) n := by
  rintro ds n Q ⟨s, g, d, rfl, hd, h⟩ _
  by_cases ht : ∃ t, d = .str t
  case neg =>
    cases d <;> first | exact absurd ⟨_, rfl⟩ ht | (cases hd; done) | (simp [cm_is_text_of]; simpa [isTxOf] using h)
  obtain ⟨t, rfl⟩ := ht
  simp [cm_is_text_of]
  refine goD_map (fun c : Nat => D.bl (decide (c ∈ s))) (fun c hc m K hK => ?_) ?_
  · simpa [stepD] using hK
  · refine ⟨t.map fun c => decide (c ∈ s), by rw [all_bl], ?_⟩
    simpa [List.all_map, Function.comp_def] using h
def ownW (s : List Nat) (g : Nat) : List (List Nat) := (wordsOf s (2 * g - 2)).filter fun w => !reps w g
def cv0 : CV := fun s g k => if k = .inr "own" then some (.lst ((ownW s g).map D.str)) else none
theorem cv0_keys : ∀ s g k d, cv0 s g k = some d → k ∈ ckeys := by
  intro s g k d h
  unfold cv0 at h
  split at h
  · rename_i e; subst e; simp [ckeys]
  · cases h
/-- few words -/
structure Few (s : List Nat) (g : Nat) : Prop where
  ok : OkG s g
  few : s.length ^ (2 * g - 2) ≤ 1000000
  gap : g ≤ 1000
theorem Few.ne {s : List Nat} {g : Nat} (h : Few s g) : s ≠ [] := fun e => by have := h.ok.two; rw [e] at this; simp at this
def F__law_made : FC := fun ds n Q => ∃ (s : List Nat) (g : Nat), ds = [.tup [.str s, .int g]] ∧ OkG s g ∧ Q (.val (gnd s g)) n
theorem law__law_made : ∀ ds n Q, F__law_made ds n Q → ds.length = 1 → cm__law_made { nx := fun _ m => Q (.val .non) m, rt := fun _ => Q } (startE 0 ds) n := by
  rintro ds n Q ⟨s, g, rfl, hw, h⟩ _
  simp [cm__law_made]
  exact gMkG_of hw h
end DL
namespace DL
open PySem L2
theorem words_in {S : List Nat} : ∀ (k : Nat) (w : List Nat), w.length = k → (∀ c ∈ w, c ∈ S) → w ∈ wordsOf S k
  | 0, w, h, _ => by
    have : w = [] := List.length_eq_zero_iff.mp h
    subst this
    simp [DL.wordsOf]
  | k + 1, w, h, hm => by
    have hne : w ≠ [] := fun e => by rw [e] at h; simp at h
    rw [DL.wordsOf, List.mem_flatMap]
    refine ⟨w.dropLast, words_in k _ (by rw [List.length_dropLast]; omega) fun c hc => hm c (List.dropLast_subset w hc), ?_⟩
    exact List.mem_map.mpr ⟨w.getLast hne, hm _ (List.getLast_mem hne), List.dropLast_concat_getLast hne⟩
theorem Gnd.few {most : Int} {s : List Nat} {g : Nat} (h : Gnd most s g) : Few s g := by
  have h2 := h.two
  refine ⟨h.let_.okG h2.1 h2.2.2.1, ?_, by omega⟩
  have h3 : s.length ^ (2 * g - 2) ≤ 5 ^ (2 * g - 2) := Nat.pow_le_pow_left h2.2.1 _
  have h4 : 5 ^ (2 * g - 2) ≤ 5 ^ 6 := Nat.pow_le_pow_right (by decide) (by omega)
  have h5 : 5 ^ 6 ≤ 1000000 := by decide
  omega
end DL
namespace DL
open PySem PySem.Spec PyProof.Rows L2
section
variable {κ : Kit} {X : Cx} {a b c e : Expr} {es : List Expr} {fa fb f : FE} {far : FA} {pos p p2 : Pos} {G H : Hp} {iv : IV} {σ : L2.St} {env : SEnv} {H0 : Hp} {P : Wd} {te : TE}
/-- x.clear() -/
@[simp] def sClr (i : Nat) : FS := fun D env n => ∃ xs, env[i]? = some (some (.own xs)) ∧ D.nx (env.set i (some (.own []))) n
theorem clr_lift {i : Nat} {tx : TE} {K : PySem.W.Frag} (hx : tx = tVar i) : RdS κ (sClr i) (tDrop (tBM0 K "list" rClear tx)) := fun P0 G0 H0 P G H σ env D E gr g ev hf ok => by
  subst hx
  obtain ⟨xs, h1, hf⟩ := hf
  obtain ⟨u, q1, b, eb, vs, k1, k2, k3, k4, k5, k6⟩ := ev.get i _ h1
  subst eb
  refine ⟨_, q1, tyV_list k1, b, vs, rfl, rfl, k1, ok.nx P G _ σ _ (gr.put k3) (g.put k4 k5) (ev.put h1 q1 (Nat.zero_le _) .nil) hf⟩
theorem d1_clr (i : Nat) {x : Str} {apos cpos : Pos} (hN : X.N[i]? = some x) (hv : Vis X.env.scope x) (hd : (x == ("__debug__" : Str)) = false := by decide) (hcd : (x == ("__classdict__" : Str)) = false := by decide)
    (hbase : attributeBase (.Name x p2) "clear" X.env (eval (.Name x p2) X.env) = eval (.Name x p2) X.env := by rfl) (hline : (apos.endLine == cpos.line) = true := by rfl)
    (hsw : swapsWith (.Call (.Attribute (.Name x p2) "clear" apos) [] [] cpos) none pos.line X.env = pure false := by rfl) :
    D1 κ X (.Expr (.Call (.Attribute (.Name x p2) "clear" apos) [] [] cpos) pos) (sClr i) :=
  ⟨_, ps_expr (pe_bm0 PySem.F.plainAttrs_list PySem.F.slot_list_clear PySem.F.type_list_clear mt_clear (pe_var hN hv hd hcd) hbase hline) hsw, clr_lift rfl⟩
/-- x.extend(e), e a list -/
@[simp] def sExt (i : Nat) (f : FE) : FS := fun D env n => ∃ xs, env[i]? = some (some (.own xs)) ∧ f (hide env) n fun d m => ∃ ys, d = .lst ys ∧ xs.length + ys.length ≤ 16777216 ∧ D.nx (env.set i (some (.own (xs ++ ys)))) m
theorem ext_lift {i : Nat} {tx : TE} {K : PySem.W.Frag} (hx : tx = tVar i) (h : RdE κ f te) : RdS κ (sExt i f) (tDrop (tBM K "list" rExtend tx (tCons te tNil))) := fun P0 G0 H0 P G H σ env D E gr g ev hf ok => by
  subst hx
  obtain ⟨xs, h1, hf⟩ := hf
  obtain ⟨u, q1, b, eb, vs, k1, k2, k3, k4, k5, k6⟩ := ev.get i _ h1
  subst eb
  refine ⟨_, q1, tyV_list k1, ?_⟩
  refine at_hide h g ev hf fun v P' G' H' d gr' g' ev' r q => ?_
  obtain ⟨ys, rfl, hz, q⟩ := q
  obtain ⟨u, q2, b2, eb, vs2, w1, w2, w3, w4, w5, w6⟩ := ev'.get i _ h1
  rw [q1] at q2
  cases q2
  cases eb
  have hl : sizeLine = 16777216 := sizeLine_eq
  cases r with
  | @lst c us _ hb hz2 r =>
    have hs : vs2.length + us.length ≤ sizeLine := by rw [w6.length, r.length, hl]; exact hz
    exact ⟨b, c, vs2, us, rfl, rfl, w1, g'.gx hb rfl, hs, ok.nx P' G' _ σ _ ((gr.trans gr').put w3) (g'.put w4 w5) (ev'.put h1 q1 (by rw [List.length_append]; exact hs) (w6.append r)) q⟩
theorem d1_ext (i : Nat) {x : Str} {apos cpos : Pos} (hN : X.N[i]? = some x) (hv : Vis X.env.scope x) (h : DE κ X e f) (hd : (x == ("__debug__" : Str)) = false := by decide) (hcd : (x == ("__classdict__" : Str)) = false := by decide)
    (hbase : attributeBase (.Name x p2) "extend" X.env (eval (.Name x p2) X.env) = eval (.Name x p2) X.env := by rfl)
    (hfew : ((backTo cpos (starEach [e] X.env)).all (fun x => !x.1) && (backToKw cpos (keywordEach [] X.env)).all (fun x => x.1.isSome) && decide ([e].length + ([] : List Keyword).length + (if ([] : List Keyword).isEmpty then 0 else 1) < 30)) = true := by rfl)
    (hline : (apos.endLine == cpos.line) = true := by rfl) (hs : starEach [e] X.env = (false, eval e X.env) :: starEach [] X.env := by rfl) (hplain : (backTo cpos (starEach [] X.env)).any (·.1) = false := by rfl)
    (hsw : swapsWith (.Call (.Attribute (.Name x p2) "extend" apos) [e] [] cpos) none pos.line X.env = pure false := by rfl) :
    D1 κ X (.Expr (.Call (.Attribute (.Name x p2) "extend" apos) [e] [] cpos) pos) (sExt i f) := by
  obtain ⟨t, p, q⟩ := h
  exact ⟨_, ps_expr (pe_bm PySem.F.plainAttrs_list PySem.F.slot_list_extend PySem.F.type_list_extend mt_extend (pe_var hN hv hd hcd) (pa_cons p pa_nil hs) hbase hfew hline hs hplain) hsw, ext_lift rfl q⟩
/-- x.insert(k, e) -/
@[simp] def sIns (i : Nat) (f1 f : FE) : FS := fun D env n => ∃ xs, env[i]? = some (some (.own xs)) ∧ f1 (view env) n fun d1 m => treeD d1 = true ∧ f (hide env) m fun d m2 => ∃ k : Nat, d1 = .int k ∧ k ≤ 16777216 ∧ xs.length < 16777216 ∧ D.nx (env.set i (some (.own (xs.take k ++ [d] ++ xs.drop k)))) m2
end
end DL
namespace DL
open PySem PySem.Spec PyProof.Rows L2
section
variable {κ : Kit} {X : Cx} {a b c e tg : Expr} {es : List Expr} {fa fb f fk : FE} {far : FA} {t1 : FT} {pos p p2 : Pos}
def goDc (tg : FG) (tt : FT) (tk te : FE) (env : DEnv) : List D → List D → List D → Nat → (D → Nat → Prop) → Prop
  | [], ks, vs, n, Q => Q (.dct ks vs) n
  | x :: xs, ks, vs, n, Q => tg x env fun env' => tt env' n fun b n1 => if b = true then tk env' n1 fun k n2 => isKeyD k = true ∧ te env' n2 fun v n3 => goDc tg tt tk te env xs (putKs ks k) (putVs ks vs k v) n3 Q else goDc tg tt tk te env xs ks vs n1 Q
@[simp] def fDc (it : FA) (tg : FG) (tt : FT) (tk te : FE) (vs : List Nat) : FE := fun env n Q => it env n fun xs n1 => goDc tg tt tk te (wipeE env vs) xs [] [] n1 Q
end
end DL
namespace DL
open PySem PySem.Spec PyProof.Rows L2
/-- pairs put one behind the other -/
def putAll : List (D × D) → List D → List D → List D × List D
  | [], ks, vs => (ks, vs)
  | p :: ps, ks, vs => putAll ps (putKs ks p.1) (putVs ks vs p.1 p.2)
def gDictP (ds : List D) (n : Nat) (Q : D → Nat → Prop) : Prop := ∃ ps : List (D × D), ds = [.lst (ps.map fun p => .tup [p.1, p.2])] ∧ (∀ p ∈ ps, isKeyD p.1 = true) ∧ Q (.dct (putAll ps [] []).1 (putAll ps [] []).2) n
section
variable {κ : Kit} {X : Cx} {a b c e tg : Expr} {es : List Expr} {fa fb f fk : FE} {far : FA} {t1 : FT} {pos p p2 : Pos}
theorem merge_zip {G : Hp} {iv : IV} : ∀ {pd : List (D × D)} {kvs : List (Key × V)}, Paired (fun (kv : Key × V) (q : D × D) => q.1 = keyD kv.1 ∧ OkK kv.1 ∧ Rep κ G iv kv.2 q.2) kvs pd → ∀ {kk : List Key} {us : List V} {ds : List D}, kk.length = us.length → OkKs kk → Reps κ G iv us ds →
    ∃ kk' us' ds', mergeK (kk.zip us) kvs = kk'.zip us' ∧ kk'.length = us'.length ∧ OkKs kk' ∧ Reps κ G iv us' ds' ∧ putAll pd (kk.map keyD) ds = (kk'.map keyD, ds') ∧ kk'.length ≤ kk.length + kvs.length
  | _, _, .nil, kk, us, ds, hl, hok, r => ⟨kk, us, ds, rfl, hl, hok, r, rfl, Nat.le_refl _⟩
  | q :: pd, kv :: kvs, .cons h t, kk, us, ds, hl, hok, r => by
    obtain ⟨h1, h2, h3⟩ := h
    obtain ⟨ks', us', e1, e2, e3, e4⟩ := putK_zip (k := kv.1) (v := kv.2) hl hok.1
    obtain ⟨kk', us2, ds', w1, w2, w3, w4, w5, w6⟩ := merge_zip t (kk := ks') (us := us') (ds := putVs (kk.map keyD) ds (keyD kv.1) q.2) e2 (by rw [e3]; exact hok.put h2) (e4 r h3)
    refine ⟨kk', us2, ds', ?_, w2, w3, w4, ?_, ?_⟩
    · rw [← w1]
      show mergeK (putK (kk.zip us) kv.1 kv.2) kvs = _
      rw [e1]
    · rw [← w5]
      show putAll pd (putKs (kk.map keyD) q.1) (putVs (kk.map keyD) ds q.1 q.2) = _
      rw [h1, e3, ← putKs_map]
    · have : ks'.length ≤ kk.length + 1 := by
        rw [e3]
        split
        · omega
        · rw [List.length_append]; exact Nat.le_refl _
      rw [List.length_cons]
      omega
theorem pairs_reps {P : Wd} {G H : Hp} (g : Good κ P G H) : ∀ {ps : List (D × D)} {vs : List V}, Reps κ G P.iv vs (ps.map fun p => .tup [p.1, p.2]) → (∀ p ∈ ps, isKeyD p.1 = true) →
    ∃ (as : List Addr) (kvs : List (Key × V)), vs = as.map V.ref ∧ Paired (fun p (kv : Key × V) => SqT κ.K H p [kV kv.1, kv.2]) as kvs ∧ Paired (fun (kv : Key × V) (q : D × D) => q.1 = keyD kv.1 ∧ OkK kv.1 ∧ Rep κ G P.iv kv.2 q.2) kvs ps
  | [], _, .nil, _ => ⟨[], [], rfl, .nil, .nil⟩
  | p :: ps, v :: vs, .cons r t, h => by
    obtain ⟨as, kvs, rfl, h1, h2⟩ := pairs_reps g t fun q hq => h q (List.mem_cons_of_mem _ hq)
    cases r with
    | @tup a us _ hb hz r =>
      cases r with
      | cons r1 r => cases r with
        | cons r2 r =>
          cases r
          obtain ⟨k, hk⟩ := key_of (h p (List.mem_cons_self ..))
          rw [hk] at r1
          obtain ⟨rfl, hok⟩ := rep_keyOk r1
          exact ⟨a :: as, (k, _) :: kvs, rfl, .cons (SqT.of (g.gx hb rfl)) h1, .cons ⟨hk, hok, r2⟩ h2⟩
theorem e_dictP (hm : X.mg "dict" = none) (ha : DE κ X e f) (hK : κ.K = X.K) (hc : X.calm = true := by rfl) (hg : Gl X "dict" := by rfl) (he : starEach [e] X.env = (false, eval e X.env) :: starEach [] X.env := by rfl) (hpl : (backTo pos (starEach [] X.env)).any (·.1) = false := by rfl) :
    DE κ X (.Call (.Name "dict" p) [e] [] pos) (fCl gDictP (aCons f aNil)) := by
  refine de_callTy ?_ (call_dictP hc) hg hm (by decide +kernel) (da_one ha he) (by decide) (by decide) he hpl
  intro P G H vs ds Q R g r hf hR
  obtain ⟨ps, rfl, hk, hf⟩ := hf
  obtain ⟨v, rfl, rv⟩ := val1 r
  cases rv with
  | @lst a us _ hb hz r =>
    obtain ⟨as, kvs, rfl, h1, h2⟩ := pairs_reps g r hk
    rw [hK] at h1
    obtain ⟨kk, us2, ds, w1, w2, w3, w4, w5, w6⟩ := merge_zip h2 (kk := []) (us := []) (ds := []) rfl ⟨List.nodup_nil, fun _ h => nomatch h⟩ .nil
    refine ⟨a, as, kvs, rfl, SqL.of (g.gx hb rfl), h1, fun q hq => ?_⟩
    have hl : kvs.length = as.length := (Paired.length h1).symm
    rw [List.length_map] at hz
    simp only [List.length_nil] at w6
    have e5 : putAll ps [] [] = (kk.map keyD, ds) := w5
    rw [e5] at hf
    rw [show mergeK [] kvs = kk.zip us2 from w1]
    exact hR _ P (upd G q (.dK _)) _ _ ((Grow.new hq).frz hq (g.gnone hq)) ((g.new hq).frz (g.gnone hq) (g.inone hq) upd_same) (.dctK upd_same w2 (by omega) w3 (reps_frz (g.gnone hq) w4)) hf
end
end DL
namespace DL
open PySem PySem.Spec PyProof.Rows L2
section
variable {X : Cx}
def rSortedSA (K : PySem.W.Frag) : List V → Hp → VK → Prop := fun vs H Q => ∃ (a : Addr) (xs : List Str), vs = [V.ref a] ∧ SqL K H a (xs.map V.str) ∧
  ∀ (ys : List Str) (p : Addr), ys.Perm xs → sortedS ys = true → H p = none → Q (.ref p) (upd H p (.lst (ys.map V.str)))
theorem cr_sortedSA : CallR X (.builtin "sorted") (rSortedSA X.K) := by
  intro pins s σ H vs us Q I r h
  obtain ⟨a, xs, rfl, hs, q⟩ := h
  obtain ⟨its, rv, hl, hz⟩ := I.list hs
  rw [Vals.ref1 r]
  have hlen0 := rv.length
  refine PyProof.Rows.sorted_strsAny hl.isList rv.strs (by rw [← hlen0]; exact hz) fun out ys h1 h2 h3 => ?_
  obtain ⟨ep, he'⟩ := PyProof.Rows.sortedAll_at s.heap its out
  have hlen : (ys.map V.str).length ≤ sizeLine := by
    rw [List.length_map, h2.length_eq]
    rw [List.length_map] at hz
    exact hz
  exact ⟨.ref _, upd H (s.heap.objs.size + 1) (.lst (ys.map V.str)), I.laid (t' := s.toks) (fun _ _ => PyProof.Rows.sortedAll_old) (Nat.le_succ _) ⟨hlen, out.toList, ep, vals_of_strs h1, he'⟩, rfl, q ys _ h2 h3 (I.hok.fresh (Nat.le_succ _))⟩
end
/-- a pair not behind another -/
def pairLe (p q : Int × Int) : Prop := p.1 < q.1 ∨ p.1 = q.1 ∧ p.2 ≤ q.2
abbrev PP (ps : List (Int × Int)) : List D := ps.map fun p => .tup [.int p.1, .int p.2]
def oSortedA (ds : List D) (n : Nat) (Q : List D → Nat → Prop) : Prop :=
  (∃ ss : List (List Nat), ds = [.lst (ss.map D.str)] ∧ ∀ ts : List (List Nat), ts.Perm ss → sortedS (ts.map fun s => (⟨s.toArray⟩ : Str)) = true → Q (ts.map D.str) n) ∨
  (∃ ns : List Int, ds = [.lst (ns.map D.int)] ∧ ∀ ms : List Int, ms.Perm ns → ms.Pairwise (· ≤ ·) → Q (ms.map D.int) n) ∨
  (∃ ps : List (Int × Int), ds = [.lst (PP ps)] ∧ ∀ qs : List (Int × Int), qs.Perm ps → qs.Pairwise pairLe → Q (PP qs) n)
/-- the pair that stands at a value -/
def pairAt (G : Hp) (v : V) : Int × Int := match v with
  | .ref t => match G t with
    | some (.tup [.int i, .int j]) => (i, j)
    | _ => (0, 0)
  | _ => (0, 0)
section
variable {κ : Kit} {X : Cx} {a b c e tg : Expr} {es : List Expr} {fa fb f fk : FE} {far : FA} {t1 : FT} {pos p p2 : Pos}
theorem pairs_at {P : Wd} {G : Hp} : ∀ {ps : List (Int × Int)} {vs : List V}, Reps κ G P.iv vs (PP ps) → vs.map (pairAt G) = ps ∧ ∀ v ∈ vs, ∃ t, v = V.ref t ∧ G t = some (.tup [.int (pairAt G v).1, .int (pairAt G v).2])
  | [], _, .nil => ⟨rfl, fun _ h => nomatch h⟩
  | p :: ps, v :: vs, .cons r t => by
    obtain ⟨h1, h2⟩ := pairs_at t
    cases r with
    | @tup a us _ hb hz r =>
      cases r with
      | cons r1 r => cases r with
        | cons r2 r =>
          cases r
          cases r1
          cases r2
          have e : pairAt G (V.ref a) = (p.1, p.2) := by simp [pairAt, hb]
          refine ⟨by rw [List.map_cons, h1, e], fun v hv => ?_⟩
          rcases List.mem_cons.mp hv with rfl | hv
          · exact ⟨a, rfl, by rw [e]; exact hb⟩
          · exact h2 v hv
theorem reps_pairs {P : Wd} {G : Hp} : ∀ {vs : List V}, (∀ v ∈ vs, ∃ t, v = V.ref t ∧ G t = some (.tup [.int (pairAt G v).1, .int (pairAt G v).2])) → Reps κ G P.iv vs (PP (vs.map (pairAt G)))
  | [], _ => .nil
  | v :: vs, h => by
    obtain ⟨t, e, ht⟩ := h v (List.mem_cons_self ..)
    refine .cons ?_ (reps_pairs fun u hu => h u (List.mem_cons_of_mem _ hu))
    subst e
    exact .tup ht (by rw [sizeLine_eq]; show 2 ≤ 16777216; decide) (.cons .int (.cons .int .nil))
theorem o_sortedA (hm : X.mg "sorted" = none) (ha : DE κ X e f) (hg : Gl X "sorted" := by rfl) (he : starEach [e] X.env = (false, eval e X.env) :: starEach [] X.env := by rfl) (hpl : (backTo pos (starEach [] X.env)).any (·.1) = false := by rfl) : DO κ X (.Call (.Name "sorted" p) [e] [] pos) (oCl oSortedA (aCons f aNil)) := by
  refine do_callB ?_ (CallR.or cr_sortedSA (CallR.or cr_sortedI cr_sortedPO)) hg hm (by decide +kernel) (da_one ha he) (by decide) (by decide) he hpl
  intro P G H vs ds Q R g r hf hR
  rcases hf with ⟨ss, rfl, hf⟩ | ⟨ns, rfl, hf⟩ | ⟨ps, rfl, hf⟩
  · obtain ⟨v, rfl, rv⟩ := val1 r
    cases rv with
    | @lst a0 us0 _ h z r =>
      have hlen := r.length
      obtain ⟨e1, e2⟩ := r.of_strs
      subst e1
      refine .inl ⟨_, _, rfl, SqL.of (g.gx h rfl), fun ys p hp hs hn => ?_⟩
      obtain ⟨ts, et, ht⟩ : ∃ ts : List (List Nat), ys = ts.map (fun s => (⟨s.toArray⟩ : Str)) ∧ ts.Perm ss := by
        refine ⟨ys.map fun y => y.cps.toList, ?_, ?_⟩
        · rw [List.map_map]
          have : ((fun s : List Nat => (⟨s.toArray⟩ : Str)) ∘ fun y : Str => y.cps.toList) = id := by funext y; cases y; simp
          rw [this, List.map_id]
        · have h1 := hp.map (fun y : Str => y.cps.toList)
          rw [List.map_map] at h1
          have : ((fun y : Str => y.cps.toList) ∘ fun s : List Nat => (⟨s.toArray⟩ : Str)) = id := by funext y; simp
          rw [this, List.map_id] at h1
          exact h1
      subst et
      rw [List.map_map]
      rw [hlen, List.length_map] at z
      exact hR p P G _ _ _ (Grow.new hn) (g.new hn) hn (g.gnone hn) (g.inone hn) upd_same (by rw [List.length_map, ht.length_eq]; exact z) (reps_strs fun s hs' => e2 s (ht.mem_iff.mp hs')) (hf ts ht hs)
  · obtain ⟨v, rfl, rv⟩ := val1 r
    cases rv with
    | @lst a0 us0 _ h z r =>
      have hlen := r.length
      rw [r.of_ints] at h
      rw [hlen, List.length_map] at z
      refine .inr (.inl ⟨_, ns, rfl, SqL.of (g.gx h rfl), fun ms p hp hs hn => ?_⟩)
      exact hR p P G _ _ _ (Grow.new hn) (g.new hn) hn (g.gnone hn) (g.inone hn) upd_same (by rw [List.length_map, hp.length_eq]; exact z) Reps.ints (hf ms hp hs)
  · obtain ⟨v, rfl, rv⟩ := val1 r
    cases rv with
    | @lst a0 us0 _ h z r =>
      obtain ⟨q1, q2⟩ := pairs_at r
      refine .inr (.inr ⟨_, us0, pairAt G, rfl, SqL.of (g.gx h rfl), fun x hx => ?_, fun ys p hs hb hn => ?_⟩)
      · obtain ⟨t, e, ht⟩ := q2 x hx
        exact ⟨t, e, g.gx ht rfl⟩
      · have hper : ys.Perm us0 := hb.perm
        refine hR p P G _ _ _ (Grow.new hn) (g.new hn) hn (g.gnone hn) (g.inone hn) upd_same (by rw [hper.length_eq]; exact z) (reps_pairs fun v hv => q2 v (hper.mem_iff.mp hv)) (hf (ys.map (pairAt G)) ?_ ?_)
        · rw [← q1]; exact hper.map _
        · refine List.pairwise_map.mpr (hs.imp fun {x y} hxy => ?_)
          have := SrtO.lexB_no.mp hxy
          unfold pairLe
          omega
end
end DL
namespace DL
open PySem PySem.Spec PyProof.Rows L2
section
variable {κ : Kit} {X : Cx} {a b c e e1 tg : Expr} {es : List Expr} {fa fb f f1 fk : FE} {far : FA} {t1 : FT} {pos p p2 : Pos} {x : Str}
theorem S_clr (i : Nat) {apos cpos : Pos} (hN : X.N[i]? = some x := by rfl) (hv : Vis X.env.scope x := by first | exact Or.inl rfl | exact Or.inr (Or.inl rfl) | exact Or.inr (Or.inr rfl)) (hd : (x == ("__debug__" : Str)) = false := by decide) (hcd : (x == ("__classdict__" : Str)) = false := by decide)
    (hbase : attributeBase (.Name x p2) "clear" X.env (eval (.Name x p2) X.env) = eval (.Name x p2) X.env := by rfl) (hline : (apos.endLine == cpos.line) = true := by rfl)
    (hsw : swapsWith (.Call (.Attribute (.Name x p2) "clear" apos) [] [] cpos) none pos.line X.env = pure false := by rfl) :
    D1 κ X (.Expr (.Call (.Attribute (.Name x p2) "clear" apos) [] [] cpos) pos) (sClr i) := d1_clr i hN hv hd hcd hbase hline hsw
theorem S_ext (i : Nat) {apos cpos : Pos} (h : DE κ X e f) (hN : X.N[i]? = some x := by rfl) (hv : Vis X.env.scope x := by first | exact Or.inl rfl | exact Or.inr (Or.inl rfl) | exact Or.inr (Or.inr rfl)) (hd : (x == ("__debug__" : Str)) = false := by decide) (hcd : (x == ("__classdict__" : Str)) = false := by decide)
    (hbase : attributeBase (.Name x p2) "extend" X.env (eval (.Name x p2) X.env) = eval (.Name x p2) X.env := by rfl)
    (hfew : ((backTo cpos (starEach [e] X.env)).all (fun x => !x.1) && (backToKw cpos (keywordEach [] X.env)).all (fun x => x.1.isSome) && decide ([e].length + ([] : List Keyword).length + (if ([] : List Keyword).isEmpty then 0 else 1) < 30)) = true := by rfl)
    (hline : (apos.endLine == cpos.line) = true := by rfl) (hs : starEach [e] X.env = (false, eval e X.env) :: starEach [] X.env := by rfl) (hplain : (backTo cpos (starEach [] X.env)).any (·.1) = false := by rfl)
    (hsw : swapsWith (.Call (.Attribute (.Name x p2) "extend" apos) [e] [] cpos) none pos.line X.env = pure false := by rfl) :
    D1 κ X (.Expr (.Call (.Attribute (.Name x p2) "extend" apos) [e] [] cpos) pos) (sExt i f) := d1_ext i hN hv h hd hcd hbase hfew hline hs hplain hsw
theorem E_dictP (hm : X.mg "dict" = none) (ha : DE κ X e f) (hK : κ.K = X.K := by rfl) (hc : X.calm = true := by rfl) (hg : Gl X "dict" := by rfl) (he : starEach [e] X.env = (false, eval e X.env) :: starEach [] X.env := by rfl) (hpl : (backTo pos (starEach [] X.env)).any (·.1) = false := by rfl) :
    DE κ X (.Call (.Name "dict" p) [e] [] pos) (fCl gDictP (aCons f aNil)) := e_dictP hm ha hK hc hg he hpl
end
end DL
namespace DL
open PySem PySem.Spec PyProof.Rows L2
/-- a range held: an object under the invariant of kind 5 -/
abbrev rngD (i j : Int) : D := .box 5 [.int i, .int j]
/-- a kit whose objects of kind 5 are ranges -/
def HasRng (κ : Kit) : Prop := ∀ i j P o, κ.J 5 [.int i, .int j] P o ↔ o = .rng i j
section
variable {κ : Kit} {X : Cx} {a b c e tg : Expr} {es : List Expr} {fa fb f fk : FE} {far : FA} {t1 : FT} {pos p p2 : Pos} {x : Str}
def iRngV (te : TE) : TI := fun σ H R => te σ H fun v H1 => ∃ a i j, v = .ref a ∧ H1 a = some (.rng i j) ∧ (-(2 ^ 62) ≤ i ∧ i < 2 ^ 62 ∧ -(2 ^ 62) ≤ j ∧ j < 2 ^ 62) ∧ R (Itr i (j - i).toNat) H1
theorem pi_rngV {l : Expr} {tl : TE} (hl : PE X l tl) : PI X tg l (iRngV tl) := by
  refine ⟨fun pins s σ H R I h => ?_⟩
  refine thn (hl.run pins s σ H _ I h) fun v s1 ⟨x, H1, I1, r1, q1⟩ => ?_
  obtain ⟨a, i, j, rfl, hH, ⟨h1, h2, h3, h4⟩, q⟩ := q1
  cases r1
  obtain ⟨t, u, w, hob⟩ := I1.hok a _ hH
  refine wpAny_pyIter_range hob (small_one h1 h2 h3 h4) ?_
  refine ⟨s1.heap.objs.size, [s1.heap.objs.size], _, _, H1, rfl, I1.kept (t' := s1.toks) fun b o e => Heap.get?_push_of_some _ e, turn_range _ i (j - i).toNat, ?_, fun b hb => ?_, q⟩
  · have e1 : i + ((0 : Nat) : Int) * 1 = i := by simp
    have e2 : (((j - i).toNat : Nat) : Int) - ((0 : Nat) : Int) = Builtin.Range.rangeSize i j 1 := by rw [rangeSize_one]; split <;> omega
    show IsRangeIter _ _ (i + ((0 : Nat) : Int) * 1) ((((j - i).toNat : Nat) : Int) - ((0 : Nat) : Int)) 1
    rw [e1, e2]
    exact Heap.get?_push_size _ rfl
  · have e : b = s1.heap.objs.size := by simpa using hb
    subst e
    exact I1.fpOk (Nat.le_refl _) (I1.hok.fresh (Nat.le_refl _))
/-- range(i, j), held -/
def gRngV (ds : List D) (n : Nat) (Q : D → Nat → Prop) : Prop := ∃ i j : Int, ds = [.int i, .int j] ∧ Q (rngD i j) n
theorem e_rngV (hR : HasRng κ) (hm : X.mg "range" = none) (ha : DE κ X a fa) (hb : DE κ X b fb) (hg : Gl X "range" := by rfl) (he : starEach [a, b] X.env = (false, eval a X.env) :: starEach [b] X.env := by rfl) (he2 : starEach [b] X.env = (false, eval b X.env) :: starEach [] X.env := by rfl) (hpl : (backTo pos (starEach [b] X.env)).any (·.1) = false := by rfl) :
    DE κ X (.Call (.Name "range" p) [a, b] [] pos) (fCl gRngV (aCons fa (aCons fb aNil))) := by
  refine de_callTy ?_ cr_range2 hg hm (by decide +kernel) (da_cons ha (da_one hb he2) he) (by decide) (by decide) he hpl
  intro P G H vs ds Q R g r hf hR'
  obtain ⟨i, j, rfl, hf⟩ := hf
  cases r with
  | cons r1 r => cases r with
    | cons r2 r =>
      cases r
      cases r1
      cases r2
      refine ⟨i, j, rfl, fun q hq => ?_⟩
      have hiv : P.iv q = none := g.inone hq
      have gn : Grow P G H P G (upd H q (.rng i j)) := Grow.new hq
      have g1 : Good κ P G (upd H q (.rng i j)) := g.new hq
      refine hR' (.ref q) { P with iv := fun c => if c = q then some (5, [.int i, .int j]) else P.iv c } G _ (rngD i j) ⟨gn.fz, fun b t h => ?_, Nat.le_refl _, fun b o h => h, gn.h, gn.dom, fun b o h => ?_⟩ ⟨g1.pg, g1.gh, fun b t h => ?_, fun b t h => by
        have h := g1.fx b t h
        have hb : b ≠ q := fun z => by subst z; rw [hiv] at h; cases h
        simp only [if_neg hb]; exact h⟩ (.box (by simp)) hf
      · have hb : b ≠ q := fun z => by subst z; rw [hiv] at h; cases h
        simp only [if_neg hb]; exact h
      · have hb : b ≠ q := fun z => by subst z; rw [hq] at h; cases h
        exact ⟨by simp only [if_neg hb], .inl rfl, .inl rfl⟩
      · by_cases hb : b = q
        · subst hb
          simp only [if_true, Option.some.injEq] at h
          subst h
          exact ⟨g.gnone hq, _, upd_same, (hR i j _ _).mpr rfl⟩
        · simp only [if_neg hb] at h
          obtain ⟨w1, o, w2, w3⟩ := g.gi b t h
          have iv' : ∀ b t, P.iv b = some t → (fun c => if c = q then some (5, [D.int i, .int j]) else P.iv c) b = some t := fun b t e => by
            have h1 : b ≠ q := fun z => by subst z; rw [hiv] at e; cases e
            simp only [if_neg h1]; exact e
          exact ⟨w1, o, by rw [upd_ne hb]; exact w2, κ.mono _ _ P _ o (fun _ _ h => h) iv' (Nat.le_refl _) w3⟩
/-- a walk over a name that holds a range -/
@[simp] def iRngN (i : Nat) : FA := fun env n Q => ∃ lo hi : Int, env[i]? = some (some (rngD lo hi)) ∧ (hi - lo ≤ 16777216 ∧ -2305843009213693952 < lo ∧ lo < 2305843009213693952 ∧ -2305843009213693952 < hi) ∧ Q (ups lo (hi - lo).toNat) n
theorem di_rngN (hR : HasRng κ) {i : Nat} (hN : X.N[i]? = some x) (hv : Vis X.env.scope x) (hd : (x == ("__debug__" : Str)) = false := by decide) (hcd : (x == ("__classdict__" : Str)) = false := by decide) : DI0 κ X tg (.Name x pos) (iRngN i) := by
  refine ⟨_, pi_rngV (pe_var hN hv hd hcd), fun P G H σ env Q R g ev hf hR' => ?_⟩
  obtain ⟨lo, hi, he, ⟨z1, z2, z3, z4⟩, hq⟩ := hf
  obtain ⟨v, h1, r⟩ := ev.get i _ he
  cases r with
  | @box a _ _ h =>
    obtain ⟨_, o, w2, w3⟩ := g.gi a _ h
    rw [(hR lo hi P o).mp w3] at w2
    have hsz : sizeLine = 16777216 := sizeLine_eq
    refine ⟨_, h1, a, lo, hi, rfl, w2, ⟨by omega, by omega, by omega, by omega⟩, ?_⟩
    exact hR' _ P G H _ .refl g (iter_rng (by omega)) hq
end
end DL
namespace DL
open PySem PySem.Spec PyProof.Rows L2
/-- a if c else b, both new lists -/
@[simp] def oIf (t : FT) (fa fb : FA) : FA := fun env n Q => t env n fun c m => if c = true then fa env m Q else fb env m Q
end DL
namespace DL
open PySem PySem.Spec PyProof.Rows L2 LamX
end DL
namespace DL
open PySem PySem.Spec PyProof.Rows L2 LamX
/-- the keys of some items, one behind the other -/
def keysD (i : Nat) (fk : FE) : List D → DEnv → Nat → (List D → Nat → Prop) → Prop
  | [], _, n, Q => Q [] n
  | x :: xs, env, n, Q => fk (env.set i (some x)) n fun d m => keysD i fk xs env m fun ds k => Q (d :: ds) k
end DL
namespace DL
open PySem PySem.Spec PyProof.Rows L2 LamX
section
variable {κ : Kit} {X : Cx} {pins : List (Addr × Obj)} {σ : L2.St} {H : Hp} {s : Shared} {A : Around} {scope : Scope} {f c' D kS : Addr} {a : Str} {i k e1 : Nat} {env : DEnv} {fk : FE} {params : Arguments} {body : Expr} {pm ctv : Value}
  {P0 : Wd} {G0 H0 : Hp} {itemsV : List V} {items : List Value} {xs : List DL.D} {P : Wd} {G : Hp}
/-- the keys' reading, the items in their order behind it -/
def keyOrd (i : Nat) (fk : FE) (xs : List DL.D) (env : DEnv) (n : Nat) (Q : List DL.D → Nat → Prop) : Prop := keysD i fk xs env n fun ks m => ∃ ps : List (Int × Int), ks = PP ps ∧ ∀ qs : List ((Int × Int) × DL.D), qs.Perm (ps.zip xs) → qs.Pairwise (fun p q => pairLe p.1 q.1) → Q (qs.map (·.2)) m
end
end DL
namespace DL
open PySem PySem.Spec PyProof.Rows L2 LamX
/-- a table of code objects that bear the name q -/
def TabJ (q : Str) (W : Wd) (o : HO) : Prop := ∃ ps : Array Value, o = .tbl ps ∧ TriplesOk ps.toList ∧ ∀ (p : Pos) (cv : Value), codeAmong p ps.toList = some cv → ∃ c, cv = .ref c ∧ W.fz c = some (CodeO c q)
theorem TabJ.mono {q : Str} {W W' : Wd} {o : HO} (h : TabJ q W o) (hf : ∀ a u, W.fz a = some u → W'.fz a = some u) : TabJ q W' o := by
  obtain ⟨ps, h1, h2, h3⟩ := h
  refine ⟨ps, h1, h2, fun p cv e => ?_⟩
  obtain ⟨c, e1, e2⟩ := h3 p cv e
  exact ⟨c, e1, hf _ _ e2⟩
section
variable {κ : Kit} {X : Cx} {pins : List (Addr × Obj)} {σ : L2.St} {H : Hp} {s : Shared} {A : Around} {scope : Scope} {f c' D kS c T : Addr} {a : Str} {i k e1 : Nat} {env : DEnv} {fk fd : FE} {params : Arguments} {body e : Expr} {pm ctv : Value}
  {P0 : Wd} {G0 H0 : Hp} {itemsV : List V} {items : List Value} {xs : List DL.D} {P : Wd} {G : Hp} {v : V} {u : Value} {d : DL.D}
/-- what a walk over it gives at once -/
def itemsD : DL.D → Option (List DL.D)
  | .lst xs => some xs
  | .dct ks _ => some ks
  | _ => none
/-- sorted(e, key=lambda x: (.., ..)) -/
@[simp] def oSortK (i : Nat) (fd fk : FE) : FA := fun env n Q => fd env n fun d m => ∃ xs, itemsD d = some xs ∧ keyOrd i fk xs env m Q
end
end DL
namespace DL
open PySem PySem.Spec PyProof.Rows L2
/-- a walk over a name that holds a range, as gen.py prints it -/
theorem i_rngN {κ : Kit} {X : Cx} {tg : Expr} {pos : Pos} {x : Str} (hR : HasRng κ) (i : Nat) (hN : X.N[i]? = some x := by rfl) (hv : Vis X.env.scope x := by first | exact Or.inl rfl | exact Or.inr (Or.inl rfl) | exact Or.inr (Or.inr rfl)) (hd : (x == ("__debug__" : Str)) = false := by decide) (hcd : (x == ("__classdict__" : Str)) = false := by decide) : DI κ X tg (.Name x pos) (iRngN i) := (di_rngN hR hN hv hd hcd).j
end DL
namespace DL
open PySem PySem.Spec PyProof.Rows L2 LamX
end DL
namespace DL
open PySem L2
/-- sign_at(ground, text, at), slots 0 ground 1 text 2 at -/
def cm_sign_at : FS := (sRet (fIf (tVal (fChain gLe gLt (fC (.int 0)) (fVar 2) (fCl gLen (aCons (fVar 1) aNil)))) (f2 gIx (fVar 1) (fVar 2)) (f2 gIx (f1 gRow (fVar 0)) (fC (.int 0)))))
/-- window_in(ground, text, place), slots 0 ground 1 text 2 place 3 some 4 at -/
def cm_window_in (F_sign_at : FC) : FS := (sSeq (sAsg 3 (fCl gRngV (aCons (f2 gAdd3 (f2 gSub (fVar 2) (f1 gLeast (fVar 0))) (fC (.int 1))) (aCons (f2 gSub (f2 gAdd3 (fVar 2) (f1 gLeast (fVar 0))) (fC (.int 1))) aNil)))) (sRet (fM1 gJoin (fC (.str [])) (fFrz (oComp (iRngN 3) (gN 4) tYesD (fCall 3 F_sign_at [] (aCons (fVar 0) (aCons (fVar 1) (aCons (fVar 4) aNil)))) [4])))))
/-- is_word_of(ground, value), slots 0 ground 1 value -/
def cm_is_word_of (F_is_text_of : FC) (F_is_word : FC) : FS := (sRet (fAnd (fCall 1 F_is_word [] (aCons (fVar 1) aNil)) (fCall 2 F_is_text_of [] (aCons (fVar 0) (aCons (fVar 1) aNil)))))
/-- _law_window(ground, text, place), slots 0 ground 1 text 2 place 3 pad 4 wide 5 at -/
def cm__law_window : FS := (sSeq (sAsg 3 (f2 gMul (f2 gIx (f2 gIx (fVar 0) (fC (.int 0))) (fC (.int 0))) (f2 gMul (fC (.int 3)) (f2 gIx (fVar 0) (fC (.int 1)))))) (sSeq (sPar [4, 5] (xCons (xV (f2 gAdd3 (f2 gAdd3 (fVar 3) (fVar 1)) (fVar 3))) (xCons (xV (f2 gAdd3 (fVar 2) (f2 gMul (fC (.int 3)) (f2 gIx (fVar 0) (fC (.int 1)))))) xNil))) (sRet (fSl (fVar 4) (oSo (f2 gAdd3 (f2 gSub (fVar 5) (f2 gIx (fVar 0) (fC (.int 1)))) (fC (.int 1)))) (oSo (f2 gSub (f2 gAdd3 (fVar 5) (f2 gIx (fVar 0) (fC (.int 1)))) (fC (.int 1))))))))
/-- _law_places(ground, text), slots 0 ground 1 text 2 some 3 place 4 window -/
def cm__law_places (F__law_repeats : FC) (F__law_window : FC) : FS := (sSeq (sAsg 2 (fFrz (oComp (iRange2 (aCons (f2 gSub (fC (.int 2)) (f2 gIx (fVar 0) (fC (.int 1)))) (aCons (f2 gSub (f2 gAdd3 (fCl gLen (aCons (fVar 1) aNil)) (f2 gIx (fVar 0) (fC (.int 1)))) (fC (.int 1))) aNil))) (gN 3) tYesD (fTup (aCons (fVar 3) (aCons (fCall 3 F__law_window [] (aCons (fVar 0) (aCons (fVar 1) (aCons (fVar 3) aNil)))) aNil))) [3]))) (sRet (fCl gDictP (aCons (fFrz (oComp (iSeqN 2) (gT 2 (gsCons (gN 3) (gsCons (gN 4) gsNil))) (tNotD (tTru (fCall 2 F__law_repeats [] (aCons (fVar 4) (aCons (f2 gIx (fVar 0) (fC (.int 1))) aNil))))) (fTup (aCons (fVar 3) (aCons (fVar 4) aNil))) [3, 4])) aNil))))
/-- _law_all_cuts(ground, order, text), slots 0 ground 1 order 2 text 3 places 4 found 5 ranks 6 rank 7 place 8 at 9 window 10 late -/
def cm__law_all_cuts (F__law_places : FC) : FS := (sSeq (sPar [3, 4] (xCons (xV (fCall 2 F__law_places [] (aCons (fVar 0) (aCons (fVar 2) aNil)))) (xCons (xO (oLst aNil)) xNil))) (sSeq (sAsg 5 (fCl gDictP (aCons (fFrz (oComp (iEnumD (aCons (fVar 1) aNil)) (gT 2 (gsCons (gN 8) (gsCons (gN 9) gsNil))) tYesD (fTup (aCons (fVar 9) (aCons (fVar 8) aNil))) [8, 9])) aNil))) (sSeq (sFor (iSeq (fFrz (oCl oSortedA (aCons (fFrz (oComp (iSeqN 3) (gN 7) tYesD (fTup (aCons (f2 gIx (fVar 5) (f2 gIx (fVar 3) (fVar 7))) (aCons (fVar 7) aNil))) [7])) aNil)))) (nT 2 (nsCons (nN 6) (nsCons (nN 7) nsNil))) (sIf (tNotD (tVal (fCl gAny (aCons (fFrz (oComp (iSeqN 4) (gN 10) tYesD (f2 gLt (fCl gAbs (aCons (f2 gSub (fVar 7) (fVar 10)) aNil)) (f2 gIx (fVar 0) (fC (.int 1)))) [10])) aNil)))) (sApp 4 (fVar 7)) sNext)) (sRetOV (oCl oSortedA (aCons (fVar 4) aNil))))))
end DL
namespace DL
open PySem L2
theorem put_new : ∀ {ks vs : List D} {k v : D}, k ∉ ks → ks.length = vs.length → putKs ks k = ks ++ [k] ∧ putVs ks vs k v = vs ++ [v] := by
  intro ks
  induction ks with
  | nil => intro vs k v h hl; cases vs <;> first | exact ⟨rfl, rfl⟩ | cases hl
  | cons a ks ih =>
    intro vs k v h hl
    cases vs with
    | nil => cases hl
    | cons b vs =>
      have h1 : ¬ a = k := fun e => h (by rw [e]; exact List.mem_cons_self ..)
      have h2 := ih (vs := vs) (k := k) (v := v) (fun e => h (List.mem_cons_of_mem _ e)) (by simpa using hl)
      refine ⟨by unfold putKs; rw [if_neg h], ?_⟩
      simp [putVs, h1, h2.2]
theorem dGet_map {α : Type} {kf vf : α → D} : ∀ {xs : List α}, (xs.map kf).Nodup → ∀ {a : α}, a ∈ xs → dGet (xs.map kf) (xs.map vf) (kf a) = some (vf a)
  | [], _, a, h => nomatch h
  | x :: xs, hnd, a, h => by
    simp only [List.map_cons, List.nodup_cons] at hnd
    simp only [List.map_cons, dGet]
    rcases List.mem_cons.mp h with rfl | h
    · rw [if_pos rfl]
    · rw [if_neg (fun e => hnd.1 (by rw [e]; exact List.mem_map.mpr ⟨a, h, rfl⟩)), dGet_map hnd.2 h]
theorem perm_uniq {α : Type} {le : α → α → Prop} (anti : ∀ a b, le a b → le b a → a = b) : ∀ {xs ys : List α}, xs.Perm ys → xs.Pairwise le → ys.Pairwise le → (∀ x ∈ xs, le x x) → xs = ys
  | [], ys, p, _, _, _ => p.nil_eq
  | x :: xs, ys, p, hx, hy, hr => by
    cases ys with
    | nil => exact absurd p.length_eq (by simp)
    | cons y ys =>
      have h1 : x ∈ y :: ys := p.mem_iff.mp (.head _)
      have h2 : y ∈ x :: xs := p.mem_iff.mpr (.head _)
      have e : x = y := by
        rcases List.mem_cons.mp h1 with h | h
        · exact h
        · rcases List.mem_cons.mp h2 with h' | h'
          · exact h'.symm
          · exact anti _ _ ((List.pairwise_cons.mp hx).1 y h') ((List.pairwise_cons.mp hy).1 x h)
      subst e
      rw [perm_uniq anti (List.Perm.cons_inv p) (List.pairwise_cons.mp hx).2 (List.pairwise_cons.mp hy).2 fun z hz => hr z (List.mem_cons_of_mem _ hz)]
def sortI (l : List Int) : List Int := l.mergeSort fun a b => decide (a ≤ b)
theorem sortI_perm (l : List Int) : (sortI l).Perm l := List.mergeSort_perm ..
theorem sortI_sorted (l : List Int) : (sortI l).Pairwise (· ≤ ·) := by
  have := List.pairwise_mergeSort (le := fun a b : Int => decide (a ≤ b)) (fun a b c h1 h2 => by simp at *; omega) (fun a b => by simp; omega) l
  exact this.imp fun h => by simpa using h
theorem sortI_uniq {ms l : List Int} (p : ms.Perm l) (h : ms.Pairwise (· ≤ ·)) : ms = sortI l :=
  perm_uniq (fun a b h1 h2 => by omega) (p.trans (sortI_perm l).symm) h (sortI_sorted l) fun x _ => Int.le_refl x
theorem pairLe_trans {a b c : Int × Int} (h1 : pairLe a b) (h2 : pairLe b c) : pairLe a c := by unfold pairLe at *; omega
theorem pairLe_total (a b : Int × Int) : pairLe a b ∨ pairLe b a := by unfold pairLe; omega
instance (p q : Int × Int) : Decidable (pairLe p q) := by unfold pairLe; infer_instance
def sortP (l : List (Int × Int)) : List (Int × Int) := l.mergeSort fun a b => decide (pairLe a b)
theorem sortP_perm (l : List (Int × Int)) : (sortP l).Perm l := List.mergeSort_perm ..
theorem sortP_sorted (l : List (Int × Int)) : (sortP l).Pairwise pairLe := by
  have := List.pairwise_mergeSort (le := fun a b : Int × Int => decide (pairLe a b)) (fun a b c h1 h2 => decide_eq_true (pairLe_trans (of_decide_eq_true h1) (of_decide_eq_true h2))) (fun a b => by rcases pairLe_total a b with h | h <;> simp [h]) l
  exact this.imp fun h => by simpa using h
theorem sortP_uniq {ms l : List (Int × Int)} (p : ms.Perm l) (h : ms.Pairwise pairLe) : ms = sortP l :=
  perm_uniq (fun a b h1 h2 => by unfold pairLe at *; exact Prod.ext (by omega) (by omega)) (p.trans (sortP_perm l).symm) h (sortP_sorted l) fun x _ => .inr ⟨rfl, Int.le_refl _⟩
end DL
namespace DL
open PySem L2
def grounds : List (Nat × Nat) := [(2, 2), (3, 2), (2, 3), (4, 2), (5, 2), (2, 4), (3, 3), (10, 2), (2, 5), (2, 6), (6, 2), (7, 2), (8, 2), (9, 2)]
theorem grounds_ok : ∀ q ∈ grounds, 2 ≤ q.1 ∧ q.1 ≤ 10 ∧ 2 ≤ q.2 ∧ q.2 ≤ 6 ∧ q.1 ^ (2 * q.2 - 2) ≤ 1000000 := by decide +kernel
/-- a ground that is small enough to be counted -/
structure Small (s : List Nat) (g : Nat) : Prop where
  l : Letters s.length s
  g_ : (s.length, g) ∈ grounds
theorem Small.few {s : List Nat} {g : Nat} (h : Small s g) : Few s g := by
  have := grounds_ok _ h.g_
  simp only at this
  exact ⟨h.l.okG (by omega) (by omega), this.2.2.2.2, by omega⟩
/-- the grounds that the laws draw -/
theorem Gnd.small {most : Int} {s : List Nat} {g : Nat} (h : Gnd most s g) : Small s g := by
  refine ⟨h.let_, ?_⟩
  obtain ⟨q, hq, h1, h2, _⟩ := h.sz
  rw [← h1, ← h2]
  have : ∀ q ∈ GL, (q.1, q.2.1) ∈ grounds := by decide
  exact this q hq
end DL
namespace DL
open PySem L2
def sgAt (s t : List Nat) (i : Int) : Nat := if 0 ≤ i ∧ i < t.length then t.getD i.toNat 0 else s.headD 0
def winAt (s : List Nat) (g : Nat) (t : List Nat) (p : Int) : List Nat := (List.range (2 * g - 2)).map fun k : Nat => sgAt s t (p - g + 1 + k)
def plcs (g : Nat) (t : List Nat) : List Int := (List.range (t.length + 2 * g - 3)).map fun k : Nat => 2 - (g : Int) + k
def ownP (s : List Nat) (g : Nat) (t : List Nat) : List Int := (plcs g t).filter fun p => !reps (winAt s g t p) g
abbrev IZ (ps : List Int) : List D := ps.map D.int
/-- a ground and a text of it, of sizes that are reckoned with -/
structure GT (s : List Nat) (g : Nat) (t : List Nat) : Prop where
  ok : OkG s g
  gap : g ≤ 1000
  tx : ∀ c ∈ t, c ∈ s
  len : t.length ≤ 100000
theorem GT.ne {s t : List Nat} {g : Nat} (h : GT s g t) : s ≠ [] := fun e => by have := h.ok.two; rw [e] at this; simp at this
theorem sgAt_in {s t : List Nat} {i : Int} (h0 : 0 ≤ i) (h1 : i < t.length) : sgAt s t i = t.getD i.toNat 0 := if_pos ⟨h0, h1⟩
theorem sgAt_out {s t : List Nat} {i : Int} (h : i < 0 ∨ t.length ≤ i) : sgAt s t i = s.headD 0 := if_neg (by omega)
theorem sgAt_mem {s t : List Nat} {i : Int} (hs : s ≠ []) (ht : ∀ c ∈ t, c ∈ s) : sgAt s t i ∈ s := by
  by_cases h : 0 ≤ i ∧ i < t.length
  · rw [sgAt_in h.1 h.2]
    refine ht _ ?_
    have : i.toNat < t.length := by omega
    simp [this]
  · rw [sgAt_out (by omega)]
    cases s with
    | nil => exact absurd rfl hs
    | cons a s => simp
theorem winAt_len (s : List Nat) (g : Nat) (t : List Nat) (p : Int) : (winAt s g t p).length = 2 * g - 2 := by simp [winAt]
theorem plcs_nodup (g : Nat) (t : List Nat) : (plcs g t).Nodup := by
  unfold plcs
  rw [List.nodup_iff_pairwise_ne]
  refine List.pairwise_map.mpr ((List.pairwise_lt_range (n := t.length + 2 * g - 3)).imp fun {a b} h => ?_)
  omega
theorem mem_plcs {g : Nat} {t : List Nat} {p : Int} (hg : 2 ≤ g) : p ∈ plcs g t ↔ 2 - (g : Int) ≤ p ∧ p < t.length + g - 1 := by
  unfold plcs
  rw [List.mem_map]
  refine ⟨fun ⟨k, hk, e⟩ => ?_, fun h => ⟨(p - 2 + g).toNat, List.mem_range.mpr (by omega), by omega⟩⟩
  have := List.mem_range.mp hk
  omega
theorem iz_nodup {ps : List Int} (h : ps.Nodup) : (IZ ps).Nodup := by
  rw [List.nodup_iff_pairwise_ne] at h ⊢
  exact List.pairwise_map.mpr (h.imp fun h e => h (by injection e))
theorem str_nodup {ws : List (List Nat)} (h : ws.Nodup) : (ws.map D.str).Nodup := by
  rw [List.nodup_iff_pairwise_ne] at h ⊢
  exact List.pairwise_map.mpr (h.imp fun h e => h (by injection e))
def F_sign_at : FC := fun ds n Q => ∃ s g t, ∃ i : Int, ds = [gnd s g, .str t, .int i] ∧ s ≠ [] ∧ Q (.val (.str [sgAt s t i])) n
theorem law_sign_at : ∀ ds n Q, F_sign_at ds n Q → ds.length = 3 → cm_sign_at { nx := fun _ m => Q (.val .non) m, rt := fun _ => Q } (startE 0 ds) n := by
  rintro ds n Q ⟨s, g, t, i, rfl, hs, h⟩ _
  simp [cm_sign_at]
  by_cases h0 : 0 ≤ i
  · simp [h0]
    by_cases h1 : i < t.length
    · rw [if_pos h1]
      rw [sgAt_in h0 h1] at h
      have hi : i.toNat < t.length := by omega
      refine ⟨_, ?_, h⟩
      have e : i = ((i.toNat : Nat) : Int) := by omega
      rw [e]
      exact atI_D hi
    · rw [if_neg h1]
      rw [sgAt_out (by omega)] at h
      cases s with
      | nil => exact absurd rfl hs
      | cons a s => exact ⟨a, by simp, h⟩
  · simp [h0]
    rw [sgAt_out (by omega)] at h
    cases s with
    | nil => exact absurd rfl hs
    | cons a s => exact ⟨a, by simp, h⟩
def F_window_in : FC := fun ds n Q => ∃ s g t, ∃ p : Int, ds = [gnd s g, .str t, .int p] ∧ s ≠ [] ∧ 2 ≤ g ∧ g ≤ 1000 ∧ -1000000000000 ≤ p ∧ p ≤ 1000000000000 ∧ Q (.val (.str (winAt s g t p))) n
theorem law_window_in : ∀ ds n Q, F_window_in ds n Q → ds.length = 3 → cm_window_in F_sign_at { nx := fun _ m => Q (.val .non) m, rt := fun _ => Q } (startE 2 ds) n := by
  rintro ds n Q ⟨s, g, t, p, rfl, hs, hg, hg2, hp1, hp2, h⟩ _
  unfold cm_window_in
  refine sSeq_of fun next0 hn0 => ?_
  simp
  refine ⟨_, _, rfl, hn0 _ _ ?_⟩
  simp
  refine ⟨_, _, ⟨rfl, rfl⟩, by omega, ?_⟩
  rw [ups_eq]
  have e : (p + (g : Int) - 1 - (p - (g : Int) + 1)).toNat = 2 * g - 2 := by omega
  rw [e]
  refine goD_map (fun k : Nat => D.str [sgAt s t (p - g + 1 + k)]) (fun k hk m K hK => ?_) ?_
  · simp [stepD]
    exact ⟨s, g, t, _, rfl, hs, hK⟩
  · have e2 : (List.range (2 * g - 2)).map (fun k : Nat => D.str [sgAt s t (p - g + 1 + k)]) = ((winAt s g t p).map fun c => [c]).map D.str := by
      simp [winAt, Function.comp_def]
    rw [e2]
    exact join_ones (by rw [winAt_len]; omega) h
theorem enum_ix {ws : List (List Nat)} (hn : ws.Nodup) : enumD 0 (ws.map D.str) = ws.map fun w => D.tup [.int (ws.idxOf w : Nat), .str w] := by
  refine List.ext_getElem? fun i => ?_
  by_cases hi : i < ws.length
  · have h1 : (ws.map D.str)[i]? = some (.str ws[i]) := by rw [List.getElem?_map, List.getElem?_eq_getElem hi]; rfl
    rw [enumD_get 0 _ i _ h1, List.getElem?_map, List.getElem?_eq_getElem hi, Nat.zero_add]
    simp only [Option.map_some]
    rw [hn.idxOf_getElem i hi]
  · rw [List.getElem?_eq_none (by rw [enumD_len, List.length_map]; omega), List.getElem?_eq_none (by rw [List.length_map]; omega)]
end DL
namespace DL
open PySem L2 PyProof.Rows
theorem ltCps_lt : ∀ a b : List Nat, Spec.ltCps a b = decide (a < b)
  | [], [] => by simp [Spec.ltCps]
  | [], _ :: _ => by simp [Spec.ltCps]
  | _ :: _, [] => by simp [Spec.ltCps]
  | x :: a, y :: b => by
    have ih := ltCps_lt a b
    simp only [Spec.ltCps, ih]
    rw [Bool.eq_iff_iff]
    simp [List.cons_lt_cons_iff]
theorem rising_le : ∀ (cs : List (List Nat)) (p : List Nat), risingS ⟨p.toArray⟩ (cs.map fun c => (⟨c.toArray⟩ : Str)) = true → (p :: cs).Pairwise fun a b => ¬ b < a
  | [], p, _ => by simp
  | c :: cs, p, h => by
    rw [List.map_cons] at h
    unfold risingS at h
    simp only [Bool.and_eq_true, Bool.not_eq_true', ltCps_lt, decide_eq_false_iff_not] at h
    have h1 : ¬ c < p := by simpa using h.1
    have ih := rising_le cs c h.2
    refine List.pairwise_cons.mpr ⟨fun z hz => ?_, ih⟩
    rcases List.mem_cons.mp hz with rfl | hz
    · exact h1
    · have := (List.pairwise_cons.mp ih).1 z hz
      exact fun e => this (Std.lt_of_lt_of_le e (Std.not_lt.mp h1))
theorem sortedS_le {ts : List (List Nat)} (h : sortedS (ts.map fun s => (⟨s.toArray⟩ : Str)) = true) : ts.Pairwise fun a b => ¬ b < a := by
  cases ts with
  | nil => exact .nil
  | cons c cs => exact rising_le cs c h
theorem words_inc {S : List Nat} (hS : S.Pairwise (· < ·)) : ∀ k, (wordsOf S k).Pairwise (· < ·)
  | 0 => by simp [wordsOf]
  | k + 1 => by
    rw [wordsOf]
    have app : ∀ (u v : List Nat) (x y : Nat), u.length = v.length → u < v → u ++ [x] < v ++ [y] := by
      intro u
      induction u with
      | nil => intro v x y hl h; cases v with
        | nil => exact absurd h (by simp)
        | cons => cases hl
      | cons a u ih =>
        intro v x y hl h
        cases v with
        | nil => cases hl
        | cons b v =>
          rw [List.cons_append, List.cons_append, List.cons_lt_cons_iff]
          rcases List.cons_lt_cons_iff.mp h with q | ⟨q1, q2⟩
          · exact .inl q
          · exact .inr ⟨q1, ih v x y (by simpa using hl) q2⟩
    have app2 : ∀ (u : List Nat) (x y : Nat), x < y → u ++ [x] < u ++ [y] := by
      intro u x y h
      induction u with
      | nil => exact List.cons_lt_cons_iff.mpr (.inl h)
      | cons a u ih => rw [List.cons_append, List.cons_append]; exact List.cons_lt_cons_iff.mpr (.inr ⟨rfl, ih⟩)
    have ih := words_inc hS k
    have hl : ∀ w ∈ wordsOf S k, w.length = k := fun w hw => (wordsOf_mem hw).1
    revert ih hl
    generalize wordsOf S k = W
    intro ih hl
    induction W with
    | nil => simp
    | cons w W ihW =>
      rw [List.flatMap_cons, List.pairwise_append]
      obtain ⟨h1, h2⟩ := List.pairwise_cons.mp ih
      refine ⟨List.pairwise_map.mpr (hS.imp fun h => app2 w _ _ h), ihW h2 fun u hu => hl u (List.mem_cons_of_mem _ hu), fun x hx y hy => ?_⟩
      obtain ⟨c, _, rfl⟩ := List.mem_map.mp hx
      obtain ⟨u, hu, hy⟩ := List.mem_flatMap.mp hy
      obtain ⟨d, _, rfl⟩ := List.mem_map.mp hy
      exact app w u c d (by rw [hl w (List.mem_cons_self ..), hl u (List.mem_cons_of_mem _ hu)]) (h1 u hu)
theorem own_inc {s : List Nat} {g : Nat} (hS : s.Pairwise (· < ·)) : (ownW s g).Pairwise (· < ·) := (words_inc hS _).filter _
theorem own_nodup {s : List Nat} {g : Nat} (hS : s.Pairwise (· < ·)) : (ownW s g).Nodup := (own_inc hS).imp fun h e => by subst e; exact absurd h (List.lt_irrefl _)
/-- an order of a ground that can be counted -/
structure Ord (s : List Nat) (g : Nat) (o : List (List Nat)) : Prop where
  sm : Small s g
  per : o.Perm (ownW s g)
theorem Ord.nodup {s : List Nat} {g : Nat} {o : List (List Nat)} (h : Ord s g o) : o.Nodup := h.per.nodup_iff.mpr (own_nodup h.sm.l.inc)
theorem own_few {s : List Nat} {g : Nat} (h : Few s g) : (ownW s g).length ≤ 1000000 := Nat.le_trans (List.length_filter_le ..) (wordsOf_le h.ne h.few (Nat.le_refl _))
theorem Ord.len {s : List Nat} {g : Nat} {o : List (List Nat)} (h : Ord s g o) : o.length ≤ 1000000 := by rw [h.per.length_eq]; exact own_few h.sm.few
theorem Small.gap {s : List Nat} {g : Nat} (h : Small s g) : 2 ≤ g ∧ g ≤ 6 ∧ 2 ≤ s.length ∧ s.length ≤ 10 := by
  have := grounds_ok _ h.g_
  simp only at this
  omega
abbrev TD (ws : List (List Nat)) : List D := ws.map D.str
end DL
namespace DL
open PySem PySem.Spec L2 PyProof.Rows
def rk (o : List (List Nat)) (w : List Nat) : Int := (o.idxOf w : Nat)
def keyP (s : List Nat) (g : Nat) (o : List (List Nat)) (t : List Nat) (p : Int) : Int × Int := (rk o (winAt s g t p), p)
def byRk (s : List Nat) (g : Nat) (o : List (List Nat)) (t : List Nat) : List Int := (sortP ((ownP s g t).map (keyP s g o t))).map (·.2)
def isFree (g : Nat) (found : List Int) (p : Int) : Bool := !(found.any fun q => decide (((p - q).natAbs : Int) < g))
def greedy (g : Nat) (ps : List Int) : List Int := ps.foldl (fun f p => if isFree g f p = true then f ++ [p] else f) []
def cutsL (s : List Nat) (g : Nat) (o : List (List Nat)) (t : List Nat) : List Int := sortI (greedy g (byRk s g o t))
theorem greedy_snoc (g : Nat) (ps : List Int) (p : Int) : greedy g (ps ++ [p]) = if isFree g (greedy g ps) p = true then greedy g ps ++ [p] else greedy g ps := by
  unfold greedy; rw [List.foldl_append]; rfl
theorem greedy_sub (g : Nat) (ps : List Int) : (greedy g ps).Sublist ps := by
  have key : ∀ (ps f : List Int), ∃ r : List Int, ps.foldl (fun f p => if isFree g f p = true then f ++ [p] else f) f = f ++ r ∧ r.Sublist ps := by
    intro ps
    induction ps with
    | nil => intro f; exact ⟨[], by simp, .slnil⟩
    | cons p ps ih =>
      intro f
      rw [List.foldl_cons]
      by_cases h : isFree g f p = true
      · rw [if_pos h]
        obtain ⟨r, e, hr⟩ := ih (f ++ [p])
        exact ⟨p :: r, by rw [e]; simp, hr.cons₂ _⟩
      · rw [if_neg h]
        obtain ⟨r, e, hr⟩ := ih f
        exact ⟨r, e, hr.cons _⟩
  obtain ⟨r, e, hr⟩ := key ps []
  unfold greedy
  rw [e]; simpa using hr
theorem own_ps {s : List Nat} {g : Nat} {t : List Nat} {p : Int} (h : p ∈ ownP s g t) (hG : GT s g t) : winAt s g t p ∈ ownW s g := by
  obtain ⟨h1, h2⟩ := List.mem_filter.mp h
  refine List.mem_filter.mpr ⟨words_in _ _ (winAt_len ..) fun c hc => ?_, h2⟩
  obtain ⟨k, _, rfl⟩ := List.mem_map.mp hc
  exact sgAt_mem hG.ne hG.tx
theorem ownP_len {s t : List Nat} {g : Nat} (hG : GT s g t) : (ownP s g t).length ≤ 102000 := by
  have h1 := List.length_filter_le (fun p => !reps (winAt s g t p) g) (plcs g t)
  have h2 : (plcs g t).length = t.length + 2 * g - 3 := by simp [plcs]
  have := hG.gap
  have := hG.len
  unfold ownP
  omega
theorem iz_flat (l : List Int) : (IZ l).all treeD = true := by simp [List.all_map, Function.comp_def]
theorem byRk_perm (s : List Nat) (g : Nat) (o : List (List Nat)) (t : List Nat) : (byRk s g o t).Perm (ownP s g t) := by
  have := (sortP_perm ((ownP s g t).map (keyP s g o t))).map (·.2)
  rw [List.map_map] at this
  have e : (ownP s g t).map ((·.2) ∘ keyP s g o t) = ownP s g t := List.map_id _
  rw [e] at this
  exact this
/-- ascending places within a text -/
structure Inn (k : Nat) (ps : List Nat) : Prop where
  inc : ps.Pairwise (· < ·)
  pos : ∀ p ∈ ps, 0 < p ∧ p < k
theorem Inn.ends {k : Nat} {ps : List Nat} (h : Inn k ps) (hk : 0 < k) : (0 :: (ps ++ [k])).Pairwise (· < ·) := by
  refine List.pairwise_cons.mpr ⟨fun p hp => ?_, List.pairwise_append.mpr ⟨h.inc, List.pairwise_singleton _ _, fun a ha b hb => ?_⟩⟩
  · rcases List.mem_append.mp hp with hp | hp
    · exact (h.pos p hp).1
    · simp at hp; omega
  · simp at hb
    have := (h.pos a ha).2
    omega
theorem Inn.at {k : Nat} {ps : List Nat} (h : Inn k ps) (hk : 0 < k) {i : Nat} (hi : i ≤ ps.length) : (0 :: (ps ++ [k])).getD i 0 < (0 :: (ps ++ [k])).getD (i + 1) 0 ∧ (0 :: (ps ++ [k])).getD (i + 1) 0 ≤ k := by
  have hp := h.ends hk
  have h1 : i < (0 :: (ps ++ [k])).length := by simp; omega
  have h2 : i + 1 < (0 :: (ps ++ [k])).length := by simp; omega
  have e1 : (0 :: (ps ++ [k])).getD i 0 = (0 :: (ps ++ [k]))[i] := by simp only [List.getD_eq_getElem?_getD, List.getElem?_eq_getElem h1]; rfl
  have e2 : (0 :: (ps ++ [k])).getD (i + 1) 0 = (0 :: (ps ++ [k]))[i + 1] := by simp only [List.getD_eq_getElem?_getD, List.getElem?_eq_getElem h2]; rfl
  rw [e1, e2]
  refine ⟨List.pairwise_iff_getElem.mp hp i (i + 1) h1 h2 (by omega), ?_⟩
  have hm : (0 :: (ps ++ [k]))[i + 1] ∈ (0 :: (ps ++ [k])) := List.getElem_mem _
  rcases List.mem_cons.mp hm with e | hm
  · omega
  · rcases List.mem_append.mp hm with hm | hm
    · have := (h.pos _ hm).2; omega
    · simp at hm; simp [hm]
end DL
namespace DL
open PySem PySem.Spec L2 PyProof.Rows
theorem byRk_nodup (s : List Nat) (g : Nat) (o : List (List Nat)) (t : List Nat) : (byRk s g o t).Nodup := (byRk_perm s g o t).nodup_iff.mpr ((plcs_nodup g t).sublist List.filter_sublist)
theorem cuts_mem {s : List Nat} {g : Nat} {o : List (List Nat)} {t : List Nat} {p : Int} : p ∈ cutsL s g o t ↔ p ∈ greedy g (byRk s g o t) := (sortI_perm _).mem_iff
theorem cuts_own {s : List Nat} {g : Nat} {o : List (List Nat)} {t : List Nat} {p : Int} (h : p ∈ cutsL s g o t) : p ∈ ownP s g t := (byRk_perm s g o t).mem_iff.mp ((greedy_sub g _).mem (cuts_mem.mp h))
end DL
namespace DL
open PySem PySem.Spec L2 PyProof.Rows
theorem GT.pos {s t : List Nat} {g : Nat} (h : GT s g t) : 0 < g := by have := h.ok.gap; omega
/-- a word of a ground -/
structure Wof (s : List Nat) (w : List Nat) : Prop where
  ne : w ≠ []
  mem : ∀ c ∈ w, c ∈ s
/-- a word of a ground, any object -/
def wdB (s : List Nat) : D → Bool
  | .str w => !w.isEmpty && w.all fun c => decide (c ∈ s)
  | _ => false
@[simp] theorem wdB_str (s w : List Nat) : wdB s (.str w) = (!w.isEmpty && w.all fun c => decide (c ∈ s)) := rfl
theorem wdB_iff {s : List Nat} {d : D} : wdB s d = true ↔ ∃ w, d = .str w ∧ Wof s w := by
  cases d <;> simp [wdB]
  rename_i w
  exact ⟨fun ⟨h1, h2⟩ => ⟨h1, h2⟩, fun h => ⟨h.ne, h.mem⟩⟩
def F_is_word_of : FC := fun ds n Q => ∃ s g d, ds = [gnd s g, d] ∧ low s = true ∧ plain 64 d = true ∧ Q (.val (.bl (wdB s d))) n
theorem law_is_word_of : ∀ ds n Q, F_is_word_of ds n Q → ds.length = 2 → cm_is_word_of F_is_text_of F_is_word { nx := fun _ m => Q (.val .non) m, rt := fun _ => Q } (startE 0 ds) n := by
  rintro ds n Q ⟨s, g, d, rfl, hl, hp, h⟩ _
  simp [cm_is_word_of]
  refine ⟨d, rfl, hp, ?_⟩
  rcases plain_cases hp with rfl | ⟨b, rfl⟩ | ⟨i, rfl⟩ | ⟨w, rfl⟩ | ⟨xs, rfl⟩ | ⟨xs, rfl⟩
  · simpa [isWd, wdB] using h
  · simpa [isWd, wdB] using h
  · simpa [isWd, wdB] using h
  · by_cases h1 : isWd (.str w) = true
    · rw [h1]
      simp
      refine ⟨_, _, _, rfl, rfl, ?_⟩
      have e2 : isTxOf s (.str w) = wdB s (.str w) := by
        rw [isWd_str, Bool.and_eq_true] at h1
        rw [isTxOf_str, wdB_str, h1.2, Bool.true_and]
      rw [e2]
      exact h
    · have h1' : isWd (.str w) = false := Bool.eq_false_iff.mpr h1
      rw [h1']
      simp
      have e2 : wdB s (.str w) = false := by
        rw [Bool.eq_false_iff]
        intro hc
        obtain ⟨v, e, hv⟩ := wdB_iff.mp hc
        cases e
        refine h1 ?_
        have h3 : low w = true := low_iff.mpr fun c hc => low_iff.mp hl c (hv.mem c hc)
        have h4 := hv.ne
        simp [h3, h4]
      rw [e2] at h
      exact h
  · simpa [isWd, wdB] using h
  · simpa [isWd, wdB] using h
/-- all but the first and the last sign -/
def mid (w : List Nat) : List Nat := cutL w (some 1) (some (-1))
def isLong (g : Nat) (w : List Nat) : Bool := decide (2 * g ≤ w.length) && reps (mid w) g
end DL
namespace DL
open PySem PySem.Spec L2 PyProof.Rows
abbrev GR (s : List Nat) (g : Nat) : D := .tup [.str s, .int (g : Nat)]
/-- the same window, by a text with pads on both sides -/
def F__law_window : FC := fun ds n Q => ∃ (s : List Nat) (g : Nat) (t : List Nat) (p : Int), ds = [GR s g, .str t, .int p] ∧ s ≠ [] ∧ 2 ≤ g ∧ g ≤ 1000 ∧ t.length ≤ 100000 ∧ 2 - 2 * (g : Int) ≤ p ∧ p ≤ t.length + 2 * g - 2 ∧ Q (.val (.str (winAt s g t p))) n
theorem pad_get (c : Nat) (t : List Nat) (k : Nat) {i : Nat} (h : i < k + t.length + k) : (List.replicate k c ++ t ++ List.replicate k c).getD i 0 = if k ≤ i ∧ i < k + t.length then t.getD (i - k) 0 else c := by
  rw [List.getD_eq_getElem?_getD]
  by_cases h1 : i < k
  · rw [if_neg (by omega), List.append_assoc, List.getElem?_append_left (by simpa using h1), List.getElem?_replicate, if_pos h1]; rfl
  · by_cases h2 : i < k + t.length
    · rw [if_pos ⟨by omega, h2⟩, List.append_assoc, List.getElem?_append_right (by simp; omega), List.length_replicate, List.getElem?_append_left (by omega), List.getD_eq_getElem?_getD]
    · rw [if_neg (by omega), List.getElem?_append_right (by simp; omega), List.getElem?_replicate, if_pos (by simp; omega)]; rfl
theorem winAt_get {s : List Nat} {g : Nat} {t : List Nat} {p : Int} {k : Nat} (h : k < (winAt s g t p).length) : (winAt s g t p)[k] = sgAt s t (p - g + 1 + k) := by simp [winAt]
theorem win_pad {s : List Nat} {g : Nat} {t : List Nat} {p : Int} {c : Nat} (hc : s.headD 0 = c) (hg : 2 ≤ g) (h1 : 2 - 2 * (g : Int) ≤ p) (h2 : p ≤ t.length + 2 * g - 2) :
    ((List.replicate (3 * g) c ++ t ++ List.replicate (3 * g) c).drop (p + 3 * g - g + 1).toNat).take (2 * g - 2) = winAt s g t p := by
  have hl : (List.replicate (3 * g) c ++ t ++ List.replicate (3 * g) c).length = 3 * g + t.length + 3 * g := by simp; omega
  refine List.ext_getElem (by rw [List.length_take, List.length_drop, hl, winAt_len]; omega) fun k q1 q2 => ?_
  rw [winAt_len] at q2
  have hk : (p + 3 * g - g + 1).toNat + k < 3 * g + t.length + 3 * g := by omega
  have e1 : (((List.replicate (3 * g) c ++ t ++ List.replicate (3 * g) c).drop (p + 3 * g - g + 1).toNat).take (2 * g - 2))[k] = (List.replicate (3 * g) c ++ t ++ List.replicate (3 * g) c).getD ((p + 3 * g - g + 1).toNat + k) 0 := by
    rw [List.getElem_take, List.getElem_drop, List.getD_eq_getElem?_getD, List.getElem?_eq_getElem (by rw [hl]; exact hk)]
    rfl
  rw [e1, pad_get c t (3 * g) hk]
  rw [winAt_get]
  by_cases hin : 0 ≤ p - g + 1 + k ∧ p - (g : Int) + 1 + k < t.length
  · rw [if_pos (by omega), sgAt_in hin.1 hin.2]
    congr 1
    omega
  · rw [if_neg (by omega), sgAt_out (by omega), hc]
theorem law__law_window : ∀ ds n Q, F__law_window ds n Q → ds.length = 3 → cm__law_window { nx := fun _ m => Q (.val .non) m, rt := fun _ => Q } (startE 3 ds) n := by
  rintro ds n Q ⟨s, g, t, p, rfl, hs, hg, hg2, ht, h1, h2, h⟩ _
  obtain ⟨c, s', rfl⟩ : ∃ c s', s = c :: s' := by
    cases s with
    | nil => exact absurd rfl hs
    | cons c s' => exact ⟨c, s', rfl⟩
  have hsz : sizeLine = 16777216 := PySem.sizeLine_eq
  unfold cm__law_window
  refine sSeq_of fun next0 hn0 => ?_
  simp
  refine ⟨.left (by decide), ⟨by omega, by omega, by omega⟩, ?_⟩
  have e0 : (3 * (g : Int)).toNat = 3 * g := by omega
  refine hn0 _ _ ?_
  refine sSeq_of fun next1 hn1 => ?_
  simp
  rw [e0]
  refine ⟨by omega, by omega, .left (by decide), hn1 _ _ ?_⟩
  simp
  have e1 : p + 3 * (g : Int) - (g : Int) + 1 = (((p + 3 * g - g + 1).toNat : Nat) : Int) := by omega
  have e2 : p + 3 * (g : Int) + (g : Int) - 1 = (((p + 3 * g - g + 1).toNat + (2 * g - 2) : Nat) : Int) := by omega
  rw [e1, e2, cutL_in _ (by simp; omega) (by simp; omega)]
  have e3 : (p + 3 * (g : Int) - (g : Int) + 1).toNat + (2 * g - 2) - (p + 3 * (g : Int) - (g : Int) + 1).toNat = 2 * g - 2 := by omega
  rw [e3]
  have := win_pad (s := c :: s') (t := t) (p := p) (c := c) rfl hg h1 h2
  rw [List.append_assoc] at this
  rw [this]
  exact h
theorem putAll_new : ∀ {ps : List (D × D)} {ks vs : List D}, ks.length = vs.length → (ks ++ ps.map (·.1)).Nodup → putAll ps ks vs = (ks ++ ps.map (·.1), vs ++ ps.map (·.2))
  | [], ks, vs, _, _ => by simp [putAll]
  | p :: ps, ks, vs, hl, hn => by
    rw [List.map_cons] at hn
    have hnk : p.1 ∉ ks := fun z => (List.nodup_append.mp hn).2.2 p.1 z p.1 (List.mem_cons_self ..) rfl
    obtain ⟨e1, e2⟩ := put_new (v := p.2) hnk hl
    show putAll ps (putKs ks p.1) (putVs ks vs p.1 p.2) = _
    rw [e1, e2, putAll_new (by simp [hl]) (by simpa [List.append_assoc] using hn)]
    simp [List.append_assoc]
theorem dictP_of {α : Type} {xs : List α} {kf vf : α → D} {n : Nat} {Q : D → Nat → Prop} (hk : ∀ a ∈ xs, isKeyD (kf a) = true) (hn : (xs.map kf).Nodup) (h : Q (.dct (xs.map kf) (xs.map vf)) n) : gDictP [.lst (xs.map fun a => .tup [kf a, vf a])] n Q := by
  refine ⟨xs.map fun a => (kf a, vf a), by rw [List.map_map]; rfl, fun p hp => ?_, ?_⟩
  · obtain ⟨a, ha, rfl⟩ := List.mem_map.mp hp
    exact hk a ha
  · have e1 : ((xs.map fun a => (kf a, vf a)).map (·.1)) = xs.map kf := by rw [List.map_map]; rfl
    have e2 : ((xs.map fun a => (kf a, vf a)).map (·.2)) = xs.map vf := by rw [List.map_map]; rfl
    rw [putAll_new rfl (by rw [e1]; simpa using hn), e1, e2]
    exact h
def F__law_places : FC := fun ds n Q => ∃ (s : List Nat) (g : Nat) (t : List Nat), ds = [GR s g, .str t] ∧ GT s g t ∧ Q (.val (.dct (IZ (ownP s g t)) ((ownP s g t).map fun p => D.str (winAt s g t p)))) n
theorem law__law_places : ∀ ds n Q, F__law_places ds n Q → ds.length = 2 → cm__law_places F__law_repeats F__law_window { nx := fun _ m => Q (.val .non) m, rt := fun _ => Q } (startE 3 ds) n := by
  rintro ds n Q ⟨s, g, t, rfl, hG, h⟩ _
  have h1 := hG.ok.gap
  have h2 := hG.gap
  have h3 := hG.len
  have hs := hG.ne
  have hsz : sizeLine = 16777216 := PySem.sizeLine_eq
  unfold cm__law_places
  refine sSeq_of fun next0 hn0 => ?_
  simp
  refine ⟨by omega, ?_⟩
  rw [ups_eq]
  have e : ((t.length : Int) + (g : Int) - 1 - (2 - (g : Int))).toNat = t.length + 2 * g - 3 := by omega
  rw [e]
  have e1 : (List.range (t.length + 2 * g - 3)).map (fun k : Nat => D.int (2 - (g : Int) + (k : Int))) = (plcs g t).map D.int := by simp [plcs, Function.comp_def]
  rw [e1]
  refine goD_map (fun p : Int => D.tup [.int p, .str (winAt s g t p)]) (fun p hp m K hK => ?_) ?_
  · have hpl := (mem_plcs h1).mp hp
    simp [stepD]
    exact ⟨s, g, t, p, rfl, hs, h1, h2, h3, by omega, by omega, by omega, hK⟩
  refine hn0 _ _ ?_
  simp
  refine goD_filter (fun p => !reps (winAt s g t p) g) (fun p : Int => D.tup [.int p, .str (winAt s g t p)]) (fun p hp m K hT hF => ?_) ?_
  · simp [stepD]
    refine ⟨_, g, rfl, by rw [winAt_len]; omega, ?_⟩
    cases e : reps (winAt s g t p) g with
    | true => simpa using hF (by rw [e]; rfl)
    | false =>
      have := hT (by rw [e]; rfl)
      simp
      exact ⟨by omega, this⟩
  · exact dictP_of (kf := D.int) (vf := fun p => D.str (winAt s g t p)) (fun _ _ => rfl) (iz_nodup ((plcs_nodup g t).sublist List.filter_sublist)) h
def F__law_all_cuts : FC := fun ds n Q => ∃ (s : List Nat) (g : Nat) (o : List (List Nat)) (t : List Nat), ds = [GR s g, .lst (TD o), .str t] ∧ GT s g t ∧ Ord s g o ∧ Q (.own (IZ (cutsL s g o t))) n
theorem law__law_all_cuts : ∀ ds n Q, F__law_all_cuts ds n Q → ds.length = 3 → cm__law_all_cuts F__law_places { nx := fun _ m => Q (.val .non) m, rt := fun _ => Q } (startE 8 ds) n := by
  rintro ds n Q ⟨s, g, o, t, rfl, hG, ho, h⟩ _
  have hl : (byRk s g o t).length ≤ 102000 := by rw [(byRk_perm s g o t).length_eq]; exact ownP_len hG
  have hsz : sizeLine = 16777216 := PySem.sizeLine_eq
  have hol := ho.len
  unfold cm__law_all_cuts
  refine sSeq_of fun next0 hn0 => ?_
  simp
  refine ⟨s, g, t, rfl, hG, hn0 _ _ ?_⟩
  refine sSeq_of fun next1 hn1 => ?_
  simp
  rw [enum_ix ho.nodup]
  refine goD_map (fun w : List Nat => D.tup [.str w, .int (o.idxOf w : Nat)]) (fun w hw m K hK => ?_) ?_
  · simp [stepD]
    exact ⟨by omega, hK⟩
  refine dictP_of (kf := D.str) (vf := fun w => D.int (o.idxOf w : Nat)) (fun _ _ => rfl) (str_nodup ho.nodup) (hn1 _ _ ?_)
  have hnd : (IZ (ownP s g t)).Nodup := iz_nodup ((plcs_nodup g t).sublist List.filter_sublist)
  refine sSeq_of fun next2 hn2 => ?_
  simp
  refine goD_map (fun p : Int => D.tup [.int (keyP s g o t p).1, .int (keyP s g o t p).2]) (fun p hp m K hK => ?_) ?_
  · have hw := ho.per.mem_iff.mpr (own_ps hp hG)
    simp [stepD]
    refine ⟨_, dGet_map (vf := fun p => D.str (winAt s g t p)) hnd hp, rfl, _, dGet_map (kf := D.str) (vf := fun w => D.int (o.idxOf w : Nat)) (str_nodup ho.nodup) hw, ?_⟩
    exact ⟨by omega, hK⟩
  refine .inr (.inr ⟨(ownP s g t).map (keyP s g o t), by simp [PP, Function.comp_def], fun qs hq hs => ?_⟩)
  have eq := sortP_uniq hq hs
  subst eq
  have eb : (byRk s g o t) = (sortP ((ownP s g t).map (keyP s g o t))).map (·.2) := rfl
  have hl2 : (sortP ((ownP s g t).map (keyP s g o t))).length ≤ 102000 := by rw [eb, List.length_map] at hl; exact hl
  refine forD_inv (fun pre env m => (∃ x6 x7 x8 x9 x10 x5, env = [some (.val (GR s g)), some (.val (.lst (TD o))), some (.val (.str t)), some (.val (.dct (IZ (ownP s g t)) ((ownP s g t).map fun p => D.str (winAt s g t p)))), some (.own (IZ (greedy g (pre.map (·.2))))), x5, x6, x7, x8, x9, x10]) ∧ m = n) ?_ ?_ ⟨⟨_, _, _, _, _, _, rfl⟩, rfl⟩
  · rintro pre q post env m next hx ⟨⟨x6, x7, x8, x9, x10, x5, rfl⟩, rfl⟩ hn
    have hpl : pre.length < 102000 := by
      have := congrArg List.length hx
      simp at this
      omega
    have hgl := (greedy_sub g (pre.map (·.2))).length_le
    rw [List.length_map] at hgl
    simp
    refine goD_map (fun r : Int => D.bl (decide (((q.2 - r).natAbs : Int) < g))) (fun r hr m K hK => ?_) ?_
    · simp [stepD]
      simpa using hK
    refine ⟨(greedy g (pre.map (·.2))).map fun r => decide (((q.2 - r).natAbs : Int) < g), by rw [List.map_map]; rfl, ?_⟩
    have ef : isFree g (greedy g (pre.map (·.2))) q.2 = true ↔ ¬ ∃ a, a ∈ greedy g (pre.map (·.2)) ∧ (q.2 - a).natAbs < g := by
      unfold isFree
      rw [Bool.not_eq_true', List.any_eq_false]
      simp
    have es : greedy g ((pre ++ [q]).map (·.2)) = if isFree g (greedy g (pre.map (·.2))) q.2 = true then greedy g (pre.map (·.2)) ++ [q.2] else greedy g (pre.map (·.2)) := by
      rw [List.map_append]; exact greedy_snoc g _ _
    simp
    by_cases hc : ∃ a, a ∈ greedy g (pre.map (·.2)) ∧ (q.2 - a).natAbs < g
    · rw [if_pos hc]
      refine hn _ _ ⟨⟨some (.val (.int q.1)), some (.val (.int q.2)), x8, x9, x10, x5, ?_⟩, rfl⟩
      rw [es, if_neg fun z => ef.mp z hc]
    · rw [if_neg hc]
      refine ⟨by omega, hn _ _ ⟨⟨some (.val (.int q.1)), some (.val (.int q.2)), x8, x9, x10, x5, ?_⟩, rfl⟩⟩
      rw [es, if_pos (ef.mpr hc)]
      simp
  · rintro env m ⟨⟨x6, x7, x8, x9, x10, x5, rfl⟩, rfl⟩
    refine hn2 _ _ ?_
    simp
    refine .inr (.inl ⟨greedy g (byRk s g o t), rfl, fun ms hms hs => ?_⟩)
    have e := sortI_uniq hms hs
    subst e
    exact ⟨fun x hx => List.all_eq_true.mp (iz_flat _) x hx, h⟩
end DL
namespace DL
open PySem PySem.Spec L2 PyProof.Rows
theorem one_sign {s : List Nat} {n : Nat} {K : Sl → Nat → Prop} (hs : s ≠ []) (hl : s.length ≤ 26) (hn : n + 400 ≤ 1000000000000000000) (h : ∀ (c : Nat) (m : Nat), c ∈ s → n ≤ m → m ≤ n + 400 → K (.val (.str [c])) m) : F_one_of [dice, .lst (s.map fun c => .str [c])] n K :=
  one_of (by simpa using hs) (by simp; omega) hn fun x m hx h1 h2 => by
    obtain ⟨c, hc, rfl⟩ := List.mem_map.mp hx
    exact h c m hc h1 h2
theorem reps_iff {v : List Nat} {g : Nat} : reps v g = true ↔ ∃ p, 1 ≤ p ∧ p < g ∧ p < v.length ∧ ∀ i, i + p < v.length → v.getD i 0 = v.getD (i + p) 0 := by
  unfold reps
  rw [List.any_eq_true]
  constructor
  · rintro ⟨p, h1, h2⟩
    have := mem_upto.mp h1
    have h3 := per_iff.mp h2
    exact ⟨p, this.1, by omega, h3.1, h3.2⟩
  · rintro ⟨p, h1, h2, h3, h4⟩
    exact ⟨p, mem_upto.mpr ⟨h1, by omega⟩, per_iff.mpr ⟨h3, h4⟩⟩
end DL
namespace DL
open PySem PySem.Spec L2 PyProof.Rows
theorem winAt_D {s : List Nat} {g : Nat} {t : List Nat} {p : Int} {k : Nat} (h : k < 2 * g - 2) : (winAt s g t p).getD k 0 = sgAt s t (p - g + 1 + k) := by
  rw [List.getD_eq_getElem?_getD, List.getElem?_eq_getElem (by rw [winAt_len]; exact h)]
  exact winAt_get _
end DL
namespace DL
open PySem PySem.Spec L2 PyProof.Rows
theorem greedy_app (g : Nat) (a b : List Int) : ∃ c : List Int, greedy g (a ++ b) = greedy g a ++ c ∧ c.Sublist b := by
  unfold greedy
  rw [List.foldl_append]
  generalize (a.foldl (fun f p => if isFree g f p = true then f ++ [p] else f) []) = f
  induction b generalizing f with
  | nil => exact ⟨[], by simp, .slnil⟩
  | cons p b ih =>
    rw [List.foldl_cons]
    by_cases h : isFree g f p = true
    · rw [if_pos h]
      obtain ⟨c, e, hc⟩ := ih (f ++ [p])
      exact ⟨p :: c, by rw [e]; simp, hc.cons_cons p⟩
    · rw [if_neg h]
      obtain ⟨c, e, hc⟩ := ih f
      exact ⟨c, e, hc.cons p⟩
theorem free_iff {g : Nat} {f : List Int} {p : Int} : isFree g f p = true ↔ ∀ q ∈ f, (g : Int) ≤ ((p - q).natAbs : Int) := by
  unfold isFree
  simp
/-- a greedy choice, by what was chosen ahead -/
theorem greedy_iff {g : Nat} {lt : Int → Int → Prop} {ps : List Int} (h : ps.Pairwise lt) (asym : ∀ a b, lt a b → ¬ lt b a) {p : Int} (hp : p ∈ ps) : p ∈ greedy g ps ↔ ∀ q ∈ greedy g ps, lt q p → (g : Int) ≤ ((p - q).natAbs : Int) := by
  obtain ⟨pre, post, rfl⟩ := List.append_of_mem hp
  obtain ⟨h1, h2, h3⟩ := List.pairwise_append.mp h
  obtain ⟨h4, h5⟩ := List.pairwise_cons.mp h2
  have irr : ¬ lt p p := fun hh => asym p p hh hh
  have e0 : pre ++ p :: post = (pre ++ [p]) ++ post := by simp
  obtain ⟨c, ec, hc⟩ := greedy_app g (pre ++ [p]) post
  have hnp : p ∉ post := fun hh => irr (h4 p hh)
  have hnpre : p ∉ pre := fun hh => irr (h3 p hh p (List.mem_cons_self ..))
  have hgp : ∀ q ∈ greedy g pre, q ∈ pre := fun q hq => (greedy_sub g pre).mem hq
  have hin : p ∈ greedy g (pre ++ p :: post) ↔ isFree g (greedy g pre) p = true := by
    rw [e0, ec, List.mem_append, greedy_snoc]
    constructor
    · rintro (hh | hh)
      · by_cases hf : isFree g (greedy g pre) p = true
        · exact hf
        · rw [if_neg hf] at hh
          exact absurd (hgp p hh) hnpre
      · exact absurd (hc.mem hh) hnp
    · intro hf
      rw [if_pos hf]
      exact .inl (by simp)
  rw [hin, free_iff]
  constructor
  · intro hf q hq hlt
    refine hf q ?_
    rw [e0, ec, List.mem_append, greedy_snoc] at hq
    rcases hq with hq | hq
    · split at hq
      · rcases List.mem_append.mp hq with hq | hq
        · exact hq
        · rw [List.mem_singleton.mp hq] at hlt
          exact absurd hlt irr
      · exact hq
    · exact absurd hlt (asym _ _ (h4 q (hc.mem hq)))
  · intro hf q hq
    refine hf q ?_ (h3 q (hgp q hq) p (List.mem_cons_self ..))
    rw [e0, ec, List.mem_append, greedy_snoc]
    refine .inl ?_
    split
    · exact List.mem_append_left _ hq
    · exact hq
theorem byRk_pw (s : List Nat) (g : Nat) (o : List (List Nat)) (t : List Nat) : (byRk s g o t).Pairwise fun a b => rk o (winAt s g t a) < rk o (winAt s g t b) ∨ (rk o (winAt s g t a) = rk o (winAt s g t b) ∧ a < b) := by
  have hn := byRk_nodup s g o t
  have hs := sortP_sorted ((ownP s g t).map (keyP s g o t))
  have hp := sortP_perm ((ownP s g t).map (keyP s g o t))
  unfold byRk at hn ⊢
  rw [List.pairwise_map]
  rw [List.Nodup, List.pairwise_map] at hn
  have hall : ∀ e ∈ sortP ((ownP s g t).map (keyP s g o t)), e.1 = rk o (winAt s g t e.2) := fun e he => by
    obtain ⟨p, _, rfl⟩ := List.mem_map.mp (hp.mem_iff.mp he)
    rfl
  refine (List.Pairwise.and_mem.mp (hs.and hn)).imp fun {a b} h => ?_
  obtain ⟨ha, hb, h1, h2⟩ := h
  have e1 := hall a ha
  have e2 := hall b hb
  unfold pairLe at h1
  rw [← e1, ← e2]
  omega
theorem own_at {s : List Nat} {g : Nat} {t : List Nat} {p : Int} (hg : 2 ≤ g) : p ∈ ownP s g t ↔ reps (winAt s g t p) g = false := by
  unfold ownP
  rw [List.mem_filter]
  constructor
  · rintro ⟨_, h⟩; simpa using h
  · intro h
    refine ⟨?_, by simpa using h⟩
    by_cases hin : 2 - (g : Int) ≤ p ∧ p ≤ t.length + g - 2
    · refine List.mem_map.mpr ⟨(p - (2 - (g : Int))).toNat, List.mem_range.mpr (by omega), by omega⟩
    · exfalso
      have hr : reps (winAt s g t p) g = true := by
        refine reps_iff.mpr ⟨1, Nat.le_refl _, by omega, by rw [winAt_len]; omega, fun i hi => ?_⟩
        rw [winAt_len] at hi
        rw [winAt_D (by omega), winAt_D (by omega), sgAt_out (by omega), sgAt_out (by omega)]
      rw [hr] at h; cases h
/-- so far behind -/
theorem win_shift {s : List Nat} {g : Nat} {t : List Nat} {p : Int} {k : Nat} (hk : 1 ≤ k) : ∀ i, i + k < 2 * g - 2 → (winAt s g t p).getD (i + k) 0 = (winAt s g t (p + k)).getD i 0 := fun i hi => by
  rw [winAt_D hi, winAt_D (by omega)]
  congr 1
  omega
/-- .. and unlike -/
theorem win_ne {s : List Nat} {g : Nat} {t : List Nat} {p q : Int} (hg : 2 ≤ g) (h : p ≠ q) (h2 : ((p - q).natAbs : Int) < g) (ho : reps (winAt s g t p) g = false) : winAt s g t p ≠ winAt s g t q := by
  intro e
  have key : ∀ (a : Int) (k : Nat), 1 ≤ k → k < g → winAt s g t a = winAt s g t (a + k) → reps (winAt s g t a) g = true := fun a k k1 k2 e => by
    refine reps_iff.mpr ⟨k, k1, k2, by rw [winAt_len]; omega, fun i hi => ?_⟩
    rw [winAt_len] at hi
    rw [win_shift k1 i hi, ← e]
  by_cases hc : p < q
  · have := key p (q - p).toNat (by omega) (by omega) (by rw [show p + ((q - p).toNat : Int) = q by omega]; exact e)
    rw [this] at ho; cases ho
  · have := key q (p - q).toNat (by omega) (by omega) (by rw [show q + ((p - q).toNat : Int) = p by omega]; exact e.symm)
    rw [← e] at this
    rw [this] at ho; cases ho
theorem rk_inj {o : List (List Nat)} {a b : List Nat} (ha : a ∈ o) (h : rk o a = rk o b) : a = b := by
  unfold rk at h
  have h1 : o.idxOf a = o.idxOf b := by omega
  have h2 : o.idxOf a < o.length := List.idxOf_lt_length_of_mem ha
  have h3 : o[o.idxOf a]? = some a := by rw [List.getElem?_eq_getElem h2, List.getElem_idxOf]
  have h4 : o[o.idxOf b]? = some b := by
    have : o.idxOf b < o.length := by omega
    rw [List.getElem?_eq_getElem this, List.getElem_idxOf]
  rw [h1, h4] at h3
  exact (Option.some.inj h3).symm
/-- which places are cuts -/
theorem cut_iff {s : List Nat} {g : Nat} {o : List (List Nat)} {t : List Nat} (hG : GT s g t) (ho : Ord s g o) {p : Int} : p ∈ cutsL s g o t ↔ reps (winAt s g t p) g = false ∧ ∀ q ∈ cutsL s g o t, rk o (winAt s g t q) < rk o (winAt s g t p) → (g : Int) ≤ ((p - q).natAbs : Int) := by
  have hg := hG.ok.gap
  have hin : ∀ q, q ∈ ownP s g t → winAt s g t q ∈ o := fun q hq => ho.per.mem_iff.mpr (own_ps hq hG)
  constructor
  · intro h
    have hown := cuts_own h
    refine ⟨(own_at hg).mp hown, fun q hq hlt => ?_⟩
    have := (greedy_iff (g := g) (byRk_pw s g o t) (fun a b => by omega) ((byRk_perm s g o t).mem_iff.mpr hown)).mp (cuts_mem.mp h)
    exact this q (cuts_mem.mp hq) (.inl hlt)
  · rintro ⟨h1, h2⟩
    have hown := (own_at hg).mpr h1
    refine cuts_mem.mpr ((greedy_iff (g := g) (byRk_pw s g o t) (fun a b => by omega) ((byRk_perm s g o t).mem_iff.mpr hown)).mpr fun q hq hlt => ?_)
    have hqc := cuts_mem.mpr hq
    rcases hlt with hlt | ⟨heq, hlt⟩
    · exact h2 q hqc hlt
    · have hw := rk_inj (hin q (cuts_own hqc)) heq
      by_cases hn : ((p - q).natAbs : Int) < g
      · exact absurd hw.symm (win_ne hg (by omega) hn h1)
      · omega
end DL
namespace DL
open PySem PySem.Spec L2 PyProof.Rows
end DL
namespace DL
open PySem PySem.Spec PyProof.Rows L2
/-- a slot's data without lists within -/
def treeSl : Sl → Bool
  | .val d => treeD d | .own xs => xs.all treeD | .ownd _ vs => vs.all treeD | .tre _ => false
@[simp] theorem treeSl_val (d : D) : treeSl (.val d) = treeD d := rfl
@[simp] theorem treeSl_own (d : List D) : treeSl (.own d) = d.all treeD := rfl
@[simp] theorem treeSl_ownd (d e : List D) : treeSl (.ownd d e) = e.all treeD := rfl
section
variable {κ : Kit} {X : Cx} {H0 : Hp} {P : Wd} {G H : Hp} {σ : L2.St} {env : SEnv} {a b c e tg iter elt : Expr} {st : Stmt} {fa fb f : FE} {fo far : FA} {t1 : FT} {te : TE} {ta : TA} {pos p p2 : Pos} {es ifs : List Expr} {fx : FX} {fxs : FXs}
theorem SlR.tree {P' : Wd} {G' H' Hb : Hp} (ev : SEnvR κ H0 P G H σ env) (gr : Grow P (lent env σ G H) H P' G' H') {v : V} {s : Sl} (r : SlR κ Hb P' G' H' v s) (h : treeSl s = true) : SlR κ Hb P' (back env σ G') H' v s := by
  have hb : ∀ a, G' a = none → back env σ G' a = none := fun a e => by unfold back; split <;> first | rfl | exact e
  cases s with
  | val d => exact Rep.tree ev gr (priv_iv ev gr) r h
  | own xs =>
    obtain ⟨a, e, vs, h1, h2, h3, h4, h5, h6⟩ := r
    exact ⟨a, e, vs, h1, h2, h3, hb a h4, h5, h6.tree ev gr (priv_iv ev gr) (by rw [treeDs_all]; exact h)⟩
  | ownd ks vs =>
    obtain ⟨a, e, kk, us, h1, hl, hz, hn, hk, h3, h4, h5, h6⟩ := r
    exact ⟨a, e, kk, us, h1, hl, hz, hn, hk, h3, hb a h4, h5, h6.tree ev gr (priv_iv ev gr) (by rw [treeDs_all]; exact h)⟩
  | tre t => cases h
theorem SlRs.tree {P' : Wd} {G' H' Hb : Hp} (ev : SEnvR κ H0 P G H σ env) (gr : Grow P (lent env σ G H) H P' G' H') : ∀ {vs : List V} {ss : List Sl}, SlRs κ Hb P' G' H' vs ss → ss.all treeSl = true → SlRs κ Hb P' (back env σ G') H' vs ss
  | [], [], _, _ => trivial
  | [], _ :: _, r, _ => r.elim
  | _ :: _, [], r, _ => r.elim
  | _ :: _, _ :: _, r, h => by
    simp only [List.all_cons, Bool.and_eq_true] at h
    exact ⟨r.1.tree ev gr h.1, r.2.1, SlRs.tree ev gr r.2.2 h.2⟩
/-- several names at once, own lists looked at -/
@[simp] def sParV (is : List Nat) (f : FXs) : FS := fun D env n => f (view env) n fun ss m => ss.all treeSl = true ∧ ss.length = is.length ∧ D.nx (setS is ss env) m
/-- a new list, own lists looked at, a value at once -/
@[simp] def sAsgFV (i : Nat) (f : FA) : FS := fun D env n => f (view env) n fun xs m => xs.all treeD = true ∧ D.nx (env.set i (some (.val (.lst xs)))) m
/-- a, b = e, e looks at own lists -/
@[simp] def sUnpV (φ : SG) (f : FE) : FS := fun D env n => f (view env) n fun d m => treeD d = true ∧ φ d env fun env' => D.nx env' m
/-- a call as a statement, own lists looked at -/
@[simp] def sDropV (f : FE) : FS := fun D env n => f (view env) n fun d m => treeD d = true ∧ D.nx env m
/-- a number's text -/
def txtI (i : Int) : List Nat := (Str.ofString (toString i)).cps.toList
def gStr (ds : List D) (n : Nat) (Q : D → Nat → Prop) : Prop := match ds with
  | [.int i] => i.natAbs.log2 < 1920 ∧ Q (.str (txtI i)) n
  | [.str s] => Q (.str s) n
  | _ => False
@[simp] theorem w_str1 {i : Int} {n : Nat} {Q : D → Nat → Prop} : gStr [.int i] n Q = (i.natAbs.log2 < 1920 ∧ Q (.str (txtI i)) n) := rfl
@[simp] theorem w_str2 {s : List Nat} {n : Nat} {Q : D → Nat → Prop} : gStr [.str s] n Q = Q (.str s) n := rfl
def gUpper (x : D) (n : Nat) (Q : D → Nat → Prop) : Prop := match x with
  | .str s => (s.length ≤ 5592405 ∧ ∀ c ∈ s, c < 128) ∧ Q (.str (s.map PyProof.Rows.up1)) n
  | _ => False
@[simp] theorem w_upper {s : List Nat} {n : Nat} {Q : D → Nat → Prop} : gUpper (.str s) n Q = ((s.length ≤ 5592405 ∧ ∀ c ∈ s, c < 128) ∧ Q (.str (s.map PyProof.Rows.up1)) n) := rfl
end
end DL
namespace DL
open PySem PySem.Spec PyProof.Rows L2
section
variable {κ : Kit} {X : Cx} {a b : Expr} {fa fb : FE} {pos : Pos}
theorem op_isBl : OpR X (compareOp .Is) (fun x y H Q => ∃ a b, x = .bl a ∧ y = .bl b ∧ Q (.bl (decide (a = b))) H) := by
  intro pins s σ H x y v u Q I rx ry h
  obtain ⟨a, b, rfl, rfl, q⟩ := h
  cases rx
  cases ry
  exact wpAny_is_plain rfl (fin_bl I q (by cases a <;> cases b <;> rfl))
def gIsB (x y : D) (n : Nat) (Q : D → Nat → Prop) : Prop := ∃ a b, x = .bl a ∧ y = .bl b ∧ Q (.bl (decide (a = b))) n
@[simp] theorem w_isB {a b : Bool} {n : Nat} {Q : D → Nat → Prop} : gIsB (.bl a) (.bl b) n Q = Q (.bl (decide (a = b))) n := by
  refine propext ⟨?_, fun h => ⟨a, b, rfl, rfl, h⟩⟩
  rintro ⟨c, d, e1, e2, h⟩
  cases e1; cases e2
  exact h
theorem cr_isB : CR κ X .Is gIsB := by
  refine ⟨_, ?_, op_isBl⟩
  intro P G H x y dx dy Q R g rx ry hf hR
  obtain ⟨a, b, e1, e2, hf⟩ := hf
  subst e1 e2
  cases rx; cases ry
  exact ⟨a, b, rfl, rfl, hR _ P G H _ .refl g .bl hf⟩
theorem e_isB (ha : DE κ X a fa) (hb : DE κ X b fb) : DE κ X (.Compare a [.Is] [b] pos) (f2 gIsB fa fb) := CR.de (cr_isB) ha hb (nomark _)
end
end DL
namespace DL
open PySem PySem.Spec PyProof.Rows L2
def gMaxV (x : D) (n : Nat) (Q : D → Nat → Prop) : Prop := ∃ (ks : List D) (is : List Int), x = .dct ks (is.map D.int) ∧ is ≠ [] ∧ ∀ m, m ∈ is → (∀ j ∈ is, j ≤ m) → Q (.int m) n
@[simp] def fMaxV (f : FE) : FE := fun env n Q => f env n fun x m => gMaxV x m Q
@[simp] def iValsD (f : FE) : FA := fun env n Q => f env n fun x m => ∃ ks vs, x = .dct ks vs ∧ Q vs m
section
variable {κ : Kit} {X : Cx} {o tg : Expr} {f : FE} {p pos apos mpos cpos : Pos}
@[simp] def iValsN (i : Nat) : FA := fun env n Q => ∃ ks vs, env[i]? = some (some (.dct ks vs)) ∧ Q vs n
end
end DL
namespace DL
open PySem PySem.Spec PyProof.Rows L2
mutual
/-- no instance within -/
def nobj : D → Bool
  | .non => true | .bl _ => true | .int _ => true | .str _ => true | .scr _ => true | .box _ _ => true
  | .lst xs => nobjs xs | .tup xs => nobjs xs | .dct _ vs => nobjs vs | .dcu _ vs => nobjs vs
  | .obj _ _ => false | .ati _ ds => nobjs ds
def nobjs : List D → Bool
  | [] => true
  | d :: ds => nobj d && nobjs ds
end
/-- an environment with two slots -/
@[simp] def twoE (n i : Nat) (a : D) (j : Nat) (b : D) : DEnv := ((List.replicate n none).set i (some a)).set j (some b)
/-- noted under a name, told itself; what is reckoned ahead stands in slot j -/
@[simp] def sNear (i j : Nat) (key : Str) (cv : CV) (s1 : FS) (f : FE) : FS := fun D env n => ∃ (s : List Nat) (g : Nat) (d : DL.D), env[i]? = some (some (.val (gnd s g))) ∧ cv s g (.inr key) = some d ∧ nobj d = true ∧ (∀ e, D.rt e (.val d) n) ∧
  s1 { nx := fun e m => e[i]? = some (some (.val (gnd s g))) ∧ ∃ W : List (List Nat), e[j]? = some (some (.own (W.map DL.D.str))) ∧ f (twoE e.length i (gnd s g) j (.lst (W.map DL.D.str))) m fun d' k => d' = d ∧ (∀ e, D.rt e (.val d) k), rt := fun _ _ _ => False } env n
end DL
namespace DL
open PySem L2
end DL
namespace DL
open PySem PySem.Spec L2 PyProof.Rows
end DL
namespace L2
open PySem PySem.Spec PyProof.Rows
end L2
namespace DL
open PySem PySem.Spec PyProof.Rows L2
end DL
namespace DL
open PySem PySem.Spec PyProof.Rows L2
def OT.kids : OT → List OT
  | .lst _ ts => ts | .tup _ ts => ts | .dct _ _ ts => ts | .dcu _ _ ts => ts | .leaf _ => []
def OT.at : List Nat → OT → Option OT
  | [], t => some t
  | k :: p, t => match t.kids[k]? with
    | some u => OT.at p u
    | none => none
def OT.put : List Nat → OT → OT → OT
  | [], _, u => u
  | k :: p, .lst a ts, u => .lst a (ts.modify k fun t => OT.put p t u)
  | k :: p, .tup a ts, u => .tup a (ts.modify k fun t => OT.put p t u)
  | k :: p, .dct a ks ts, u => .dct a ks (ts.modify k fun t => OT.put p t u)
  | k :: p, .dcu a ks ts, u => .dcu a ks (ts.modify k fun t => OT.put p t u)
  | _ :: _, .leaf d, _ => .leaf d
@[simp] theorem ot_at_nil (t : OT) : OT.at [] t = some t := rfl
@[simp] theorem ot_put_nil (t u : OT) : OT.put [] t u = u := rfl
@[simp] theorem ot_put_lst (k : Nat) (p : List Nat) (a : Addr) (ts : List OT) (u : OT) : OT.put (k :: p) (.lst a ts) u = .lst a (ts.modify k fun t => OT.put p t u) := rfl
@[simp] theorem ot_put_tup (k : Nat) (p : List Nat) (a : Addr) (ts : List OT) (u : OT) : OT.put (k :: p) (.tup a ts) u = .tup a (ts.modify k fun t => OT.put p t u) := rfl
end DL
namespace DL
open PySem PySem.Spec PyProof.Rows L2
def leaves (xs : List D) : List OT := xs.map OT.leaf
@[simp] theorem leaves_nil : leaves [] = [] := rfl
@[simp] theorem views_leaves : ∀ xs : List D, OT.views (leaves xs) = xs
  | [] => by rw [leaves, List.map_nil, OT.views]
  | x :: xs => by
    have := views_leaves xs
    rw [leaves] at this ⊢
    rw [List.map_cons, OT.views, this, OT.view]
@[simp] theorem leaves_len (xs : List D) : (leaves xs).length = xs.length := List.length_map ..
/-- a slot's data as a tree, its list at this address -/
@[simp] def toT (a : Addr) : Sl → OT
  | .val d => .leaf d | .own xs => .lst a (leaves xs) | .ownd ks vs => .dct a ks (leaves vs) | .tre t => t
@[simp] def zipT : List Addr → List Sl → List OT
  | a :: as, s :: ss => toT a s :: zipT as ss
  | _, _ => []
section
variable {κ : Kit} {X : Cx} {H0 : Hp} {P : Wd} {G H : Hp} {σ : L2.St} {env : SEnv} {a b c e o : Expr} {es : List Expr} {fa fb f : FE} {fx : FX} {fxs : FXs} {pos p p2 : Pos} {te : TE}
/-- [e1, e2, ..] as a tree -/
@[simp] def xLst (fxs : FXs) : FX := fun env n Q => fxs env n fun ss m => ss.length ≤ 16777216 ∧ ∀ (p : Addr) (as : List Addr), as.length = ss.length → Q (.tre (.lst p (zipT as ss))) m
/-- (e1, e2, ..), lists of its own in it -/
@[simp] def xTup (fxs : FXs) : FX := fun env n Q => fxs env n fun ss m => ss.length ≤ 16777216 ∧ ss.any (fun s => match s with | .val _ => false | .tre t => t.mut | _ => true) = true ∧ ∀ (p : Addr) (as : List Addr), as.length = ss.length → Q (.tre (.tup p (zipT as ss))) m
/-- x = e, whatever e tells -/
@[simp] def sAsgX (i : Nat) (fx : FX) : FS := fun D env n => fx (hide env) n fun s m => D.nx (env.set i (some s)) m
/-- return e, whatever e tells -/
@[simp] def sRetX (fx : FX) : FS := fun D env n => fx (hide env) n fun s m => D.rt env s m
/-- what a subscript says, without a step -/
abbrev FI := SEnv → Int → Prop
@[simp] def iC (z : Int) : FI := fun _ y => y = z
@[simp] def iV (j : Nat) : FI := fun env z => env[j]? = some (some (.val (.int z)))
/-- the place that subscripts lead to -/
@[simp] def ResT (env : SEnv) : List FI → OT → List Nat → OT → Prop
  | [], T, p, T' => p = [] ∧ T' = T
  | g :: gs, T, p, T' => ∃ z k U p', g env z ∧ (∃ a, (T = .lst a T.kids ∨ T = .tup a T.kids)) ∧ ixN T.kids.length z = some k ∧ T.kids[k]? = some U ∧ p = k :: p' ∧ ResT env gs U p' T'
/-- x[..]..append(e) -/
@[simp] def sTApp (i : Nat) (gs : List FI) (fx : FX) : FS := fun D env n => ∃ T q b ts, env[i]? = some (some (.tre T)) ∧ ResT env gs T q (.lst b ts) ∧ fx (hide env) n fun s m => ts.length < 16777216 ∧ ∀ a, D.nx (env.set i (some (.tre (OT.put q T (.lst b (ts ++ [toT a s])))))) m
/-- x[..]..clear() -/
@[simp] def sTClr (i : Nat) (gs : List FI) : FS := fun D env n => ∃ T q b ts, env[i]? = some (some (.tre T)) ∧ ResT env gs T q (.lst b ts) ∧ D.nx (env.set i (some (.tre (OT.put q T (.lst b []))))) n
end
end DL
namespace DL
open PySem PySem.Spec PyProof.Rows L2
/-- a dict's keys and values behind an update -/
@[simp] def updD : List D → List D → List D → List D → List D × List D
  | ks, vs, k :: kr, v :: vr => updD (putKs ks k) (putVs ks vs k v) kr vr
  | ks, vs, _, _ => (ks, vs)
section
variable {κ : Kit} {X : Cx} {H0 : Hp} {P : Wd} {G H : Hp} {σ : L2.St} {env : SEnv} {e : Expr} {f : FE} {pos p2 : Pos}
/-- x.update(e) -/
@[simp] def sUpd (i : Nat) (f : FE) : FS := fun D env n => ∃ ks vs, env[i]? = some (some (.ownd ks vs)) ∧ f (view env) n fun d m => ∃ mk mv, d = .dct mk mv ∧ mv.all treeD = true ∧ mk ≠ ks ∧ ks.length + mk.length ≤ 16777216 ∧ D.nx (env.set i (some (.ownd (updD ks vs mk mv).1 (updD ks vs mk mv).2))) m
end
end DL
namespace DL
open PySem PySem.Spec PyProof.Rows L2
/-- list(x): also a dict's keys -/
def oListA (ds : List D) (n : Nat) (Q : List D → Nat → Prop) : Prop := match ds with
  | [.str s] => Q (s.map fun c => .str [c]) n
  | [.lst xs] => Q xs n
  | [.tup xs] => Q xs n
  | [.dct ks _] => Q ks n
  | _ => False
@[simp] theorem w_lista1 {s : List Nat} {n : Nat} {Q : List D → Nat → Prop} : oListA [.str s] n Q = Q (s.map fun c => .str [c]) n := rfl
@[simp] theorem w_lista2 {xs : List D} {n : Nat} {Q : List D → Nat → Prop} : oListA [.lst xs] n Q = Q xs n := rfl
@[simp] theorem w_lista3 {xs : List D} {n : Nat} {Q : List D → Nat → Prop} : oListA [.tup xs] n Q = Q xs n := rfl
@[simp] theorem w_lista4 {xs ys : List D} {n : Nat} {Q : List D → Nat → Prop} : oListA [.dct xs ys] n Q = Q xs n := rfl
theorem zip_fst {α β : Type} {xs : List α} {ys : List β} (h : xs.length = ys.length) : (xs.zip ys).map (·.1) = xs := List.map_fst_zip (by omega)
section
variable {κ : Kit} {X : Cx} {e : Expr} {f : FE} {pos p : Pos}
/-- sorted(d): a dict of fewer than 64 texts, or ints -/
def oSortedD (ds : List D) (n : Nat) (Q : List D → Nat → Prop) : Prop :=
  (∃ (ss : List (List Nat)) (vs : List D), ds = [.dct (ss.map D.str) vs] ∧ ss.length < 64 ∧ ∀ ts : List (List Nat), ts.Perm ss → sortedS (ts.map fun s => (⟨s.toArray⟩ : Str)) = true → Q (ts.map D.str) n) ∨
  (∃ (ns : List Int) (vs : List D), ds = [.dct (ns.map D.int) vs] ∧ ns.length < 64 ∧ ∀ ms : List Int, ms.Perm ns → ms.Pairwise (· ≤ ·) → Q (ms.map D.int) n)
theorem keys_str : ∀ {kk : List Key} {ss : List (List Nat)}, kk.map keyD = ss.map D.str → kk = (ss.map fun s => (⟨s.toArray⟩ : Str)).map Sum.inr
  | [], [], _ => rfl
  | [], _ :: _, h => by simp at h
  | _ :: _, [], h => by simp at h
  | k :: kk, s :: ss, h => by
    rw [List.map_cons, List.map_cons, List.cons.injEq] at h
    rw [keys_str h.2]
    cases k with
    | inl i => exact absurd h.1 (by simp [keyD])
    | inr x =>
      have h1 : D.str x.cps.toList = D.str s := h.1
      have h1 : x.cps.toList = s := D.str.inj h1
      have : x = ⟨s.toArray⟩ := by cases x; simp at h1; rw [← h1]
      rw [this]; rfl
theorem keys_int : ∀ {kk : List Key} {ss : List Int}, kk.map keyD = ss.map D.int → kk = ss.map Sum.inl
  | [], [], _ => rfl
  | [], _ :: _, h => by simp at h
  | _ :: _, [], h => by simp at h
  | k :: kk, s :: ss, h => by
    rw [List.map_cons, List.map_cons, List.cons.injEq] at h
    rw [keys_int h.2]
    cases k with
    | inl i => have : i = s := D.int.inj h.1; rw [this]; rfl
    | inr x => exact absurd h.1 (by simp [keyD])
theorem o_sortedD (hm : X.mg "sorted" = none) (ha : DE κ X e f) (hc : X.calm = true := by rfl) (hg : Gl X "sorted" := by rfl) (he : starEach [e] X.env = (false, eval e X.env) :: starEach [] X.env := by rfl) (hpl : (backTo pos (starEach [] X.env)).any (·.1) = false := by rfl) : DO κ X (.Call (.Name "sorted" p) [e] [] pos) (oCl oSortedD (aCons f aNil)) := by
  refine do_callB ?_ (CallR.or (call_sortedD hc) (call_sortedDI hc)) hg hm (by decide +kernel) (da_one ha he) (by decide) (by decide) he hpl
  intro P G H vs ds Q R g r hf hR
  rcases hf with ⟨ss, ws, rfl, hl64, hf⟩ | ⟨ns, ws, rfl, hl64, hf⟩
  · obtain ⟨v, rfl, rv⟩ := val1 r
    generalize hks : ss.map D.str = kd at rv
    cases rv with
    | @dctK a kk us vs h hl z nd r =>
      have ek := keys_str hks.symm
      refine .inl ⟨a, _, _, rfl, (g.gh _ _ h).rd, by rw [zip_fst hl]; exact ek, by rw [List.length_map]; exact hl64, fun ys p hp hs hn => ?_⟩
      obtain ⟨ts, et, ht⟩ : ∃ ts : List (List Nat), ys = ts.map (fun s => (⟨s.toArray⟩ : Str)) ∧ ts.Perm ss := by
        refine ⟨ys.map fun y => y.cps.toList, ?_, ?_⟩
        · rw [List.map_map]
          have : ((fun s : List Nat => (⟨s.toArray⟩ : Str)) ∘ fun y : Str => y.cps.toList) = id := by funext y; cases y; simp
          rw [this, List.map_id]
        · have h1 := hp.map (fun y : Str => y.cps.toList)
          rw [List.map_map] at h1
          have : ((fun y : Str => y.cps.toList) ∘ fun s : List Nat => (⟨s.toArray⟩ : Str)) = id := by funext y; simp
          rw [this, List.map_id] at h1
          exact h1
      subst et
      rw [List.map_map]
      have ok : ∀ s ∈ ss, OkS s := fun s hs' => by
        have h1 := nd.2 (.inr ⟨s.toArray⟩) (by rw [ek]; exact List.mem_map.mpr ⟨_, List.mem_map.mpr ⟨s, hs', rfl⟩, rfl⟩)
        have h2 : OkS (⟨s.toArray⟩ : Str).cps.toList := h1
        simpa using h2
      have z' : ts.length ≤ sizeLine := by rw [ht.length_eq, sizeLine_eq]; omega
      exact hR p P G _ _ _ (Grow.new hn) (g.new hn) hn (g.gnone hn) (g.inone hn) upd_same (by rw [List.length_map]; exact z') (reps_strs fun s hs' => ok s (ht.mem_iff.mp hs')) (hf ts ht hs)
  · obtain ⟨v, rfl, rv⟩ := val1 r
    generalize hks : ns.map D.int = kd at rv
    cases rv with
    | @dctK a kk us vs h hl z nd r =>
      have ek := keys_int hks.symm
      refine .inr ⟨a, _, ns, rfl, (g.gh _ _ h).rd, by rw [zip_fst hl]; exact ek, hl64, fun ys p hp hs hn => ?_⟩
      exact hR p P G _ _ _ (Grow.new hn) (g.new hn) hn (g.gnone hn) (g.inone hn) upd_same (by rw [List.length_map, hp.length_eq, sizeLine_eq]; omega) Reps.ints (hf ys hp hs)
end
end DL
namespace DL
open PySem L2 PyProof.Rows
def keysB (ks : List D) : Bool := ks.all isKeyD && decide ks.Nodup
mutual
/-- data of lists, tuples, dicts, so deep at most -/
def dat : Nat → D → Bool
  | _, .non => true | _, .bl _ => true | _, .int _ => true | _, .str _ => true
  | k + 1, .lst xs => dats k xs
  | k + 1, .tup xs => dats k xs
  | k + 2, .dct ks vs => keysB ks && decide (ks.length = vs.length) && dats (k + 1) vs
  | _, _ => false
def dats : Nat → List D → Bool
  | _, [] => true
  | k, d :: ds => dat k d && dats k ds
end
@[simp] theorem dat_non (k : Nat) : dat k .non = true := by cases k <;> rw [dat]
@[simp] theorem dat_bl (k : Nat) (b : Bool) : dat k (.bl b) = true := by cases k <;> rw [dat]
@[simp] theorem dat_int (k : Nat) (i : Int) : dat k (.int i) = true := by cases k <;> rw [dat]
@[simp] theorem dat_str (k : Nat) (s : List Nat) : dat k (.str s) = true := by cases k <;> rw [dat]
@[simp] theorem dat_lst (k : Nat) (xs : List D) : dat (k + 1) (.lst xs) = dats k xs := by rw [dat]
@[simp] theorem dat_tup (k : Nat) (xs : List D) : dat (k + 1) (.tup xs) = dats k xs := by rw [dat]
@[simp] theorem dat_dct (k : Nat) (ks vs : List D) : dat (k + 2) (.dct ks vs) = (keysB ks && decide (ks.length = vs.length) && dats (k + 1) vs) := by rw [dat]
@[simp] theorem dats_nil (k : Nat) : dats k [] = true := by rw [dats]
@[simp] theorem dats_cons (k : Nat) (d : D) (ds : List D) : dats k (d :: ds) = (dat k d && dats k ds) := by rw [dats]
/-- what a copy is told as -/
def sameS : D → Sl
  | .lst xs => .own xs | d => .val d
@[simp] theorem sameS_view (d : D) : (sameS d).view = d := by cases d <;> rfl
end DL
namespace DL
open PySem L2
/-- _law_drawn_word(dice, ground, size), slots 0 dice 1 ground 2 size 3 spin -/
def cm__law_drawn_word (F__law_one_of : FC) : FS := (sRet (fM1 gJoin (fC (.str [])) (fFrz (oComp (iRange1 (aCons (fVar 2) aNil)) (gN 3) tYesD (fCall 2 F__law_one_of [] (aCons (fVar 0) (aCons (fFrz (oCl oList (aCons (f2 gIx (fVar 1) (fC (.int 0))) aNil))) aNil))) [3]))))
end DL
namespace DL
open PySem PySem.Spec L2 PyProof.Rows
theorem getD_take {v : List Nat} {k i : Nat} (h : i < k) : (v.take k).getD i 0 = v.getD i 0 := by
  simp [List.getD_eq_getElem?_getD, List.getElem?_take, h]
theorem getD_drop {v : List Nat} {k i : Nat} : (v.drop k).getD i 0 = v.getD (k + i) 0 := by
  simp [List.getD_eq_getElem?_getD]
inductive Told where
  | one (w : List Nat) | five (h : Nat) (tu : List Nat) (k : Int) (r : List Nat) (t : Nat)
def Told.d : Told → D
  | .one w => .tup [.str w]
  | .five h tu k r t => .tup [.str [h], .str tu, .int k, .str r, .str [t]]
def Told.word : Told → List Nat
  | .one w => w
  | .five h tu k r t => [h] ++ (List.replicate k.toNat tu).flatten ++ r ++ [t]
def Told.size : Told → Int
  | .one w => w.length
  | .five h tu k r t => ([1, (tu.length : Int), ((txtI k).length : Int), (r.length : Int), 1] : List Int).sum
/-- what is short or long -/
def SoL (g : Nat) (w : List Nat) : Prop := 2 * g ≤ w.length → isLong g w = true
theorem SoL.reps {g : Nat} {w : List Nat} (h : SoL g w) (hl : ¬ w.length < 2 * g) : DL.reps (mid w) g = true := by
  have := h (by omega)
  unfold isLong at this
  simp at this
  exact this.2
end DL
namespace DL
open PySem PySem.Spec L2 PyProof.Rows
@[simp] theorem atI_4 {α : Type} (x y z w v : α) (xs : List α) : atI (x :: y :: z :: w :: v :: xs) 4 = some v := atI_nat' (i := 4) rfl
theorem s_line : sizeLine = 16777216 := PySem.sizeLine_eq
/-- a told word whose text may be written -/
def Told.Few : Told → Prop
  | .one w => w.length ≤ 100000
  | .five _ tu k r _ => 0 ≤ k ∧ k ≤ 100000 ∧ tu.length * k.toNat ≤ 100000 ∧ r.length ≤ 100000
theorem Told.Few.len {t : Told} (h : t.Few) : t.word.length ≤ 200002 := by
  cases t with
  | one w => exact Nat.le_trans h (by decide)
  | five hd tu k r u =>
    obtain ⟨h1, h2, h3, h4⟩ := h
    have : ((List.replicate k.toNat tu).flatten).length ≤ 100000 := by rw [rep_len, Nat.mul_comm]; exact h3
    simp [Told.word] at this ⊢
    omega
/-- how many figures a told word's number may have -/
def Told.Str : Told → Prop
  | .one _ => True
  | .five _ _ k _ _ => k.natAbs.log2 < 1920
def F__law_drawn_word : FC := fun ds n Q => ∃ (s : List Nat) (g k : Nat), ds = [dice, GR s g, .int (k : Nat)] ∧ s ≠ [] ∧ s.length ≤ 26 ∧ k ≤ 10000 ∧ n + 4000000 ≤ 1000000000000000000 ∧ ∀ (w : List Nat) m, (∀ c ∈ w, c ∈ s) → w.length = k → n ≤ m → m ≤ n + 4000000 → Q (.val (.str w)) m
theorem law__law_drawn_word : ∀ ds n Q, F__law_drawn_word ds n Q → ds.length = 3 → cm__law_drawn_word F_one_of { nx := fun _ m => Q (.val .non) m, rt := fun _ => Q } (startE 1 ds) n := by
  rintro ds n Q ⟨s, g, k, rfl, hs, hsl, hk, hn, h⟩ _
  unfold cm__law_drawn_word
  simp
  refine ⟨by omega, ?_⟩
  rw [ups_eq]
  refine goD_draws 400 (fun y => ∃ c : Nat, y = .str [c] ∧ c ∈ s) 1000000000000000000 (by simp; omega) (fun a ha m' K hm hK => ?_) fun ys m2 h3 h4 hys hyl => ?_
  · simp [stepD]
    exact one_sign hs hsl hm fun c m5 hc hx1 hx2 => hK _ _ hx1 hx2 ⟨c, rfl, hc⟩
  obtain ⟨cs, rfl, hcs⟩ := ones_of hys
  simp at hyl h4
  refine join_ones (by omega) ?_
  exact h cs m2 hcs hyl h3 (by omega)
end DL
namespace DL
open PySem L2
theorem step_le {m m1 m3 c d k : Nat} (h : m ≤ m1 + c * k) (h2 : m3 ≤ m + d) (hd : d ≤ c) : m3 ≤ m1 + c * (k + 1) := by rw [Nat.mul_add]; omega
/-- each thing once, as it comes first -/
def uqPut {α : Type} [DecidableEq α] (acc : List α) (x : α) : List α := if x ∈ acc then acc else acc ++ [x]
def uq {α : Type} [DecidableEq α] (xs : List α) : List α := xs.foldl uqPut []
theorem uq_gen {α : Type} [DecidableEq α] (xs : List α) : ∀ acc : List α, acc.Nodup → (xs.foldl uqPut acc).Nodup ∧ ∀ y, y ∈ xs.foldl uqPut acc ↔ y ∈ acc ∨ y ∈ xs := by
  induction xs with
  | nil => intro acc h; exact ⟨h, fun y => by simp⟩
  | cons x xs ih =>
    intro acc h
    rw [List.foldl_cons]
    by_cases c : x ∈ acc
    · rw [show uqPut acc x = acc from if_pos c]
      obtain ⟨h1, h2⟩ := ih acc h
      refine ⟨h1, fun y => ?_⟩
      rw [h2, List.mem_cons]
      constructor
      · rintro (q | q)
        · exact .inl q
        · exact .inr (.inr q)
      · rintro (q | q | q)
        · exact .inl q
        · subst q; exact .inl c
        · exact .inr q
    · rw [show uqPut acc x = acc ++ [x] from if_neg c]
      obtain ⟨h1, h2⟩ := ih (acc ++ [x]) (by
        refine List.nodup_append.mpr ⟨h, by simp, fun a ha b hb e => ?_⟩
        rw [List.mem_singleton] at hb
        subst hb e
        exact c ha)
      refine ⟨h1, fun y => ?_⟩
      rw [h2, List.mem_append, List.mem_singleton, List.mem_cons]
      constructor
      · rintro ((q | q) | q)
        · exact .inl q
        · exact .inr (.inl q)
        · exact .inr (.inr q)
      · rintro (q | q | q)
        · exact .inl (.inl q)
        · exact .inl (.inr q)
        · exact .inr q
theorem uq_nodup {α : Type} [DecidableEq α] (xs : List α) : (uq xs).Nodup := (uq_gen xs [] List.nodup_nil).1
theorem uq_mem {α : Type} [DecidableEq α] {xs : List α} {y : α} : y ∈ uq xs ↔ y ∈ xs := by
  have := (uq_gen xs [] List.nodup_nil).2 y
  unfold uq; rw [this]; simp
theorem putAll_keys : ∀ (ps : List (D × D)) (ks vs : List D), (putAll ps ks vs).1 = (ps.map (·.1)).foldl putKs ks
  | [], ks, vs => rfl
  | p :: ps, ks, vs => by
    rw [putAll, putAll_keys ps, List.map_cons, List.foldl_cons]
theorem putKs_str (acc : List (List Nat)) (w : List Nat) : putKs (TD acc) (.str w) = TD (uqPut acc w) := by
  have e : (D.str w ∈ TD acc) ↔ w ∈ acc := by simp
  unfold putKs uqPut
  by_cases c : w ∈ acc
  · rw [if_pos (e.mpr c), if_pos c]
  · rw [if_neg fun h => c (e.mp h), if_neg c]; simp
theorem foldl_putKs : ∀ (ws acc : List (List Nat)), (TD ws).foldl putKs (TD acc) = TD (ws.foldl uqPut acc)
  | [], acc => rfl
  | w :: ws, acc => by
    show (TD ws).foldl putKs (putKs (TD acc) (.str w)) = _
    rw [putKs_str, foldl_putKs ws]; rfl
end DL
namespace DL
open PySem L2
end DL
namespace DL
open PySem PySem.Spec L2 PyProof.Rows
theorem dget_td {vs : List D} {w : List Nat} : ∀ {L : List (List Nat)}, L.length = vs.length → (dGet (TD L) vs (.str w)).isSome = decide (w ∈ L) := by
  intro L
  induction L generalizing vs with
  | nil => intro _; simp
  | cons a L ih =>
    intro hl
    cases vs with
    | nil => simp at hl
    | cons v vs =>
      simp only [List.map_cons, dGet]
      by_cases e : a = w
      · rw [if_pos (by rw [e])]; simp [e]
      · rw [if_neg (by simpa using e), ih (by simpa using hl)]; simp [Ne.symm e]
theorem putVs_len {k v : D} : ∀ {ks vs : List D}, ks.length = vs.length → (putKs ks k).length = (putVs ks vs k v).length := by
  intro ks vs h
  have key : ∀ {ks vs : List D}, ks.length = vs.length → (k ∈ ks → (putVs ks vs k v).length = vs.length) ∧ (k ∉ ks → (putVs ks vs k v).length = vs.length + 1) := by
    intro ks
    induction ks with
    | nil => intro vs h; cases vs with
      | nil => exact ⟨fun h => (nomatch h), fun _ => rfl⟩
      | cons => simp at h
    | cons a ks ih => intro vs h; cases vs with
      | nil => simp at h
      | cons b vs =>
        obtain ⟨i1, i2⟩ := ih (by simpa using h)
        simp only [putVs]
        by_cases e : a = k
        · subst e; exact ⟨fun _ => by simp, fun z => absurd (List.mem_cons_self ..) z⟩
        · rw [if_neg e]
          exact ⟨fun z => by simpa using i1 ((List.mem_cons.mp z).resolve_left fun y => e y.symm), fun z => by simpa using i2 fun y => z (List.mem_cons_of_mem _ y)⟩
  unfold putKs
  by_cases c : k ∈ ks
  · rw [if_pos c, (key h).1 c]; exact h
  · rw [if_neg c, (key h).2 c]; simp [h]
theorem putAll_len : ∀ (ps : List (D × D)) {ks vs : List D}, ks.length = vs.length → (putAll ps ks vs).1.length = (putAll ps ks vs).2.length
  | [], _, _, h => h
  | p :: ps, _, _, h => putAll_len ps (putVs_len h)
theorem putAll_str {α : Type} {xs : List α} {kf : α → List Nat} {vf : α → D} : (putAll (xs.map fun a => (D.str (kf a), vf a)) [] []).1 = TD (uq (xs.map kf)) := by
  rw [putAll_keys, List.map_map]
  have e2 : xs.map ((fun x : D × D => x.1) ∘ fun a => (D.str (kf a), vf a)) = TD (xs.map kf) := by rw [TD, List.map_map]; rfl
  rw [e2]
  exact foldl_putKs (xs.map kf) []
theorem dictP_str2 {α : Type} {xs : List α} {kf : α → List Nat} {vf : α → D} {n : Nat} {Q : D → Nat → Prop} (h : ∀ vs, vs.length = (uq (xs.map kf)).length → Q (.dct (TD (uq (xs.map kf))) vs) n) : gDictP [.lst (xs.map fun a => .tup [.str (kf a), vf a])] n Q := by
  refine ⟨xs.map fun a => (.str (kf a), vf a), by rw [List.map_map]; rfl, fun p hp => ?_, ?_⟩
  · obtain ⟨a, _, rfl⟩ := List.mem_map.mp hp
    rfl
  · have hl := putAll_len (xs.map fun a => (D.str (kf a), vf a)) (ks := []) (vs := []) rfl
    rw [putAll_str] at hl ⊢
    exact h _ (by rw [← hl]; simp)
theorem uq_id {α : Type} [DecidableEq α] : ∀ {xs acc : List α}, (acc ++ xs).Nodup → xs.foldl uqPut acc = acc ++ xs
  | [], acc, _ => by simp
  | x :: xs, acc, h => by
    have hx : x ∉ acc := fun c => (List.nodup_append.mp h).2.2 x c x (List.mem_cons_self ..) rfl
    rw [List.foldl_cons, show uqPut acc x = acc ++ [x] from if_neg hx, uq_id (by simpa [List.append_assoc] using h)]
    simp
theorem uq_nd {α : Type} [DecidableEq α] {xs : List α} (h : xs.Nodup) : uq xs = xs := by
  unfold uq; rw [uq_id (by simpa using h)]; simp
end DL
namespace DL
open PySem PySem.Spec PyProof.Rows L2
/-- x in y, y a list of plain data -/
def gInP (x y : D) (n : Nat) (Q : D → Nat → Prop) : Prop := match y with
  | .lst ys => (plain 63 x = true ∧ plains 63 ys = true) ∧ Q (.bl (ys.any fun z => eqD z x)) n
  | _ => False
def gNotInP (x y : D) (n : Nat) (Q : D → Nat → Prop) : Prop := match y with
  | .lst ys => (plain 63 x = true ∧ plains 63 ys = true) ∧ Q (.bl (!ys.any fun z => eqD z x)) n
  | _ => False
@[simp] theorem w_inp {x : D} {ys : List D} {n : Nat} {Q : D → Nat → Prop} : gInP x (.lst ys) n Q = ((plain 63 x = true ∧ plains 63 ys = true) ∧ Q (.bl (ys.any fun z => eqD z x)) n) := rfl
@[simp] theorem w_notinp {x : D} {ys : List D} {n : Nat} {Q : D → Nat → Prop} : gNotInP x (.lst ys) n Q = ((plain 63 x = true ∧ plains 63 ys = true) ∧ Q (.bl (!ys.any fun z => eqD z x)) n) := rfl
end DL
namespace DL
open PySem PySem.Spec PyProof.Rows L2
section
variable {κ : Kit} {X : Cx} {a : Expr} {fa : FE} {pos p : Pos}
/-- range(j), held -/
def gRngV1 (ds : List D) (n : Nat) (Q : D → Nat → Prop) : Prop := ∃ j : Int, ds = [.int j] ∧ Q (rngD 0 j) n
@[simp] theorem w_rngV1 {j : Int} {n : Nat} {Q : D → Nat → Prop} : gRngV1 [.int j] n Q = Q (rngD 0 j) n := by simp [gRngV1]
end
section
variable {κ : Kit} {X : Cx} {C : Addr} {cv : CV} {a : Expr} {f : FE} {pos p p2 : Pos}
/-- isinstance(x, str), x data or a ground -/
def gIsSG (d : D) (n : Nat) (Q : D → Nat → Prop) : Prop := (∃ (s : List Nat) (g : Nat), d = gnd s g ∧ Q (.bl false) n) ∨ (hasTy d = true ∧ Q (.bl (isiD .str d)) n)
@[simp] theorem w_isSG1 {s : List Nat} {g n : Nat} {Q : D → Nat → Prop} : gIsSG (gnd s g) n Q = Q (.bl false) n := by
  refine propext ⟨?_, fun h => .inl ⟨s, g, rfl, h⟩⟩
  rintro (⟨t, k, e, h⟩ | ⟨h, _⟩)
  · exact h
  · cases h
@[simp] theorem w_isSG3 {t : List Nat} {n : Nat} {Q : D → Nat → Prop} : gIsSG (.str t) n Q = Q (.bl true) n := by
  refine propext ⟨?_, fun h => .inr ⟨rfl, h⟩⟩
  rintro (⟨t, k, e, h⟩ | ⟨_, h⟩)
  · cases e
  · exact h
end
def gNotB (x y : D) (n : Nat) (Q : D → Nat → Prop) : Prop := ∃ a b, x = .bl a ∧ y = .bl b ∧ Q (.bl (!decide (a = b))) n
@[simp] theorem w_notB {a b : Bool} {n : Nat} {Q : D → Nat → Prop} : gNotB (.bl a) (.bl b) n Q = Q (.bl (!decide (a = b))) n := by
  refine propext ⟨?_, fun h => ⟨a, b, rfl, rfl, h⟩⟩
  rintro ⟨_, _, e1, e2, h⟩
  cases e1
  cases e2
  exact h
end DL
namespace DL
open PySem PySem.Spec PyProof.Rows L2
section
variable {κ : Kit} {X : Cx} {pos : Pos} {x y : Str}
/-- return (x, y) -/
@[simp] def sRetM (i j : Nat) : FS := fun D env n => ∃ s t, env[i]? = some (some s) ∧ env[j]? = some (some t) ∧ [s, t].any (fun s => match s with | .val _ => false | .tre t => t.mut | _ => true) = true ∧ ∀ (p : Addr) (as : List Addr), as.length = 2 → D.rt ((env.set i none).set j none) (.tre (.tup p (zipT as [s, t]))) n
end
end DL
namespace DL
open PySem PySem.Spec PyProof.Rows L2
section
variable {prog : Program} {w : World} {A : Around} {E : Value → Shared → Prop} {s : Shared}
abbrev IsZp (h : Heap) (z TI TO : Addr) (f0 f1 : Value) : Prop :=
  h.get? z = some { cls := .type "zip", dict := none, data := .fields #[f0, f1, .bool false, .ref TI, .ref TO], slots := #[] }
/-- how a zip object stands that has told i pairs -/
structure ZSt (h : Heap) (z TI TO i1 i2 l1 l2 : Addr) (i : Nat) : Prop where
  zp : (i = 0 ∧ IsZp h z TI TO .none (.bool false)) ∨ ∃ (T : Addr) (o : Obj) (b : Bool), IsZp h z TI TO (rawInt T) (.bool b) ∧ h.get? T = some o ∧ T ≠ z ∧ T ≠ TO ∧ T ≠ i1 ∧ T ≠ i2
  ti : IsPair h TI (.ref i1) (.ref i2)
  to : ∃ a b, IsPair h TO a b
  a : h.IsListIter i1 l1 i
  b : h.IsListIter i2 l2 i
theorem ZSt.typeIs {z TI TO i1 i2 l1 l2 : Addr} {i : Nat} (h : ZSt s.heap z TI TO i1 i2 l1 l2 i) : s.TypeIs (.ref z) "zip" := by
  rcases h.zp with ⟨_, h⟩ | ⟨T, o, b, h, _⟩
  · exact ⟨_, h, rfl⟩
  · exact ⟨_, h, rfl⟩
end
end DL
namespace DL
open PySem PySem.Spec PyProof.Rows L2
section
variable {κ : Kit} {X : Cx} {a b : Expr} {far : FA} {pos p q1 q2 : Pos}
/-- list(zip(a, b)) -/
@[simp] def oListZ (far : FA) : FA := fun env n Q => far env n fun ds m => ∃ xs ys, ds = [.lst xs, .lst ys] ∧ Q (zipD xs ys) m
end
end DL
namespace DL
open PySem PySem.Spec PyProof.Rows L2
section
variable {κ : Kit} {X : Cx} {H0 : Hp} {P : Wd} {G H : Hp} {σ : L2.St} {env : SEnv} {a b e : Expr} {fa fb : FE} {pos : Pos}
/-- {} as a dict with tuple keys -/
@[simp] def xDctT : FX := fun _ n Q => ∀ a, Q (.tre (.dcu a [] [])) n
/-- x[k] = e, x an own dict with tuple keys -/
@[simp] def sSetT (i : Nat) (fv fk : FE) : FS := fun D env n => fv (hide env) n fun d m => ∃ a ks vs, env[i]? = some (some (.tre (.dcu a ks (leaves vs)))) ∧ fk (hide env) m fun k m2 => (∃ xs, k = .tup xs ∧ xs.all isKeyD = true) ∧ ks.length < 16777216 ∧ D.nx (env.set i (some (.tre (.dcu a (putKs ks k) (leaves (putVs ks vs k d)))))) m2
end
end DL
namespace L2
open PySem PySem.Spec PyProof.Rows
end L2
namespace DL
open PySem PySem.Spec PyProof.Rows L2
end DL
namespace DL
open PySem PySem.Spec PyProof.Rows L2
/-- the keys of a dict, by its name -/
@[simp] def iDk (i : Nat) : FA := fun env n Q => ∃ ks vs, env[i]? = some (some (.dcu ks vs)) ∧ Q ks n
def RdK (κ : Kit) (i : Nat) (w : TI) : Prop := ∀ (a : Addr) (kk : List (List Key)) (us : List V) (od : Obj) (P : Wd) (G H : Hp) (σ : L2.St) (R : It → Hp → Prop), Good κ P G H → σ[i]? = some (some (.ref a)) → H a = some (.frz od (.dT (kk.zip us))) → G a = some (.dT (kk.zip us)) → kk.length = us.length → kk.length ≤ sizeLine → OkKt kk →
  (∀ J, IterS κ (fun H' => H' a = some (.frz od (.dT (kk.zip us)))) J P G (kk.map fun k => D.tup (k.map keyD)) → R J H) → w σ H R
def DKt (κ : Kit) (X : Cx) (tg iter : Expr) (i : Nat) : Prop := ∃ w, PI X tg iter w ∧ RdK κ i w
section
variable {κ : Kit} {X : Cx} {a b c e o tg : Expr} {es : List Expr} {fa fb fc f : FE} {far far1 : FA} {pos p : Pos} {t1 t2 : FT} {x : Str}
def tK (κ : Kit) (i : Nat) : TI := fun σ H R => ∃ (a : Addr) (kk : List (List Key)) (us : List V) (od : Obj) (P : Wd) (G : Hp), Good κ P G H ∧ σ[i]? = some (some (.ref a)) ∧ H a = some (.frz od (.dT (kk.zip us))) ∧ G a = some (.dT (kk.zip us)) ∧ kk.length = us.length ∧ kk.length ≤ sizeLine ∧ OkKt kk ∧
  (∀ J, IterS κ (fun H' => H' a = some (.frz od (.dT (kk.zip us)))) J P G (kk.map fun k => D.tup (k.map keyD)) → R J H)
theorem DKt.can {Y : Cx} {it : Expr} {i : Nat} (h : DKt κ Y tg it i) : PI Y tg it (tK κ i) := by
  obtain ⟨w, p, q⟩ := h
  exact ⟨fun pins s σ H R I ⟨a, kk, us, od, P, G, h1, h2, h3, h4, h5, h6, h7, h8⟩ => p.run pins s σ H R I (q a kk us od P G H σ R h1 h2 h3 h4 h5 h6 h7 h8)⟩
variable {iter iter1 tg1 elt : Expr} {ifs ifs1 : List Expr} {scope : Scope} {sl sl1 vs1 : List Nat} {φ φ1 : FG}
end
end DL
namespace DL
open PySem PySem.Spec PyProof.Rows L2
section
variable {κ : Kit} {X : Cx} {H0 : Hp} {P : Wd} {G H : Hp} {σ : L2.St} {env : SEnv} {st : Stmt} {s1 : FS}
/-- ahead of a statement: the tree at slot i is a value from here on -/
@[simp] def sFrzT (i : Nat) (s : FS) : FS := fun D env n => ∃ T, env[i]? = some (some (.tre T)) ∧ s D (env.set i (some (.val T.view))) n
@[simp] def sFrzD (i : Nat) (s : FS) : FS := fun D env n => ∃ ks vs, env[i]? = some (some (.ownd ks vs)) ∧ s D (env.set i (some (.val (.dct ks vs)))) n
end
end DL
namespace DL
open PySem PySem.Spec PyProof.Rows L2
section
variable {κ : Kit} {X : Cx} {H0 : Hp} {P : Wd} {G H : Hp} {σ : L2.St} {env : SEnv} {a b e : Expr} {fa fb : FE} {pos : Pos}
/-- x[k] = e, x an own dict with tuple keys -/
@[simp] def sSetTV (i : Nat) (fv fk : FE) : FS := fun D env n => fv (hide env) n fun d m => ∃ a ks vs, env[i]? = some (some (.tre (.dcu a ks (leaves vs)))) ∧ fk (view env) m fun k m2 => treeD k = true ∧ (∃ xs, k = .tup xs ∧ xs.all isKeyD = true) ∧ ks.length < 16777216 ∧ D.nx (env.set i (some (.tre (.dcu a (putKs ks k) (leaves (putVs ks vs k d)))))) m2
end
end DL
namespace DL
open PySem PySem.Spec PyProof.Rows L2
/-- data that has an address -/
@[simp] def refD : D → Bool
  | .lst _ => true | .tup _ => true | .dct _ _ => true | .dcu _ _ => true | .obj _ _ => true | .box _ _ => true | .scr _ => true | .ati _ _ => true | _ => false
/-- data with its address on it -/
def labD (a : Addr) (d : D) : D := if refD d = true then .ati a [d] else d
@[simp] theorem labD_lst (a : Addr) (xs : List D) : labD a (.lst xs) = .ati a [.lst xs] := rfl
@[simp] theorem labD_tup (a : Addr) (xs : List D) : labD a (.tup xs) = .ati a [.tup xs] := rfl
@[simp] theorem labD_dct (a : Addr) (xs ys : List D) : labD a (.dct xs ys) = .ati a [.dct xs ys] := rfl
@[simp] theorem labD_dcu (a : Addr) (xs ys : List D) : labD a (.dcu xs ys) = .ati a [.dcu xs ys] := rfl
@[simp] theorem labD_obj (a : Addr) (c : Nat) (ys : List D) : labD a (.obj c ys) = .ati a [.obj c ys] := rfl
@[simp] theorem labD_box (a : Addr) (c : Nat) (ys : List D) : labD a (.box c ys) = .ati a [.box c ys] := rfl
@[simp] theorem labD_non (a : Addr) : labD a .non = .non := rfl
@[simp] theorem labD_int (a : Addr) (i : Int) : labD a (.int i) = .int i := rfl
@[simp] theorem labD_bl (a : Addr) (i : Bool) : labD a (.bl i) = .bl i := rfl
@[simp] theorem labD_str (a : Addr) (s : List Nat) : labD a (.str s) = .str s := rfl
/-- data without its label -/
@[simp] def unD : D → D
  | .ati _ [d] => d | d => d
@[simp] def labS (a : Addr) (k : Bool) : Option Sl → Option Sl
  | none => none
  | some s => bif k then some (.val (labD a s.view)) else match s with
    | .val d => some (.val d) | _ => none
@[simp] def labF (as : Nat → Addr) (ks : List Nat) : Nat → SEnv → SEnv
  | _, [] => []
  | i, o :: os => labS (as i) (ks.elem i) o :: labF as ks (i + 1) os
@[simp] def keepS : Option Sl → Option Sl
  | some (.val d) => if treeD d = true then some (.val d) else none
  | _ => none
@[simp] def unlabF (ks : List Nat) (old : SEnv) : Nat → SEnv → SEnv
  | _, [] => []
  | i, x :: xs => (bif ks.elem i then (old[i]?).getD none else keepS x) :: unlabF ks old (i + 1) xs
@[simp] def sameF (ks : List Nat) : Nat → SEnv → SEnv → Prop
  | i, x :: xs, y :: ys => (ks.elem i = true → x = y) ∧ sameF ks (i + 1) xs ys
  | _, _, _ => True
theorem labF_get (as : Nat → Addr) (ks : List Nat) : ∀ (env : SEnv) (i j : Nat), (labF as ks i env)[j]? = (env[j]?).map (labS (as (i + j)) (ks.elem (i + j)))
  | [], i, j => by simp
  | o :: os, i, 0 => by simp
  | o :: os, i, j + 1 => by
    simp only [labF, List.getElem?_cons_succ]
    rw [labF_get as ks os (i + 1) j, show i + 1 + j = i + (j + 1) by omega]
theorem labF_len (as : Nat → Addr) (ks : List Nat) : ∀ (env : SEnv) (i : Nat), (labF as ks i env).length = env.length
  | [], _ => rfl
  | o :: os, i => by simp only [labF, List.length_cons, labF_len as ks os]
theorem unlabF_get (ks : List Nat) (old : SEnv) : ∀ (e : SEnv) (i j : Nat), (unlabF ks old i e)[j]? = (e[j]?).map fun x => bif ks.elem (i + j) then (old[i + j]?).getD none else keepS x
  | [], i, j => by simp
  | x :: xs, i, 0 => by simp
  | x :: xs, i, j + 1 => by
    simp only [unlabF, List.getElem?_cons_succ]
    rw [unlabF_get ks old xs (i + 1) j, show i + 1 + j = i + (j + 1) by omega]
theorem unlabF_len (ks : List Nat) (old : SEnv) : ∀ (e : SEnv) (i : Nat), (unlabF ks old i e).length = e.length
  | [], _ => rfl
  | x :: xs, i => by simp only [unlabF, List.length_cons, unlabF_len ks old xs]
theorem sameF_get {ks : List Nat} : ∀ {e f : SEnv} {i j : Nat} {x y : Option Sl}, sameF ks i e f → ks.elem (i + j) = true → e[j]? = some x → f[j]? = some y → x = y
  | [], _, _, _, _, _, _, _, h, _ => by simp at h
  | _ :: _, [], _, _, _, _, _, _, _, h => by simp at h
  | a :: as, b :: bs, i, 0, x, y, h, hk, h1, h2 => by
    simp at h1 h2
    subst h1 h2
    exact h.1 (by simpa using hk)
  | a :: as, b :: bs, i, j + 1, x, y, h, hk, h1, h2 => by
    simp at h1 h2
    exact sameF_get (i := i + 1) (j := j) h.2 (by rw [show i + 1 + j = i + (j + 1) by omega]; exact hk) h1 h2
/-- the env in a block; what has to hold at its ends -/
def sBlk (ks : List Nat) (f : FS) : FS := fun D env n => ∀ as : Nat → Addr, f {
  nx := fun e m => sameF ks 0 e (labF as ks 0 env) ∧ D.nx (unlabF ks env 0 e) m
  rt := fun e s m => sameF ks 0 e (labF as ks 0 env) ∧ (∃ d, s = .val d ∧ treeD d = true) ∧ D.rt (unlabF ks env 0 e) s m
  bk := fun e m => sameF ks 0 e (labF as ks 0 env) ∧ D.bk (unlabF ks env 0 e) m
  ct := fun e m => sameF ks 0 e (labF as ks 0 env) ∧ D.ct (unlabF ks env 0 e) m } (labF as ks 0 env) n
section
variable {κ : Kit} {X : Cx} {H0 : Hp} {P : Wd} {G H : Hp} {σ : L2.St} {env : SEnv} {st : Stmt} {sts b : List Stmt} {s1 s2 f : FS} {v w : V} {d : D} {iv : IV}
theorem rep_ref (r : Rep κ G iv v d) (h : refD d = true) : ∃ a, v = .ref a := by
  cases r <;> first | exact ⟨_, rfl⟩ | (simp at h; done)
theorem rep_flat {G2 : Hp} {iv2 : IV} (r : Rep κ G iv v d) (r2 : Rep κ G2 iv2 w d) (h : refD d = false) : v = w := by
  cases r <;> first | (simp at h; done) | (cases r2; rfl)
theorem rep_lab (r : Rep κ G iv v d) {a : Addr} (ha : refD d = true → v = .ref a) : Rep κ G iv v (labD a d) := by
  unfold labD
  split
  · rename_i h
    have e := ha h
    subst e
    exact .ati (.cons r .nil)
  · exact r
theorem rep_labW {G2 : Hp} {iv2 : IV} (r : Rep κ G iv v d) {a : Addr} (ha : refD d = true → v = .ref a) (r2 : Rep κ G2 iv2 w (labD a d)) : w = v := by
  unfold labD at r2
  split at r2
  · rename_i h
    rw [ha h]
    cases r2
    rfl
  · rename_i h
    exact (rep_flat r r2 (by simpa using h)).symm
theorem SEnvR.lab (ev : SEnvR κ H0 P G H σ env) (ks : List Nat) (as : Nat → Addr) (ha : ∀ j a, σ[j]? = some (some (.ref a)) → as j = a) : SEnvR κ H P (lent env σ G H) H σ (labF as ks 0 env) := by
  have hv := ev.view
  have key : ∀ {j : Nat} {s : Sl}, (labF as ks 0 env)[j]? = some (some s) → ∃ v : V, σ[j]? = some (some v) ∧ SlR κ H P (lent env σ G H) H v s ∧ ∃ d, s = .val d := fun {j s} h => by
    rw [labF_get, Nat.zero_add] at h
    cases e : env[j]? with
    | none => rw [e] at h; simp at h
    | some o =>
      rw [e] at h
      cases o with
      | none => simp at h
      | some t =>
        obtain ⟨v, q1, q2⟩ := hv.get j t.view (by simp [DL.view, e])
        simp only [Option.map_some, labS] at h
        cases hk : ks.elem j with
        | true =>
          rw [hk] at h
          simp only [cond_true, Option.some.injEq] at h
          subst h
          refine ⟨v, q1, rep_lab q2 fun hr => ?_, _, rfl⟩
          obtain ⟨a, e2⟩ := rep_ref q2 hr
          subst e2
          rw [ha j a q1]
        | false =>
          rw [hk] at h
          cases t with
          | val d => simp at h; subst h; exact ⟨v, q1, q2, _, rfl⟩
          | own xs => simp at h
          | ownd xs ys => simp at h
          | tre T => simp at h
  refine ⟨by rw [labF_len]; exact ev.len, fun j s h => ?_, fun i j s t v w a _ h1 _ _ _ h5 _ => ?_⟩
  · obtain ⟨v, q1, q2, _⟩ := key h
    exact ⟨v, q1, q2⟩
  · obtain ⟨_, _, _, d, rfl⟩ := key h1
    exact h5
theorem SEnvR.behind (ev : SEnvR κ H0 P G H σ env) (g : Good κ P G H) {ks : List Nat} {as : Nat → Addr} (ha : ∀ j a, σ[j]? = some (some (.ref a)) → as j = a) {P' : Wd} {G' H' : Hp} {σ' : L2.St} {e : SEnv} (gr : Grow P (lent env σ G H) H P' G' H') (g' : Good κ P' G' H') (ev' : SEnvR κ H P' G' H' σ' e) (hs : sameF ks 0 e (labF as ks 0 env)) :
    SEnvR κ H0 P' (back env σ G') H' σ' (unlabF ks env 0 e) := by
  obtain ⟨gr2, g2⟩ := back_grow ev g gr g'
  have evo := ev.grow gr2
  have key : ∀ {j : Nat} {s : Sl}, (unlabF ks env 0 e)[j]? = some (some s) → ∃ v : V, σ'[j]? = some (some v) ∧ SlR κ H0 P' (back env σ G') H' v s ∧ ((∃ d, s = .val d) ∨ (env[j]? = some (some s) ∧ σ[j]? = some (some v))) := fun {j s} h => by
    rw [unlabF_get, Nat.zero_add] at h
    cases e1 : e[j]? with
    | none => rw [e1] at h; simp at h
    | some x =>
      rw [e1] at h
      simp only [Option.map_some, Option.some.injEq] at h
      cases hk : ks.elem j with
      | true =>
        rw [hk, cond_true] at h
        have ho : env[j]? = some (some s) := by
          cases e2 : env[j]? with
          | none => rw [e2] at h; simp at h
          | some o => rw [e2] at h; simp at h; rw [h]
        obtain ⟨v, q1, q2⟩ := evo.get j s ho
        obtain ⟨u, p1, p2⟩ := ev.view.get j s.view (by simp [DL.view, ho])
        rw [q1] at p1
        cases p1
        have hra : refD s.view = true → v = .ref (as j) := fun hr => by
          obtain ⟨a, e3⟩ := rep_ref p2 hr
          subst e3
          rw [ha j a q1]
        have hx := sameF_get (j := j) hs (by rw [Nat.zero_add]; exact hk) e1 (by rw [labF_get, ho, Nat.zero_add, hk]; rfl)
        subst hx
        obtain ⟨w, w1, w2⟩ := ev'.get j _ e1
        have := rep_labW p2 hra w2
        subst this
        exact ⟨w, w1, q2, .inr ⟨ho, q1⟩⟩
      | false =>
        rw [hk, cond_false] at h
        cases x with
        | none => simp at h
        | some t =>
          cases t with
          | val d =>
            simp only [keepS] at h
            by_cases ht : treeD d = true
            · rw [if_pos ht] at h
              cases h
              obtain ⟨w, w1, w2⟩ := ev'.get j _ e1
              exact ⟨w, w1, Rep.tree ev gr (priv_iv ev gr) w2 ht, .inl ⟨_, rfl⟩⟩
            · rw [if_neg ht] at h; cases h
          | own xs => simp at h
          | ownd xs ys => simp at h
          | tre T => simp at h
  refine ⟨by rw [unlabF_len]; exact ev'.len, fun j s h => ?_, fun i j s t v w a hij h1 h2 h3 h4 h5 h6 => ?_⟩
  · obtain ⟨v, q1, q2, _⟩ := key h
    exact ⟨v, q1, q2⟩
  · obtain ⟨v1, q1, _, q3⟩ := key h1
    obtain ⟨w1, p1, _, p3⟩ := key h2
    rw [q1] at h3
    cases h3
    rw [p1] at h4
    cases h4
    rcases q3 with ⟨d, rfl⟩ | ⟨q3, q4⟩
    · exact h5
    · rcases p3 with ⟨d, rfl⟩ | ⟨p3, p4⟩
      · exact h6
      · exact ev.apart i j s t v w a hij q3 p3 q4 p4 h5 h6
theorem blk_lift {t : TS} (ks : List Nat) (q : RdS κ f t) : RdS κ (sBlk ks f) t := fun P0 G0 H0 P G H σ env D E gr g ev hf ok => by
  let as : Nat → Addr := fun j => match σ[j]? with | some (some (.ref a)) => a | _ => 0
  have ha : ∀ j a, σ[j]? = some (some (.ref a)) → as j = a := fun j a h => by show (match σ[j]? with | some (some (.ref a)) => a | _ => 0) = a; rw [h]
  have out : ∀ {n : SEnv → Nat → Prop} {e : L2.St → Hp → Prop}, OkN κ P0 G0 H0 n e → OkN κ P (lent env σ G H) H (fun e m => sameF ks 0 e (labF as ks 0 env) ∧ n (unlabF ks env 0 e) m) e := fun h P' G' H' σ' e gr' g' ev' hq => by
    obtain ⟨gr2, g2⟩ := back_grow ev g gr' g'
    exact h P' _ H' σ' _ (gr.trans gr2) g2 (ev.behind g ha gr' g' ev' hq.1) hq.2
  refine q P (lent env σ G H) H P (lent env σ G H) H σ _ _ E .refl (lent_good ev g) (ev.lab ks as ha) (hf as) ⟨out ok.nx, ?_, out ok.bk, out ok.ct⟩
  intro v s P' G' H' σ' e gr' g' ev' r sp hq
  obtain ⟨gr2, g2⟩ := back_grow ev g gr' g'
  obtain ⟨hs, ⟨d, rfl, hd⟩, hq⟩ := hq
  exact ok.rt v (.val d) P' _ H' σ' _ (gr.trans gr2) g2 (ev.behind g ha gr' g' ev' hs) (Rep.tree ev gr' (priv_iv ev gr') r hd) (fun _ h => h.elim) hq
theorem ds_blkE (ks : List Nat) (h : DS κ X b s1) : DS κ X b (sBlk ks s1) := by
  obtain ⟨t1, p1, q1⟩ := h
  exact ⟨_, p1, blk_lift ks q1⟩
end
end DL
namespace DL
open PySem PySem.Spec PyProof.Rows L2
section
variable {κ : Kit} {X : Cx} {P : Wd} {G H : Hp} {σ : L2.St} {v : V} {d : D} {iv : IV} {x : Str} {pos p : Pos} {tg : Expr}
theorem rep_un (r : Rep κ G iv v d) : Rep κ G iv v (unD d) := by
  unfold unD
  split
  · cases r with
    | ati r => cases r with
      | cons r _ => exact r
  · exact r
@[simp] def fVarU (i : Nat) : FE := fun env n Q => ∃ d, env[i]? = some (some d) ∧ Q (unD d) n
@[simp] def iSeqNU (i : Nat) : FA := fun env n Q => ∃ d, env[i]? = some (some d) ∧ gSeqN (unD d) n Q
theorem vU (i : Nat) (hN : X.N[i]? = some x := by rfl) (hv : Vis X.env.scope x := by first | exact Or.inl rfl | exact Or.inr (Or.inl rfl) | exact Or.inr (Or.inr rfl)) (hd : (x == ("__debug__" : Str)) = false := by decide) (hcd : (x == ("__classdict__" : Str)) = false := by decide) : DE κ X (.Name x pos) (fVarU i) :=
  ⟨_, pe_var hN hv hd hcd, fun P G H σ env Q R g ev ⟨d, h1, h2⟩ hR => by
    obtain ⟨v, q1, q2⟩ := ev.get i d h1
    exact ⟨v, q1, hR v P G H _ .refl g (rep_un q2) h2⟩⟩
end
end DL
namespace DL
open PySem PySem.Spec PyProof.Rows L2
/-- new, and nothing within that could be lent -/
@[simp] def safeS : Sl → Bool
  | .val d => treeD d | .own xs => xs.all treeD | .ownd _ vs => vs.all treeD | .tre _ => false
section
variable {κ : Kit} {X : Cx} {H0 : Hp} {P : Wd} {G H : Hp} {σ : L2.St} {env : SEnv} {e : Expr} {es : List Expr} {f : FE} {fx : FX} {te : TE} {pos p p2 : Pos}
/-- x = e, whatever new e tells out of own things -/
@[simp] def sAsgXV (i : Nat) (fx : FX) : FS := fun D env n => fx (view env) n fun s m => safeS s = true ∧ D.nx (env.set i (some s)) m
/-- x = e, kept as a value -/
@[simp] def sAsgFXV (i : Nat) (fx : FX) : FS := fun D env n => fx (view env) n fun s m => safeS s = true ∧ D.nx (env.set i (some (.val s.view))) m
@[simp] def xCl (g : List D → Nat → (Sl → Nat → Prop) → Prop) (far : FA) : FX := fun env n Q => far env n fun ds m => g ds m Q
end
end DL
namespace L2
open PySem PySem.Spec PyProof.Rows
end L2
namespace DL
open PySem PySem.Spec PyProof.Rows L2
/-- x == {} -/
def gEq0 (x y : D) (n : Nat) (Q : D → Nat → Prop) : Prop := ∃ ks vs, x = .dct ks vs ∧ y = .dct [] [] ∧ Q (.bl (decide (ks = []))) n
@[simp] theorem w_eq0 {ks vs : List D} {n : Nat} {Q : D → Nat → Prop} : gEq0 (.dct ks vs) (.dct [] []) n Q = Q (.bl (decide (ks = []))) n := by
  refine propext ⟨?_, fun h => ⟨ks, vs, rfl, rfl, h⟩⟩
  rintro ⟨ks', vs', e, _, h⟩
  cases e; exact h
end DL
namespace L2
open PySem PySem.Spec PyProof.Rows
end L2
namespace DL
open PySem PySem.Spec PyProof.Rows L2
section
variable {κ : Kit} {X : Cx} {a b c e : Expr} {fa fb fc fe : FE} {pos : Pos}
@[simp] def fChain3 (g g' g'' : D → D → Nat → (D → Nat → Prop) → Prop) (fa fb fc fe : FE) : FE := fun env n Q => fa env n fun x n1 => fb env n1 fun y n2 => g x y n2 fun z n3 => gB z n3 fun k n3 => (if k = true then fc env n3 fun w n4 => g' y w n4 fun z' n5 => gB z' n5 fun k' n5 => (if k' = true then fe env n5 fun w' n6 => g'' w w' n6 Q else Q (.bl false) n5) else Q (.bl false) n3)
end
end DL
namespace DL
open PySem PySem.Spec PyProof.Rows L2
section
variable {κ : Kit} {X : Cx} {a b c e : Expr} {fa fb fc fe : FE} {pos : Pos}
def gMulL (x y : D) (n : Nat) (Q : D → Nat → Prop) : Prop := match x, y with
  | .lst xs, .int k => (-(2 ^ 63) ≤ k ∧ k < 2 ^ 63 ∧ xs.length * k.toNat ≤ 16777216) ∧ Q (.lst (List.replicate k.toNat xs).flatten) n
  | _, _ => False
@[simp] theorem w_mulL {xs : List D} {k : Int} {n : Nat} {Q : D → Nat → Prop} : gMulL (.lst xs) (.int k) n Q = ((-(2 ^ 63) ≤ k ∧ k < 2 ^ 63 ∧ xs.length * k.toNat ≤ 16777216) ∧ Q (.lst (List.replicate k.toNat xs).flatten) n) := rfl
theorem reps_rep {G : Hp} {iv : IV} {vs : List V} {ds : List D} (r : Reps κ G iv vs ds) : ∀ k : Nat, Reps κ G iv (List.replicate k vs).flatten (List.replicate k ds).flatten
  | 0 => by simpa using .nil
  | k + 1 => by
    rw [List.replicate_succ, List.flatten_cons, List.replicate_succ, List.flatten_cons]
    exact r.append (reps_rep r k)
theorem e_mulL (ha : DE κ X a fa) (hb : DE κ X b fb) : DE κ X (.BinOp a .Mult b pos) (f2 gMulL fa fb) := by
  have hl : sizeLine = 16777216 := sizeLine_eq
  refine de_op (r := rRep) ?_ op_rep ha hb
  intro P G H x y dx dy Q R g rx ry hf hR
  cases rx <;> cases ry <;> try (exact False.elim hf)
  rename_i a1 vs1 xs1 h1 z1 r1 k
  obtain ⟨⟨k1, k2, k3⟩, hf⟩ := hf
  have hz : vs1.length * k.toNat ≤ sizeLine := by rw [r1.length, hl]; exact k3
  refine ⟨_, _, _, rfl, rfl, g.gx h1 rfl, k1, k2, hz, fun p hp => ?_⟩
  exact hR _ P (upd G p (.lst _)) _ _ ((Grow.new hp).frz hp (g.gnone hp)) ((g.new hp).frz (g.gnone hp) (g.inone hp) upd_same) (.lst upd_same (by rw [List.length_flatten]; simp; rw [Nat.mul_comm]; exact hz) (reps_frz (g.gnone hp) (reps_rep r1 _))) hf
end
end DL
namespace DL
open PySem PySem.Spec PyProof.Rows L2
section
variable {κ : Kit} {X : Cx} {H0 : Hp} {P : Wd} {G H : Hp} {σ : L2.St} {env : SEnv} {pos : Pos}
def clrT : OT → OT
  | .lst b _ => .lst b []
  | t => t
def isLT : OT → Bool
  | .lst _ _ => true
  | _ => false
@[simp] def sForTclr (i j : Nat) : FS := fun D env n => i ≠ j ∧ j < env.length ∧ ∃ a ts, env[i]? = some (some (.tre (.lst a ts))) ∧ ts.all isLT = true ∧ D.nx ((env.set i (some (.tre (.lst a (ts.map clrT))))).set j none) n
end
end DL
namespace DL
open PySem PySem.Spec PyProof.Rows L2
section
variable {prog : Program} {w : World} {A : Around} {E : Value → Shared → Prop} {s : Shared} {R : Result → Shared → Prop}
theorem add_lists0 {l b : Addr} {vs ws : List Value} {Q : Value → Shared → Prop} (hl : s.heap.IsList l vs.toArray) (hb : s.heap.IsList b ws.toArray)
    (h : Q (.ref s.heap.objs.size) { s with heap := s.heap.push { cls := .type "list", data := .seq (vs ++ ws).toArray } })
    (hsz : vs.length + ws.length ≤ sizeLine) :
    wpAny (model prog w) A (binaryOp .Add (.ref l) (.ref b)) Q E s := by
  obtain ⟨⟨cls, dd, data, sl⟩, ho, hc, n, hd⟩ := id hl
  obtain ⟨⟨cls2, dd2, data2, sl2⟩, ho2, hc2, n2, hd2⟩ := id hb
  simp only at hc hd hc2 hd2
  subst hc hd hc2 hd2
  have e : vs.toArray ++ ws.toArray = (vs ++ ws).toArray := by simp
  refine concat_meets ⟨_, ho, rfl⟩ ⟨_, ho2, rfl⟩ noFill_list_add seq_list_add PySem.F.slot_list_add PySem.F.entry_list_add (PySem.F.args_list_add_2 _ _) (list_addW l b vs.toArray ws.toArray n n2 dd dd2 sl sl2 (by simpa using hsz)) ⟨ho, ho2, ?_⟩
  rw [e]
  exact h
theorem sum_loopL {I ax S : Addr} {h0 : Heap} {items : Array Value} {yss : List (List Value)} (hh : A.in1.handled = none) (hI : h0.objs.size ≤ I) (hS : h0.objs.size ≤ S) (hIS : I ≠ S) (hax : ∃ o, h0.get? ax = some o)
    (hit : ∀ (i : Nat) (ys : List Value), yss[i]? = some ys → ∃ b : Addr, items[i]? = some (Value.ref b) ∧ h0.IsList b ys.toArray) (hn : items.size = yss.length) :
    ∀ (k i : Nat) (s : Shared) (r : Addr) (acc : List Value) (c : Nat), yss.length - i = k → i ≤ yss.length → s.heap.IsListIter I ax i → s.heap.IsList ax items → s.heap.get? S = some { cls := .type "list", dict := none, data := .seq #[.ref r] c, slots := #[] } →
      s.heap.IsList r acc.toArray → r ≠ I → r ≠ S → (∀ b o, h0.get? b = some o → s.heap.get? b = some o) → h0.objs.size ≤ s.heap.objs.size → acc.length + (yss.drop i).flatten.length ≤ sizeLine →
      (∀ h' tk r', (∀ b o, h0.get? b = some o → h'.get? b = some o) → h'.IsList r' (acc ++ (yss.drop i).flatten).toArray → ((i = yss.length ∧ r' = r ∧ ∀ o, s.heap.get? r = some o → h'.get? r = some o) ∨ (i < yss.length ∧ h0.objs.size ≤ r' ∧ ∃ cc, h'.get? r' = some { cls := .type "list", dict := none, data := .seq (acc ++ (yss.drop i).flatten).toArray cc, slots := #[] })) → R (.ok (.ret (.ref r'))) { s with heap := h', toks := tk }) →
      codeAny (model prog w) A (.builtin "sum.loop" ⟨[.ref I, .ref S, rawInt 2, rawInt 0], []⟩) R s := by
  obtain ⟨oax, hoax⟩ := hax
  have lax : ax < h0.objs.size := Heap.lt_size hoax
  have haxI : ax ≠ I := Nat.ne_of_lt (Nat.lt_of_lt_of_le lax hI)
  have haxS : ax ≠ S := Nat.ne_of_lt (Nat.lt_of_lt_of_le lax hS)
  intro k
  induction k with
  | zero =>
    intro i s r acc c hk hi hst hl hSs hr rI rS hkp hb hz hR
    have hin : i = yss.length := by omega
    refine codeAny_builtin F.entry_sum_loop ?_
    rw [Around.under_plainId F.plain_sum_loop _]
    show wpAny _ A.in1 (seqItems? (.ref S) >>= _) _ _ s
    refine wpAny_bind (wpAny_seqItems hSs rfl ?_)
    show wpAny _ A.in1 (tryCatch (pyNext (.ref I)) _ >>= _) _ _ s
    have hend : items[i]? = none := by rw [Array.getElem?_eq_none_iff]; omega
    refine wpAny_bind (wpAny_tryCatch (wpAny_pyNext_list_end hh hst hl hend fun h' he' => ?_))
    have e0 : (yss.drop i).flatten = [] := by rw [hin, List.drop_length]; rfl
    refine wpAny_pure (hR h' s.toks r (fun b o e => he' b o (Nat.ne_of_lt (Nat.lt_of_lt_of_le (Heap.lt_size e) hI)) (hkp b o e)) ?_ (.inl ⟨hin, rfl, fun o e => he' r o rI e⟩))
    rw [e0, List.append_nil]
    exact hr.at fun o e => he' r o rI e
  | succ k ih =>
    intro i s r acc c hk hi hst hl hSs hr rI rS hkp hb hz hR
    have hlt : i < yss.length := by omega
    obtain ⟨ys, hys⟩ : ∃ ys, yss[i]? = some ys := ⟨yss[i], List.getElem?_eq_getElem hlt⟩
    obtain ⟨b, hib, hlb⟩ := hit i ys hys
    have lb : b < h0.objs.size := by obtain ⟨_, e, _⟩ := hlb; exact Heap.lt_size e
    refine codeAny_builtin F.entry_sum_loop ?_
    rw [Around.under_plainId F.plain_sum_loop _]
    show wpAny _ A.in1 (seqItems? (.ref S) >>= _) _ _ s
    refine wpAny_bind (wpAny_seqItems hSs rfl ?_)
    show wpAny _ A.in1 (tryCatch (pyNext (.ref I)) _ >>= _) _ _ s
    refine wpAny_bind (wpAny_tryCatch (wpAny_pyNext_list_item hst hl hib fun h' hit' hs' => ?_))
    have hk' := hs'.extBut
    have hS' := hk' S _ (Ne.symm hIS) hSs
    have hr' : h'.IsList r acc.toArray := hr.at fun o e => hk' r o rI e
    have hlb' : h'.IsList b ys.toArray := (hlb.at fun o e => hkp b o e).at fun o e => hk' b o (Nat.ne_of_lt (Nat.lt_of_lt_of_le lb hI)) e
    have hl' : h'.IsList ax items := hl.at fun o e => hk' ax o haxI e
    have hsz' : h'.objs.size = s.heap.objs.size := hs'.1
    have edrop : yss.drop i = ys :: yss.drop (i + 1) := by
      rw [List.drop_eq_getElem_cons hlt]
      congr 1
      rw [List.getElem?_eq_getElem hlt] at hys
      exact Option.some.inj hys
    have efl : (yss.drop i).flatten = ys ++ (yss.drop (i + 1)).flatten := by rw [edrop, List.flatten_cons]
    rw [efl, List.length_append] at hz
    show wpAny _ A.in1 ((holding [Value.ref b] (binaryOp .Add (.ref r) (.ref b))).attempt >>= _) _ _ _
    refine wpAny_bind (wpAny_attempt (wpAny_holding (add_lists0 hr' hlb' ?_ (by omega))))
    show wpAny _ A.in1 (updateSeq S (fun _ => #[Value.ref h'.objs.size]) >>= _) _ _ _
    have lS : S < h'.objs.size := Heap.lt_size hS'
    have hS1 : (h'.push { cls := .type "list", data := .seq (acc ++ ys).toArray }).get? S = some { cls := .type "list", dict := none, data := .seq #[.ref r] c, slots := #[] } := Heap.get?_push_of_some _ hS'
    refine wpAny_bind (wpAny_updateSeq hS1 rfl ?_)
    have hS2 := Heap.get?_update_self (Obj.mapSeq fun _ => #[Value.ref h'.objs.size]) hS1 rfl
    refine wpAny_bind (wpAny_letGo ?_)
    refine wpAny_bind ?_
    refine wpAny_updateSeq hS2 rfl ?_
    have hS3 := Heap.get?_update_self (Obj.mapSeq fun _ => #[Value.ref h'.objs.size]) hS2 rfl
    have keep : ∀ b o, b ≠ S → h'.get? b = some o → (((h'.push { cls := .type "list", data := .seq (acc ++ ys).toArray }).update S (Obj.mapSeq fun _ => #[Value.ref h'.objs.size])).update S (Obj.mapSeq fun _ => #[Value.ref h'.objs.size])).get? b = some o :=
      fun b o hb e => (Heap.get?_update_other _ _ (Ne.symm hb)).trans ((Heap.get?_update_other _ _ (Ne.symm hb)).trans (Heap.get?_push_of_some _ e))
    have hnew : (((h'.push { cls := .type "list", data := .seq (acc ++ ys).toArray }).update S (Obj.mapSeq fun _ => #[Value.ref h'.objs.size])).update S (Obj.mapSeq fun _ => #[Value.ref h'.objs.size])).get? h'.objs.size = some { cls := .type "list", data := .seq (acc ++ ys).toArray } :=
      (Heap.get?_update_other _ _ (Nat.ne_of_lt lS)).trans ((Heap.get?_update_other _ _ (Nat.ne_of_lt lS)).trans (Heap.get?_push_size _ rfl))
    have sz3 : (((h'.push { cls := .type "list", data := .seq (acc ++ ys).toArray }).update S (Obj.mapSeq fun _ => #[Value.ref h'.objs.size])).update S (Obj.mapSeq fun _ => #[Value.ref h'.objs.size])).objs.size = h'.objs.size + 1 := ((Heap.SameBut.update _ _ _).1).trans (((Heap.SameBut.update _ _ _).1).trans (Heap.size_push ..))
    have lI : I < h'.objs.size := by obtain ⟨_, e, _⟩ := hit'; exact Heap.lt_size e
    refine wpAny_pure ⟨plainId_quiet F.plain_sum_loop _, ih (i + 1) _ h'.objs.size (acc ++ ys) _ (by omega) hlt (hit'.at fun o e => keep I o hIS e) (hl'.at fun o e => keep ax o haxS e) hS3 ⟨_, hnew, rfl, _, rfl⟩ (Nat.ne_of_gt lI) (Nat.ne_of_gt lS) (fun b o e => keep b o (Nat.ne_of_lt (Nat.lt_of_lt_of_le (Heap.lt_size e) hS)) (hk' b o (Nat.ne_of_lt (Nat.lt_of_lt_of_le (Heap.lt_size e) hI)) (hkp b o e))) ?_ ?_ ?_⟩
    · show h0.objs.size ≤ (((h'.push { cls := .type "list", data := .seq (acc ++ ys).toArray }).update S (Obj.mapSeq fun _ => #[Value.ref h'.objs.size])).update S (Obj.mapSeq fun _ => #[Value.ref h'.objs.size])).objs.size
      rw [sz3, hsz']; omega
    · rw [List.length_append]; omega
    · intro h'' tk r' q1 q2 q3
      rw [List.append_assoc, ← efl] at q2
      refine hR h'' tk r' q1 q2 (.inr ⟨hlt, ?_⟩)
      rcases q3 with ⟨q3, rfl, q6⟩ | ⟨_, q4, cc, q5⟩
      · have e9 : acc ++ (yss.drop i).flatten = acc ++ ys := by rw [efl, q3, List.drop_length, List.flatten_nil, List.append_nil]
        rw [e9]
        exact ⟨by rw [hsz']; exact hb, _, q6 _ hnew⟩
      · refine ⟨q4, cc, ?_⟩
        rw [List.append_assoc, ← efl] at q5
        exact q5
theorem sub_list_str : isSubtype (.type "list") (.type "str") = pure false := by rw [isSubtype_type]; kernel_rfl
theorem sub_list_bytes : isSubtype (.type "list") (.type "bytes") = pure false := by rw [isSubtype_type]; kernel_rfl
theorem sub_list_bytearray : isSubtype (.type "list") (.type "bytearray") = pure false := by rw [isSubtype_type]; kernel_rfl
theorem args_sum2 (a b : Value) : argsOk "sum" ⟨[a, b], []⟩ := by unfold argsOk; kernel_rfl
theorem call_sumL {l b : Addr} {items : Array Value} {yss : List (List Value)} {ys : List Value} {Q : Value → Shared → Prop} (hh : A.in1.handled = none) (hl : s.heap.IsList l items) (hb : s.heap.IsList b ys.toArray)
    (hit : ∀ (i : Nat) (zs : List Value), yss[i]? = some zs → ∃ b : Addr, items[i]? = some (Value.ref b) ∧ s.heap.IsList b zs.toArray) (hn : items.size = yss.length) (hz : ys.length + yss.flatten.length ≤ sizeLine)
    (hQ0 : yss = [] → ∀ h' tk, (∀ b o, s.heap.get? b = some o → h'.get? b = some o) → Q (.ref b) { s with heap := h', toks := tk })
    (hQ1 : ∀ h' tk r', (∀ b o, s.heap.get? b = some o → h'.get? b = some o) → s.heap.objs.size ≤ r' → (∃ cc, h'.get? r' = some { cls := .type "list", dict := none, data := .seq (ys ++ yss.flatten).toArray cc, slots := #[] }) → Q (.ref r') { s with heap := h', toks := tk }) :
    wpAny (model prog w) A (call (.builtin "sum") [.ref l, .ref b]) Q E s := by
  refine call_function_tree F.kind_sum F.plain_sum F.entry_sum (args_sum2 _ _) ?_
  unfold Builtin.«sum»
  simp only [List.length_cons, List.length_nil]
  rw [if_neg (by decide)]
  refine wpAny_bind (wpAny_of_eq (show Builtin.Builtins.bindParams "sum" ["start"] 0 ⟨[.ref b], []⟩ = pure [some (.ref b)] from rfl) ?_)
  refine wpAny_bind (wpAny_pyIter_list hl ?_)
  have hIt : (s.heap.push { cls := .type "list_iterator", data := .fields #[.ref l, .int 0 0] }).IsListIter s.heap.objs.size l 0 := ⟨_, Heap.get?_push_size _ rfl, rfl, rfl⟩
  have k1 : ∀ c o, s.heap.get? c = some o → (s.heap.push { cls := .type "list_iterator", data := .fields #[.ref l, .int 0 0] }).get? c = some o := fun c o e => Heap.get?_push_of_some _ e
  have z1 : (s.heap.push { cls := .type "list_iterator", data := .fields #[.ref l, .int 0 0] }).objs.size = s.heap.objs.size + 1 := Heap.size_push ..
  generalize s.heap.push { cls := .type "list_iterator", data := .fields #[.ref l, .int 0 0] } = h1 at *
  have hb1 : h1.IsList b ys.toArray := hb.at fun o e => k1 b o e
  have hT : ({ s with heap := h1 } : Shared).TypeIs (.ref b) "list" := hb1.typeIs
  refine wpAny_bind (wpAny_pure ?_)
  simp only [List.forIn_cons, List.forIn_nil]
  refine wpAny_bind (wpAny_bind (wpAny_bind (wpAny_isInstance (T := "list") (b := false) hT sub_list_str ?_)))
  simp only [Bool.false_eq_true, if_false]
  refine wpAny_pure (wpAny_bind (wpAny_bind (wpAny_isInstance (T := "list") (b := false) hT sub_list_bytes ?_)))
  simp only [Bool.false_eq_true, if_false]
  refine wpAny_pure (wpAny_bind (wpAny_bind (wpAny_isInstance (T := "list") (b := false) hT sub_list_bytearray ?_)))
  simp only [Bool.false_eq_true, if_false]
  refine wpAny_pure (wpAny_pure ?_)
  refine wpAny_bind (wpAny_newObj_type ?_)
  have hS : (h1.push { cls := .type "list", data := .seq #[.ref b] }).get? h1.objs.size = some { cls := .type "list", dict := none, data := .seq #[.ref b] 0, slots := #[] } := Heap.get?_push_size _ rfl
  have k2 : ∀ c o, s.heap.get? c = some o → (h1.push { cls := .type "list", data := .seq #[.ref b] }).get? c = some o := fun c o e => Heap.get?_push_of_some _ (k1 c o e)
  have lb : b < s.heap.objs.size := by obtain ⟨_, e, _⟩ := hb; exact Heap.lt_size e
  have hax : ∃ o, s.heap.get? l = some o := by obtain ⟨o, e, _⟩ := hl; exact ⟨o, e⟩
  have z2 : (h1.push { cls := .type "list", data := .seq #[.ref b] }).objs.size = h1.objs.size + 1 := Heap.size_push ..
  refine wpAny_pure ⟨plainId_quiet F.plain_sum_loop _, sum_loopL (I := s.heap.objs.size) (ax := l) (S := h1.objs.size) (h0 := s.heap) (items := items) (yss := yss) hh (Nat.le_refl _) (by rw [z1]; exact Nat.le_succ _) (by rw [z1]; exact Nat.ne_of_lt (Nat.lt_succ_self _)) hax hit hn _ 0 _ b ys 0 (Nat.sub_zero _) (Nat.zero_le _) (hIt.at fun o e => Heap.get?_push_of_some _ e) (hl.at fun o e => k2 l o e) hS (hb.at fun o e => k2 b o e) (Nat.ne_of_lt lb) (by rw [z1]; exact Nat.ne_of_lt (Nat.lt_succ_of_lt lb)) k2 ?_ (by rw [List.drop_zero]; exact hz) fun h' tk r' q1 q2 q3 => ?_⟩
  · show s.heap.objs.size ≤ (h1.push { cls := .type "list", data := .seq #[.ref b] }).objs.size
    rw [z2, z1]; omega
  · rcases q3 with ⟨q3, rfl, _⟩ | ⟨q3, q4, q5⟩
    · exact hQ0 (List.eq_nil_of_length_eq_zero q3.symm) h' tk q1
    · rw [List.drop_zero] at q5
      exact hQ1 h' tk r' q1 q4 q5
end
end DL
namespace DL
open PySem PySem.Spec PyProof.Rows L2
section
variable {κ : Kit} {X : Cx} {e e2 : Expr} {es : List Expr} {far : FA} {pos p : Pos}
def rSumL (K : PySem.W.Frag) : List V → Hp → VK → Prop := fun vs H Q => ∃ (a b : Addr) (as : List Addr) (xss : List (List V)) (ys : List V), vs = [V.ref a, V.ref b] ∧ SqL K H a (as.map V.ref) ∧ SqL K H b ys ∧ as.length = xss.length ∧
  (∀ (i : Nat) (a' : Addr) (xs : List V), as[i]? = some a' → xss[i]? = some xs → SqL K H a' xs) ∧ ys.length + xss.flatten.length ≤ sizeLine ∧ (xss = [] → Q (.ref b) H) ∧ ∀ q : Addr, H q = none → Q (.ref q) (upd H q (.lst (ys ++ xss.flatten)))
theorem vals_refs : ∀ {as : List Addr} {us : List Value}, Vals (as.map V.ref) us → us = as.map Value.ref
  | [], _, r => by cases r; rfl
  | a :: as, _, r => by
    cases r with
    | cons r1 r2 =>
      cases r1
      rw [vals_refs r2]; rfl
theorem cr_sumL (hc : X.calm = true) : CallR X (.builtin "sum") (rSumL X.K) := by
  intro pins s σ H vs us Q I r h
  obtain ⟨a, b, as, xss, ys, rfl, h1, h2, hl, h3, hz, q0, q1⟩ := h
  obtain ⟨its1, rv1, hl1, _⟩ := I.list h1
  obtain ⟨its2, rv2, hl2, _⟩ := I.list h2
  have e1 := vals_refs rv1
  cases r with
  | cons ra r => cases r with
    | cons rb r =>
      cases r
      cases ra
      cases rb
      have many : ∀ (as : List Addr) (xss : List (List V)), as.length = xss.length → (∀ (i : Nat) (a' : Addr) (xs : List V), as[i]? = some a' → xss[i]? = some xs → SqL X.K H a' xs) → ∃ yss : List (List Value), yss.length = as.length ∧ Vals xss.flatten yss.flatten ∧ ∀ (i : Nat) (zs : List Value), yss[i]? = some zs → ∃ c : Addr, (as.map Value.ref)[i]? = some (Value.ref c) ∧ s.heap.IsList c zs.toArray := by
        intro as
        induction as with
        | nil =>
          intro xss hl _
          have : xss = [] := List.eq_nil_of_length_eq_zero hl.symm
          subst this
          exact ⟨[], rfl, .nil, fun i zs h => by simp at h⟩
        | cons c as ih =>
          intro xss hl h
          cases xss with
          | nil => simp at hl
          | cons xs xss =>
            obtain ⟨yss, y1, y2, y3⟩ := ih xss (by simpa using hl) fun i a' xs' ha hx => h (i + 1) a' xs' (by simpa using ha) (by simpa using hx)
            obtain ⟨its, rv, hl0, _⟩ := I.list (h 0 c xs rfl rfl)
            refine ⟨its :: yss, by simp [y1], by rw [List.flatten_cons, List.flatten_cons]; exact rv.append y2, fun i zs hz => ?_⟩
            cases i with
            | zero =>
              simp at hz
              subst hz
              exact ⟨c, rfl, hl0.isList⟩
            | succ i =>
              obtain ⟨c', e, hl'⟩ := y3 i zs (by simpa using hz)
              exact ⟨c', by simpa using e, hl'⟩
      obtain ⟨yss, y1, y2, y3⟩ := many as xss hl h3
      subst e1
      have l1 := rv2.length
      have l2 := y2.length
      refine call_sumL (items := (as.map Value.ref).toArray) (yss := yss) (ys := its2) (I.ok.hd hc) hl1.isList hl2.isList (fun i zs hz => ?_) (by simp [y1]) (by rw [← l1, ← l2]; exact hz) (fun h0 h' tk hk => ?_) fun h' tk r' hk hr hnew => ?_
      · obtain ⟨c, e, hl'⟩ := y3 i zs hz
        exact ⟨c, by simpa using e, hl'⟩
      · refine ⟨.ref b, H, I.kept hk, rfl, q0 ?_⟩
        rw [h0] at y1
        rw [← y1] at hl
        exact List.eq_nil_of_length_eq_zero hl.symm
      · refine ⟨.ref r', upd H r' (.lst (ys ++ xss.flatten)), I.laid (t' := tk) hk hr ⟨by rw [List.length_append]; exact hz, its2 ++ yss.flatten, ?_⟩, rfl, q1 r' (I.hok.fresh hr)⟩
        obtain ⟨cc, hcc⟩ := hnew
        exact ⟨cc, rv2.append y2, hcc⟩
/-- sum(lists, a list) -/
@[simp] def gSumL (ds : List D) (n : Nat) (Q : D → Nat → Prop) : Prop := ∃ (xss : List (List D)) (ys : List D), ds = [.lst (xss.map D.lst), .lst ys] ∧ ys.length + xss.flatten.length ≤ 16777216 ∧ Q (.lst (ys ++ xss.flatten)) n
theorem reps_lsts {G : Hp} {iv : IV} : ∀ {xss : List (List D)} {vs : List V}, Reps κ G iv vs (xss.map D.lst) → ∃ (as : List Addr) (vss : List (List V)), vs = as.map V.ref ∧ as.length = vss.length ∧ vss.length = xss.length ∧ (∀ (i : Nat) (a' : Addr) (xs : List V), as[i]? = some a' → vss[i]? = some xs → G a' = some (.lst xs)) ∧ Reps κ G iv vss.flatten xss.flatten
  | [], _, .nil => ⟨[], [], rfl, rfl, rfl, fun _ _ _ h => by simp at h, .nil⟩
  | xs :: xss, _, .cons r1 r2 => by
    obtain ⟨as, vss, rfl, h1, h2, h3, h4⟩ := reps_lsts r2
    cases r1 with
    | @lst p vs' _ hg hz rr =>
      refine ⟨p :: as, vs' :: vss, rfl, by simp [h1], by simp [h2], fun i a' ys ha hx => ?_, by rw [List.flatten_cons, List.flatten_cons]; exact rr.append h4⟩
      cases i with
      | zero => simp at ha hx; subst ha hx; exact hg
      | succ i => exact h3 i a' ys (by simpa using ha) (by simpa using hx)
theorem de_sumL {x : Str} {p : Pos} (hc : X.calm = true) (hx : x = "sum") (hg : Gl X x) (hm : X.mg x = none) (ha : DA κ X (e :: es) far)
    (he : starEach (e :: es) X.env = (false, eval e X.env) :: starEach es X.env := by rfl) (hpl : (backTo pos (starEach es X.env)).any (·.1) = false := by rfl) : DE κ X (.Call (.Name x p) (e :: es) [] pos) (fCl gSumL far) := by
  subst hx
  refine de_callB ?_ (cr_sumL hc) hg hm (by decide +kernel) ha (by decide) (by decide) he hpl
  intro P G H vs ds Q R g r hf hR
  have hl : sizeLine = 16777216 := sizeLine_eq
  obtain ⟨xss, ys, rfl, hz, hf⟩ := hf
  obtain ⟨v, u, rfl, rv, ru⟩ := val2 r
  cases rv with
  | @lst a vs1 _ h1 z1 r1 => cases ru with
    | @lst b vs2 _ h2 z2 r2 =>
      obtain ⟨as, vss, rfl, a1, a2, a3, a4⟩ := reps_lsts r1
      have l4 := a4.length
      have l2 := r2.length
      refine ⟨a, b, as, vss, vs2, rfl, SqL.of (g.gx h1 rfl), SqL.of (g.gx h2 rfl), a1, fun i a' xs ha hx => SqL.of (g.gx (a3 i a' xs ha hx) rfl), by rw [l2, l4, hl]; exact hz, fun e0 => ?_, fun q hq => ?_⟩
      · subst e0
        have : xss = [] := List.eq_nil_of_length_eq_zero (by simpa using a2.symm)
        subst this
        simp at hf
        exact hR _ P G H _ .refl g (.lst h2 z2 r2) hf
      · exact hR _ P (upd G q (.lst _)) _ _ ((Grow.new hq).frz hq (g.gnone hq)) ((g.new hq).frz (g.gnone hq) (g.inone hq) upd_same) (.lst upd_same (by rw [List.length_append, l2, l4, hl]; exact hz) (reps_frz (g.gnone hq) (r2.append a4))) hf
theorem e_sumL (hm : X.mg "sum" = none) (ha : DA κ X [e, e2] far) (hc : X.calm = true := by rfl) (hg : Gl X "sum" := by rfl) (he : starEach [e, e2] X.env = (false, eval e X.env) :: starEach [e2] X.env := by rfl) (hpl : (backTo pos (starEach [e2] X.env)).any (·.1) = false := by rfl) : DE κ X (.Call (.Name "sum" p) [e, e2] [] pos) (fCl gSumL far) := de_sumL hc rfl hg hm ha he hpl
end
end DL
namespace K30
open PySem L2 DL
/-- is_count(value, most), slots 0 value 1 most -/
def rd_is_count (F_is_whole : FC) : FS := (sRet (fAnd (fCall 1 F_is_whole [] (aCons (fVar 0) aNil)) (fAnd (f2 gGe (fVar 0) (fC (.int 0))) (fOr (f2 gIsN (fVar 1) (fC .non)) (f2 gLe (fVar 0) (fVar 1))))))
/-- is_text(value), slots 0 value 1 sign -/
def rd_is_text : FS := (sRet (fAnd (fIsi .str (fVar 0)) (fCl gAll (aCons (fFrz (oComp (iSeqN 0) (gN 1) tYesD (fChain gLe gLe (fC (.str [97])) (fVar 1) (fC (.str [122]))) [1])) aNil))))
/-- is_word(value), slots 0 value -/
def rd_is_word (F_is_text : FC) : FS := (sRet (fAnd (fCall 1 F_is_text [] (aCons (fVar 0) aNil)) (f2 gNe (fVar 0) (fC (.str [])))))
/-- is_rising(things), slots 0 things 1 at -/
def rd_is_rising : FS := (sRet (fCl gAll (aCons (fFrz (oComp (iRange2 (aCons (fC (.int 1)) (aCons (fCl gLen (aCons (fVar 0) aNil)) aNil))) (gN 1) tYesD (f2 gLt (f2 gIx (fVar 0) (f2 gSub (fVar 1) (fC (.int 1)))) (f2 gIx (fVar 0) (fVar 1))) [1])) aNil)))
/-- check_ground(value), slots 0 value -/
def rd_check_ground : FS := (sIf (tNotD (tVal (f1 gIsG (fVar 0)))) sNever sNext)
/-- is_text_of(ground, value), slots 0 ground 1 value 2 sign -/
def rd_is_text_of : FS := (sRet (fAnd (fIsi .str (fVar 1)) (fCl gAll (aCons (fFrz (oComp (iSeqN 1) (gN 2) tYesD (f2 gIn (fVar 2) (f1 gRow (fVar 0))) [2])) aNil))))
/-- is_word_of(ground, value), slots 0 ground 1 value -/
def rd_is_word_of (F_is_text_of : FC) (F_is_word : FC) : FS := (sRet (fAnd (fCall 1 F_is_word [] (aCons (fVar 1) aNil)) (fCall 2 F_is_text_of [] (aCons (fVar 0) (aCons (fVar 1) aNil)))))
/-- is_rule_in(ground, value), slots 0 ground 1 value 2 words 3 at 4 word 5 one 6 other -/
def rd_is_rule_in (F_is_count : FC) (F_is_word_of : FC) : FS := (sSeq (sIf (tOrD (tNotD (tVal (fIsi .tuple (fVar 1)))) (tOrD (tVal (f2 gNe (fCl gLen (aCons (fVar 1) aNil)) (fC (.int 2)))) (tOrD (tNotD (tVal (fIsi .list (f2 gIx (fVar 1) (fC (.int 0)))))) (tVal (f2 gEq (f2 gIx (fVar 1) (fC (.int 0))) (fFrz (oLst aNil))))))) (sRet (fC (.bl false))) sNext) (sSeq (sUnp (nT 2 (nsCons (nN 2) (nsCons (nN 3) nsNil))) (fVar 1)) (sSeq (sIf (tNotD (tVal (fCl gAll (aCons (fFrz (oComp (iSeqN 2) (gN 4) tYesD (fCall 2 F_is_word_of [] (aCons (fVar 0) (aCons (fVar 4) aNil))) [4])) aNil)))) (sRet (fC (.bl false))) sNext) (sSeq (sIf (tNotD (tVal (fCl gAll (aCons (fFrz (oComp (iZipD (aCons (fVar 2) (aCons (fSl (fVar 2) (oSo (fC (.int 1))) oNo) aNil))) (gT 2 (gsCons (gN 5) (gsCons (gN 6) gsNil))) tYesD (fAnd (f2 gLt (fVar 5) (fVar 6)) (f2 gEq (fCl gLen (aCons (fVar 5) aNil)) (fCl gLen (aCons (fVar 6) aNil)))) [5, 6])) aNil)))) (sRet (fC (.bl false))) sNext) (sRet (fAnd (fCall 2 F_is_count [.non] (aCons (fVar 3) aNil)) (f2 gLe (fVar 3) (fCl gLen (aCons (f2 gIx (fVar 2) (fC (.int 0))) aNil)))))))))
/-- check_rule(ground, rule), slots 0 ground 1 rule -/
def rd_check_rule (F_check_ground : FC) (F_is_rule_in : FC) : FS := (sSeq (sDrop (fCall 1 F_check_ground [] (aCons (fVar 0) aNil))) (sIf (tNotD (tTru (fCall 2 F_is_rule_in [] (aCons (fVar 0) (aCons (fVar 1) aNil))))) sNever sNext))
/-- signs_between(ground, text, first, behind), slots 0 ground 1 text 2 first 3 behind 4 blank 5 at -/
def rd_signs_between : FS := (sSeq (sAsg 4 (f2 gIx (f1 gRow (fVar 0)) (fC (.int 0)))) (sRet (fM1 gJoin (fC (.str [])) (fFrz (oComp (iRange2 (aCons (fVar 2) (aCons (fVar 3) aNil))) (gN 5) tYesD (fIf (tVal (fChain gLe gLt (fC (.int 0)) (fVar 5) (fCl gLen (aCons (fVar 1) aNil)))) (f2 gIx (fVar 1) (fVar 5)) (fVar 4)) [5])))))
/-- seen_at(ground, text, width, at, place), slots 0 ground 1 text 2 width 3 at 4 place -/
def rd_seen_at (F_signs_between : FC) : FS := (sRet (fCall 4 F_signs_between [] (aCons (fVar 0) (aCons (fVar 1) (aCons (f2 gSub (fVar 4) (fVar 3)) (aCons (f2 gAdd3 (f2 gSub (fVar 4) (fVar 3)) (fVar 2)) aNil))))))
/-- marked_in(ground, rule, text, first, last), slots 0 ground 1 rule 2 text 3 first 4 last 5 words 6 size 7 place 8 word -/
def rd_marked_in (F_seen_at : FC) : FS := (sSeq (sAsg 5 (fCl gDictP (aCons (fFrz (oComp (iSeq (f2 gIx (fVar 1) (fC (.int 0)))) (gN 8) tYesD (fTup (aCons (fVar 8) (aCons (fC (.bl true)) aNil))) [8])) aNil))) (sSeq (sAsg 6 (fCl gLen (aCons (f2 gIx (f2 gIx (fVar 1) (fC (.int 0))) (fC (.int 0))) aNil))) (sRetO (oComp (iRange2 (aCons (fVar 3) (aCons (f2 gAdd3 (fVar 4) (fC (.int 1))) aNil))) (gN 7) (tVal (f2 gIn (fCall 5 F_seen_at [] (aCons (fVar 0) (aCons (fVar 2) (aCons (fVar 6) (aCons (f2 gIx (fVar 1) (fC (.int 1))) (aCons (fVar 7) aNil)))))) (fVar 5))) (fVar 7) [7]))))
/-- near_words(gap, words), slots 0 gap 1 words 2 distance 3 kept 4 heads 5 other 6 one -/
def rd_near_words : FS := (sSeq (sFor (iRange2 (aCons (fC (.int 1)) (aCons (fVar 0) aNil))) (nN 2) (sSeq (sAsg 3 (fCl gMax (aCons (fC (.int 0)) (aCons (f2 gSub (fCl gLen (aCons (f2 gIx (fVar 1) (fC (.int 0))) aNil)) (fVar 2)) aNil)))) (sSeq (sDct 4) (sSeq (sFor (iSeqN 1) (nN 5) (sSetD 4 (fVar 5) (fSl (fVar 5) oNo (oSo (fVar 3))))) (sFor (iSeqN 1) (nN 6) (sIf (tVal (f2 gIn (fSl (fVar 6) (oSo (fVar 2)) oNo) (fVar 4))) (sRetV (fTup (aCons (fVar 6) (aCons (f2 gIx (fVar 4) (fSl (fVar 6) (oSo (fVar 2)) oNo)) (aCons (fVar 2) aNil))))) sNext)))))) (sRet (fC .non)))
/-- _law_dice(script, at), slots 0 script 1 at 2 seed -/
def rd__law_dice : FS := (sSeq (sAsg 2 (fCl gSum (aCons (fSl (fVar 0) (oSo (fVar 1)) (oSo (f2 gAdd3 (fVar 1) (fC (.int 1))))) aNil))) (sRetO (oLst (aCons (f2 gMod (fCl gInt (aCons (fCl gMax (aCons (f2 gSub (fVar 2) (f2 gPow (fC (.int 10)) (fC (.int 18)))) (aCons (fC (.int 0)) aNil))) aNil)) (f2 gPow (f2 gPow (fC (.int 10)) (fC (.int 60))) (fC (.int 8)))) (aCons (f2 gMod (fCl gInt (aCons (fVar 2) aNil)) (fC (.int 2147483629))) (aCons (fC (.int 0)) (aCons (fVar 1) aNil)))))))
/-- _law_mixed(seed, spin, at), slots 0 seed 1 spin 2 at 3 mixed -/
def rd__law_mixed : FS := (sSeq (sAsg 3 (f2 gAdd3 (f2 gMul (fVar 0) (fC (.int 69069))) (f2 gMul (f2 gMul (fC (.int 104729)) (fVar 1)) (fVar 1)))) (sSeq (sAsg 3 (f2 gMod (fCl gInt (aCons (f2 gAdd3 (f2 gAdd3 (fVar 3) (f2 gMul (fC (.int 7919)) (fVar 2))) (fVar 1)) aNil)) (fC (.int 2147483647)))) (sSeq (sAsg 3 (f2 gMod (fCl gInt (aCons (f2 gAdd3 (f2 gMul (fVar 3) (fVar 3)) (fC (.int 40503))) aNil)) (fC (.int 2147483629)))) (sRet (f2 gMod (fCl gInt (aCons (f2 gMul (fVar 3) (fC (.int 48271))) aNil)) (fC (.int 2147483587)))))))
/-- _law_draw(dice, many), slots 0 dice 1 many 2 found 3 piece 4 drawn -/
def rd__law_draw (F__law_mixed : FC) : FS := (sSeq (sIf (tVal (f2 gGt (fIxB 0 0) (fC (.int 0)))) (sSeq (sAsg 4 (f2 gMod (fCl gInt (aCons (fIxB 0 0) aNil)) (fVar 1))) (sSeq (sSetB 0 0 (f2 gDiv (fIxB 0 0) (fVar 1))) (sRet (fVar 4)))) sNext) (sSeq (sAsg 2 (fC (.int 0))) (sSeq (sFor (iRange1 (aCons (f2 gAdd3 (fC (.int 1)) (f2 gDiv (f1 gBits (fVar 1)) (fC (.int 28)))) aNil)) (nN 3) (sSeq (sSetB 0 2 (f2 gAdd3 (fIxB 0 2) (fC (.int 1)))) (sAsg 2 (f2 gAdd3 (f2 gMul (fVar 2) (fC (.int 2147483587))) (fCall 3 F__law_mixed [] (aCons (fIxB 0 1) (aCons (fIxB 0 2) (aCons (fIxB 0 3) aNil)))))))) (sRet (f2 gMod (fCl gInt (aCons (fVar 2) aNil)) (fVar 1))))))
/-- _law_one_of(dice, some), slots 0 dice 1 some -/
def rd__law_one_of (F__law_draw : FC) : FS := (sRet (f2 gIx (fVar 1) (fCall 2 F__law_draw [] (aCons (fVar 0) (aCons (fCl gLen (aCons (fVar 1) aNil)) aNil)))))
/-- _law_exact(mine, theirs), slots 0 mine 1 theirs 2 is_like 3 a 4 b 5 key -/
def rd__law_exact (F__law_exact : FC) : FS := (sSeq (sIf (tVal (fIsiT [.list, .tuple] (fVar 0))) (sSeq (sAsg 2 (fAnd (f2 gEq (fIsi .list (fVar 1)) (fIsi .list (fVar 0))) (f2 gEq (fIsi .tuple (fVar 1)) (fIsi .tuple (fVar 0))))) (sRet (fAnd (fVar 2) (fAnd (f2 gEq (fCl gLen (aCons (fVar 0) aNil)) (fCl gLen (aCons (fVar 1) aNil))) (fCl gAll (aCons (fFrz (oComp (iZipD (aCons (fVar 0) (aCons (fVar 1) aNil))) (gT 2 (gsCons (gN 3) (gsCons (gN 4) gsNil))) tYesD (fCall 2 F__law_exact [] (aCons (fVar 3) (aCons (fVar 4) aNil))) [3, 4])) aNil)))))) sNext) (sSeq (sIf (tVal (fIsi .dict (fVar 0))) (sSeq (sAsg 2 (fAnd (fIsi .dict (fVar 1)) (fCall 2 F__law_exact [] (aCons (fFrz (oCl oList (aCons (fVar 0) aNil))) (aCons (fFrz (oCl oList (aCons (fVar 1) aNil))) aNil))))) (sRet (fAnd (fVar 2) (fCl gAll (aCons (fFrz (oComp (iSeqN 0) (gN 5) tYesD (fCall 2 F__law_exact [] (aCons (f2 gIx (fVar 0) (fVar 5)) (aCons (f2 gIx (fVar 1) (fVar 5)) aNil))) [5])) aNil))))) sNext) (sSeq (sIf (tOrD (tVal (fIsiT [.list, .tuple, .dict] (fVar 1))) (tVal (f2 gNe (f2 gIsN (fVar 0) (fC .non)) (f2 gIsN (fVar 1) (fC .non))))) (sRet (fC (.bl false))) sNext) (sSeq (sAsg 2 (fAnd (f2 gEq (fIsi .int (fVar 0)) (fIsi .int (fVar 1))) (f2 gEq (fIsi .str (fVar 0)) (fIsi .str (fVar 1))))) (sRet (fAnd (fVar 2) (fAnd (f2 gEq (fIsi .bool (fVar 0)) (fIsi .bool (fVar 1))) (f2 gEq (fVar 0) (fVar 1)))))))))
/-- _law_dices(script, few), slots 0 script 1 few 2 at -/
def rd__law_dices (F__law_dice : FC) : FS := (sRetO (oComp (iRange1 (aCons (fCl gMax (aCons (fC (.int 1)) (aCons (fCl gMin (aCons (fVar 1) (aCons (fCl gLen (aCons (fVar 0) aNil)) aNil))) aNil))) aNil)) (gN 2) tYesD (fCall 2 F__law_dice [] (aCons (fVar 0) (aCons (fVar 2) aNil))) [2]))
/-- _law_letters(dice, many), slots 0 dice 1 many 2 found 3 spin 4 late 5 sign -/
def rd__law_letters (F__law_draw : FC) : FS := (sSeq (sAsgO 2 (oLst aNil)) (sSeq (sFor (iRange1 (aCons (fVar 1) aNil)) (nN 3) (sSeq (sAsg 4 (f2 gIx (fC (.str [97, 98, 99, 100, 101, 102, 103, 104, 105, 106, 107, 108, 109, 110, 111, 112, 113, 114, 115, 116, 117, 118, 119, 120, 121, 122])) (fCall 2 F__law_draw [] (aCons (fVar 0) (aCons (fC (.int 26)) aNil))))) (sAppV 2 (fIf (tVal (f2 gNotIn (fVar 4) (fVar 2))) (fVar 4) (f2 gIx (fFrz (oComp (iSeq (fFrz (oCl oList (aCons (fC (.str [97, 98, 99, 100, 101, 102, 103, 104, 105, 106, 107, 108, 109, 110, 111, 112, 113, 114, 115, 116, 117, 118, 119, 120, 121, 122])) aNil)))) (gN 5) (tVal (f2 gNotIn (fVar 5) (fVar 2))) (fVar 5) [5])) (fC (.int 0))))))) (sRetV (fM1 gJoin (fC (.str [])) (fFrz (oCl oSorted (aCons (fVar 2) aNil)))))))
/-- _law_text(dice, ground, most), slots 0 dice 1 ground 2 most 3 signs 4 found 5 size 6 way 7 word 8 spin -/
def rd__law_text (F__law_draw : FC) (F__law_one_of : FC) : FS := (sSeq (sPar [3, 4] (xCons (xV (fFrz (oCl oList (aCons (f2 gIx (fVar 1) (fC (.int 0))) aNil)))) (xCons (xV (fC (.str []))) xNil))) (sSeq (sAsg 5 (fCall 2 F__law_draw [] (aCons (fVar 0) (aCons (f2 gAdd3 (fVar 2) (fC (.int 1))) aNil)))) (sSeq (sWhile (tVal (f2 gLt (fCl gLen (aCons (fVar 4) aNil)) (fVar 5))) (sSeq (sAsg 6 (fCall 2 F__law_draw [] (aCons (fVar 0) (aCons (fC (.int 4)) aNil)))) (sIf (tVal (f2 gEq (fVar 6) (fC (.int 0)))) (sSeq (sAsg 7 (fM1 gJoin (fC (.str [])) (fFrz (oComp (iRange1 (aCons (f2 gAdd3 (fC (.int 1)) (fCall 2 F__law_draw [] (aCons (fVar 0) (aCons (f2 gIx (fVar 1) (fC (.int 1))) aNil)))) aNil)) (gN 8) tYesD (fCall 2 F__law_one_of [] (aCons (fVar 0) (aCons (fVar 3) aNil))) [8])))) (sAsg 4 (f2 gAdd3 (fVar 4) (f2 gMul (fVar 7) (f2 gAdd3 (fC (.int 1)) (fCall 2 F__law_draw [] (aCons (fVar 0) (aCons (fC (.int 4)) aNil)))))))) (sIf (tVal (f2 gEq (fVar 6) (fC (.int 1)))) (sAsg 4 (f2 gAdd3 (fVar 4) (f2 gMul (f2 gIx (fVar 3) (fC (.int 0))) (f2 gAdd3 (fC (.int 1)) (fCall 2 F__law_draw [] (aCons (fVar 0) (aCons (fC (.int 3)) aNil))))))) (sAsg 4 (f2 gAdd3 (fVar 4) (fM1 gJoin (fC (.str [])) (fFrz (oComp (iRange1 (aCons (f2 gAdd3 (fC (.int 1)) (fCall 2 F__law_draw [] (aCons (fVar 0) (aCons (fC (.int 4)) aNil)))) aNil)) (gN 8) tYesD (fCall 2 F__law_one_of [] (aCons (fVar 0) (aCons (fVar 3) aNil))) [8]))))))))) (sRet (fSl (fVar 4) oNo (oSo (fVar 5)))))))
/-- _law_made(ground), slots 0 ground -/
def rd__law_made : FS := (sRet (fCl gMkG (aCons (f2 gIx (fVar 0) (fC (.int 0))) (aCons (f2 gIx (fVar 0) (fC (.int 1))) aNil))))
/-- _law_other_sign(ground), slots 0 ground 1 sign -/
def rd__law_other_sign : FS := (sRet (f2 gIx (fFrz (oComp (iSeq (fFrz (oCl oList (aCons (fC (.str [122, 121, 120, 119, 118, 117, 116, 115, 114, 113, 112, 111, 110, 109, 108, 107, 106, 105, 104, 103, 102, 101, 100, 99, 98, 97])) aNil)))) (gN 1) (tVal (f2 gNotIn (fVar 1) (f2 gIx (fVar 0) (fC (.int 0))))) (fVar 1) [1])) (fC (.int 0))))
/-- _law_drawn_word(dice, ground, size), slots 0 dice 1 ground 2 size 3 spin -/
def rd__law_drawn_word (F__law_one_of : FC) : FS := (sRet (fM1 gJoin (fC (.str [])) (fFrz (oComp (iRange1 (aCons (fVar 2) aNil)) (gN 3) tYesD (fCall 2 F__law_one_of [] (aCons (fVar 0) (aCons (fFrz (oCl oList (aCons (f2 gIx (fVar 1) (fC (.int 0))) aNil))) aNil))) [3]))))
/-- _law_near_at(one, other, gap), slots 0 one 1 other 2 gap 3 space -/
def rd__law_near_at : FS := (sRetO (oComp (iRange2 (aCons (fC (.int 1)) (aCons (fVar 2) aNil))) (gN 3) (tVal (f2 gEq (fSl (fVar 0) (oSo (fVar 3)) oNo) (fSl (fVar 1) oNo (oSo (fCl gMax (aCons (fC (.int 0)) (aCons (f2 gSub (fCl gLen (aCons (fVar 0) aNil)) (fVar 3)) aNil))))))) (fVar 3) [3]))
/-- _law_seen(ground, text, width, at, place), slots 0 ground 1 text 2 width 3 at 4 place 5 pad 6 first -/
def rd__law_seen : FS := (sSeq (sAsg 5 (f2 gMul (f2 gIx (f2 gIx (fVar 0) (fC (.int 0))) (fC (.int 0))) (f2 gAdd3 (fVar 2) (f2 gMul (fC (.int 3)) (f2 gIx (fVar 0) (fC (.int 1))))))) (sSeq (sAsg 6 (f2 gAdd3 (f2 gSub (fVar 4) (fVar 3)) (fCl gLen (aCons (fVar 5) aNil)))) (sRet (fSl (f2 gAdd3 (f2 gAdd3 (fVar 5) (fVar 1)) (fVar 5)) (oSo (fVar 6)) (oSo (f2 gAdd3 (fVar 6) (fVar 2)))))))
/-- _law_marked(ground, rule, text, first, last), slots 0 ground 1 rule 2 text 3 first 4 last 5 width 6 place -/
def rd__law_marked (F__law_seen : FC) : FS := (sSeq (sAsg 5 (fCl gLen (aCons (f2 gIx (f2 gIx (fVar 1) (fC (.int 0))) (fC (.int 0))) aNil))) (sRetO (oComp (iRange2 (aCons (fVar 3) (aCons (f2 gAdd3 (fVar 4) (fC (.int 1))) aNil))) (gN 6) (tVal (f2 gIn (fCall 5 F__law_seen [] (aCons (fVar 0) (aCons (fVar 2) (aCons (fVar 5) (aCons (f2 gIx (fVar 1) (fC (.int 1))) (aCons (fVar 6) aNil)))))) (f2 gIx (fVar 1) (fC (.int 0))))) (fVar 6) [6])))
/-- _law_is_apart(words, gap), slots 0 words 1 gap 2 one 3 other -/
def rd__law_is_apart (F__law_near_at : FC) : FS := (sRet (fNot (fCl gAny (aCons (fFrz (oComp (iSeqN 0) (gN 2) tYesD (fCl gAny (aCons (fFrz (oComp (iSeqN 0) (gN 3) tYesD (f2 gNe (fCall 3 F__law_near_at [] (aCons (fVar 2) (aCons (fVar 3) (aCons (fVar 1) aNil)))) (fFrz (oLst aNil))) [3])) aNil)) [2])) aNil))))
/-- _law_drawn_rule(dice, ground, most), slots 0 dice 1 ground 2 most 3 width 4 words 5 kept 6 word 7 spin -/
def rd__law_drawn_rule (F__law_draw : FC) (F__law_drawn_word : FC) (F__law_is_apart : FC) : FS := (sSeq (sAsg 3 (f2 gAdd3 (fC (.int 1)) (fCall 2 F__law_draw [] (aCons (fVar 0) (aCons (fVar 2) aNil))))) (sSeq (sAsg 4 (fFrz (oComp (iRange1 (aCons (f2 gAdd3 (fC (.int 1)) (fCall 2 F__law_draw [] (aCons (fVar 0) (aCons (fC (.int 5)) aNil)))) aNil)) (gN 7) tYesD (fCall 3 F__law_drawn_word [] (aCons (fVar 0) (aCons (fVar 1) (aCons (fVar 3) aNil)))) [7]))) (sSeq (sIf (tVal (f2 gEq (fCall 2 F__law_draw [] (aCons (fVar 0) (aCons (fC (.int 2)) aNil))) (fC (.int 0)))) (sSeq (sAsg 5 (fFrz (oLst aNil))) (sSeq (sFor (iSeqN 4) (nN 6) (sAsg 5 (f2 gAdd3 (fVar 5) (f2 gMulL (fFrz (oLst (aCons (fVar 6) aNil))) (fCl gInt (aCons (fCall 2 F__law_is_apart [] (aCons (f2 gAdd3 (fVar 5) (fFrz (oLst (aCons (fVar 6) aNil)))) (aCons (f2 gIx (fVar 1) (fC (.int 1))) aNil))) aNil)))))) (sAsg 4 (fIf (tTru (fVar 5)) (fVar 5) (fVar 4))))) sNext) (sRet (fTup (aCons (fFrz (oCl oSortedD (aCons (fCl gDictP (aCons (fFrz (oComp (iSeqN 4) (gN 6) tYesD (fTup (aCons (fVar 6) (aCons (fC (.bl true)) aNil))) [6])) aNil)) aNil))) (aCons (fCall 2 F__law_draw [] (aCons (fVar 0) (aCons (f2 gAdd3 (fVar 3) (fC (.int 1))) aNil))) aNil)))))))
/-- law(script), slots 0 script 1 dice 2 spin 3 ground 4 made 5 rule 6 text 7 rules 8 words 9 drawn 10 late 11 kept -/
def rd_law (F__law_any_ground : FC) (F__law_apart_right : FC) (F__law_dices : FC) (F__law_draw : FC) (F__law_drawn_rule : FC) (F__law_exact : FC) (F__law_kinds_right : FC) (F__law_long_rule : FC) (F__law_made : FC) (F__law_marked : FC) (F__law_marks_right : FC) (F__law_text : FC) (F_marks : FC) : FS := (sSeq (sFor (iSeq (fCall 2 F__law_dices [] (aCons (fVar 0) (aCons (fC (.int 2)) aNil)))) (nN 1) (sFor (iRange1 (aCons (fC (.int 2)) aNil)) (nN 2) (sSeq (sAsg 3 (fCall 1 F__law_any_ground [] (aCons (fVar 1) aNil))) (sSeq (sIf (tVal (f2 gEq (fCall 2 F__law_draw [] (aCons (fVar 1) (aCons (fC (.int 8)) aNil))) (fC (.int 0)))) (sAsg 3 (fTup (aCons (f2 gIx (fVar 3) (fC (.int 0))) (aCons (f2 gAdd3 (fC (.int 10)) (fCall 2 F__law_draw [] (aCons (fVar 1) (aCons (fC (.int 51)) aNil)))) aNil)))) sNext) (sSeq (sPar [4, 5, 6] (xCons (xV (fCall 1 F__law_made [] (aCons (fVar 3) aNil))) (xCons (xV (fCall 3 F__law_drawn_rule [] (aCons (fVar 1) (aCons (fVar 3) (aCons (fC (.int 8)) aNil))))) (xCons (xV (fCall 3 F__law_text [] (aCons (fVar 1) (aCons (fVar 3) (aCons (fC (.int 15)) aNil))))) xNil)))) (sSeq (sAsg 5 (fIf (tAndD (tVal (f2 gLt (f2 gIx (fVar 3) (fC (.int 1))) (fC (.int 4)))) (tVal (f2 gEq (fCall 2 F__law_draw [] (aCons (fVar 1) (aCons (fC (.int 6)) aNil))) (fC (.int 0))))) (fCall 2 F__law_long_rule [] (aCons (fVar 1) (aCons (fVar 3) aNil))) (fVar 5))) (sSeq (sAsg 7 (fFrz (oLst (aCons (fVar 5) (aCons (fTup (aCons (f2 gIx (fVar 5) (fC (.int 0))) (aCons (fCall 2 F__law_draw [] (aCons (fVar 1) (aCons (f2 gAdd3 (fCl gLen (aCons (f2 gIx (f2 gIx (fVar 5) (fC (.int 0))) (fC (.int 0))) aNil)) (fC (.int 1))) aNil))) aNil))) (aCons (fCall 3 F__law_drawn_rule [] (aCons (fVar 1) (aCons (fVar 3) (aCons (fC (.int 8)) aNil)))) aNil)))))) (sSeq (sAsgO 8 (oLst aNil)) (sSeq (sFor (iSeq (f2 gAdd3 (fVar 7) (fSl (fVar 7) oNo (oSo (fC (.int 1)))))) (nN 9) (sSeq (sClr 8) (sSeq (sExt 8 (f2 gIx (fVar 9) (fC (.int 0)))) (sBlk [8, 5] (sSeq (sPar [10, 11] (xCons (xV (fTup (aCons (fVarU 8) (aCons (f2 gIx (fVar 9) (fC (.int 1))) aNil)))) (xCons (xV (fTup (aCons (fFrz (oCl oList (aCons (f2 gIx (fVar 9) (fC (.int 0))) aNil))) (aCons (f2 gIx (fVar 9) (fC (.int 1))) aNil)))) xNil))) (sSeq (sIf (tOrD (tNotD (tTru (fCall 3 F__law_apart_right [] (aCons (fVar 4) (aCons (fVar 3) (aCons (fVar 10) aNil)))))) (tOrD (tNotD (tTru (fCall 4 F__law_marks_right [] (aCons (fVar 1) (aCons (fVar 4) (aCons (fVar 3) (aCons (fVar 10) aNil))))))) (tNotD (tTru (fCall 2 F__law_exact [] (aCons (fVar 10) (aCons (fVar 11) aNil))))))) (sRet (fC (.bl false))) sNext) (sIf (tNotD (tTru (fCall 2 F__law_exact [] (aCons (fCall 3 F_marks [] (aCons (fVar 4) (aCons (fVar 10) (aCons (fVar 6) aNil)))) (aCons (fCall 5 F__law_marked [] (aCons (fVar 3) (aCons (fVar 10) (aCons (fVar 6) (aCons (fC (.int 0)) (aCons (fCl gLen (aCons (fVar 6) aNil)) aNil)))))) aNil))))) (sRet (fC (.bl false))) sNext))))))) (sIf (tNotD (tTru (fCall 5 F__law_kinds_right [] (aCons (fVar 1) (aCons (fVar 4) (aCons (fVar 3) (aCons (fVar 5) (aCons (fVar 6) aNil)))))))) (sRet (fC (.bl false))) sNext)))))))))) (sRet (fC (.bl true))))
def rd_init1 (F_is_count : FC) (F_is_rising : FC) (F_is_text : FC) : FT := (tOrD (tNotD (tTru (fCall 1 F_is_text [] (aCons (fVar 1) aNil)))) (tOrD (tVal (f2 gLt (fCl gLen (aCons (fVar 1) aNil)) (fC (.int 2)))) (tNotD (tTru (fCall 1 F_is_rising [] (aCons (fVar 1) aNil))))))
def rd_init2 (F_is_count : FC) (F_is_rising : FC) (F_is_text : FC) : FT := (tOrD (tNotD (tTru (fCall 2 F_is_count [.non] (aCons (fVar 2) aNil)))) (tVal (f2 gLt (fVar 2) (fC (.int 2)))))
end K30
namespace K30
open PySem PySem.Spec L2 DL PyProof.Rows
/-- a rule: words of one size, a place within -/
def RL (ws : List (List Nat)) (a : Nat) : D := .tup [.lst (TD ws), .int a]
structure RuleOk (s : List Nat) (w a : Nat) (ws : List (List Nat)) : Prop where
  ne : ws ≠ []
  len : ∀ x ∈ ws, x.length = w
  mem : ∀ x ∈ ws, ∀ c ∈ x, c ∈ s
  inc : ws.Pairwise (· < ·)
  pos : 1 ≤ w
  wle : w ≤ 1000
  ale : a ≤ w
  card : ws.length ≤ 60
theorem RuleOk.nd {s : List Nat} {w a : Nat} {ws : List (List Nat)} (h : RuleOk s w a ws) : ws.Nodup := h.inc.imp fun {x y} hxy e => by
  subst e
  exact absurd hxy (Std.lt_irrefl)
def F_is_rule_in : FC := fun ds n Q => ∃ s g w a ws, ds = [gnd s g, RL ws a] ∧ low s = true ∧ RuleOk s w a ws ∧ Q (.val (.bl true)) n
theorem zip_next {α : Type} {R : α → α → Prop} : ∀ {l : List α}, l.Pairwise R → ∀ p ∈ l.zip l.tail, R p.1 p.2
  | [], _, p, hp => by simp at hp
  | [x], _, p, hp => by simp at hp
  | x :: y :: l, h, p, hp => by
    rw [List.pairwise_cons] at h
    rw [List.tail_cons, List.zip_cons_cons] at hp
    rcases List.mem_cons.mp hp with rfl | hp
    · exact h.1 y (List.mem_cons_self ..)
    · exact zip_next (l := y :: l) h.2 p hp
theorem zipD_td : ∀ xs ys : List (List Nat), zipD (TD xs) (TD ys) = (xs.zip ys).map fun p => D.tup [.str p.1, .str p.2]
  | [], _ => by simp [zipD]
  | _ :: _, [] => by simp [zipD]
  | x :: xs, y :: ys => by
    have := zipD_td xs ys
    simp only [TD, List.map_cons, zipD, List.zip_cons_cons] at this ⊢
    rw [this]
theorem zip_td_tail (L : List (List Nat)) : zipD (L.map D.str) (cutL (L.map D.str) (some 1) none) = (L.zip L.tail).map fun p => D.tup [.str p.1, .str p.2] := by
  rw [show (some (1 : Int)) = some ((1 : Nat) : Int) from rfl, cutL_drop, List.drop_one, ← List.map_tail]
  exact zipD_td L L.tail
theorem law_is_rule_in : ∀ ds n Q, F_is_rule_in ds n Q → ds.length = 2 → rd_is_rule_in F_is_count F_is_word_of { nx := fun _ m => Q (.val .non) m, rt := fun _ => Q } (startE 5 ds) n := by
  rintro ds n Q ⟨s, g, w, a, ws, rfl, hl, hr, h⟩ _
  obtain ⟨x0, xs, rfl⟩ : ∃ x0 xs, ws = x0 :: xs := by
    cases ws with
    | nil => exact absurd rfl hr.ne
    | cons x0 xs => exact ⟨x0, xs, rfl⟩
  have hsz := s_line
  have hc := hr.card
  have hx0 := hr.len x0 (List.mem_cons_self ..)
  have ha := hr.ale
  unfold rd_is_rule_in
  refine sSeq_of fun next0 hn0 => ?_
  simp [RL, -goD]
  refine ⟨plains_S _, ?_⟩
  refine hn0 _ _ ?_
  refine sSeq_of fun next1 hn1 => ?_
  simp [-goD]
  refine hn1 _ _ ?_
  refine sSeq_of fun next2 hn2 => ?_
  simp [-goD]
  rw [← List.map_cons (f := D.str)]
  refine goD_map (fun x : List Nat => D.bl true) (fun x hx m K hK => ?_) ?_
  · simp [stepD]
    refine ⟨s, g, .str x, rfl, hl, rfl, ?_⟩
    have : wdB s (.str x) = true := by
      simp
      exact ⟨fun e => by have := hr.len x hx; have := hr.pos; subst e; simp at *; omega, fun c hc => hr.mem x hx c hc⟩
    rw [this]
    simpa using hK
  · refine ⟨(x0 :: xs).map fun _ => true, by rw [List.map_map]; rfl, ?_⟩
    rw [if_neg (by simp)]
    refine hn2 _ _ ?_
    refine sSeq_of fun next3 hn3 => ?_
    simp [-goD, -List.map_cons]
    rw [zip_td_tail]
    refine goD_map (fun p : List Nat × List Nat => D.bl true) (fun p hp m K hK => ?_) ?_
    · have h1 := zip_next hr.inc p hp
      have h2 := hr.len p.1 (List.of_mem_zip hp).1
      have h3 := hr.len p.2 (List.mem_of_mem_tail (List.of_mem_zip hp).2)
      simp [stepD, h1, h2, h3]
      exact hK
    · refine ⟨((x0 :: xs).zip (x0 :: xs).tail).map fun _ => true, by rw [List.map_map]; rfl, ?_⟩
      rw [if_neg (by simp)]
      refine hn3 _ _ ?_
      simp
      refine ⟨.int a, .non, rfl, rfl, .inl rfl, ?_⟩
      simp [hx0]
      simpa [ha] using h
def F_check_rule : FC := fun ds n Q => ∃ s g w a ws, ds = [gnd s g, RL ws a] ∧ low s = true ∧ RuleOk s w a ws ∧ Q (.val .non) n
theorem law_check_rule : ∀ ds n Q, F_check_rule ds n Q → ds.length = 2 → rd_check_rule F_check_ground F_is_rule_in { nx := fun _ m => Q (.val .non) m, rt := fun _ => Q } (startE 0 ds) n := by
  rintro ds n Q ⟨s, g, w, a, ws, rfl, hl, hr, h⟩ _
  unfold rd_check_rule
  refine sSeq_of fun next0 hn0 => ?_
  simp
  refine ⟨s, g, rfl, ?_⟩
  refine hn0 _ _ ?_
  simp
  refine ⟨s, g, w, a, ws, rfl, hl, hr, ?_⟩
  simpa using h
def seenW (s t : List Nat) (w : Nat) (a p : Int) : List Nat := (List.range w).map fun k : Nat => sgAt s t (p - a + k)
theorem seenW_len (s t : List Nat) (w : Nat) (a p : Int) : (seenW s t w a p).length = w := by simp [seenW]
def F_signs_between : FC := fun ds n Q => ∃ (s : List Nat) (g : Nat) (t : List Nat) (a b : Int), ds = [gnd s g, .str t, .int a, .int b] ∧ s ≠ [] ∧ -1000000 ≤ a ∧ a ≤ 1000000 ∧ -1000000 ≤ b ∧ b ≤ 1000000 ∧ t.length ≤ 1000000 ∧ Q (.val (.str ((List.range (b - a).toNat).map fun k : Nat => sgAt s t (a + k)))) n
theorem law_signs_between : ∀ ds n Q, F_signs_between ds n Q → ds.length = 4 → rd_signs_between { nx := fun _ m => Q (.val .non) m, rt := fun _ => Q } (startE 2 ds) n := by
  rintro ds n Q ⟨s, g, t, a, b, rfl, hs, ha1, ha2, hb0, hb, ht, h⟩ _
  have hsz := s_line
  obtain ⟨c, s', rfl⟩ : ∃ c s', s = c :: s' := by
    cases s with
    | nil => exact absurd rfl hs
    | cons c s' => exact ⟨c, s', rfl⟩
  unfold rd_signs_between
  refine sSeq_of fun next0 hn0 => ?_
  simp
  refine hn0 _ _ ?_
  simp
  refine ⟨⟨by omega, by omega, by omega, by omega⟩, ?_⟩
  rw [ups_eq]
  refine goD_map (fun k : Nat => D.str [sgAt (c :: s') t (a + k)]) (fun k hk m K hK => ?_) ?_
  · simp [stepD]
    by_cases c1 : 0 ≤ a + (k : Int)
    · by_cases c2 : a + (k : Int) < t.length
      · rw [if_pos c1, if_pos c2]
        rw [sgAt_in c1 c2] at hK
        refine ⟨_, ?_, hK⟩
        obtain ⟨j, hj⟩ : ∃ j : Nat, a + (k : Int) = j := ⟨(a + (k : Int)).toNat, by omega⟩
        rw [hj]
        refine atI_nat' ?_
        rw [Int.toNat_natCast, List.getD_eq_getElem?_getD, List.getElem?_eq_getElem (by omega)]; rfl
      · rw [if_pos c1, if_neg c2]
        rw [sgAt_out (by omega)] at hK
        exact hK
    · rw [if_neg c1]
      rw [sgAt_out (by omega)] at hK
      exact hK
  · have e2 : (List.range (b - a).toNat).map (fun k : Nat => D.str [sgAt (c :: s') t (a + k)]) = ((((List.range (b - a).toNat).map fun k : Nat => sgAt (c :: s') t (a + k))).map fun c => [c]).map D.str := by
      simp [Function.comp_def]
    rw [e2]
    exact join_ones (by simp; omega) h
def F_seen_at : FC := fun ds n Q => ∃ (s : List Nat) (g : Nat) (t : List Nat) (w a p : Nat), ds = [gnd s g, .str t, .int w, .int a, .int p] ∧ s ≠ [] ∧ w ≤ 1000 ∧ a ≤ 1000 ∧ p ≤ 100000 ∧ t.length ≤ 100000 ∧ Q (.val (.str (seenW s t w a p))) n
theorem law_seen_at : ∀ ds n Q, F_seen_at ds n Q → ds.length = 5 → rd_seen_at F_signs_between { nx := fun _ m => Q (.val .non) m, rt := fun _ => Q } (startE 0 ds) n := by
  rintro ds n Q ⟨s, g, t, w, a, p, rfl, hs, hw, ha, hp, ht, h⟩ _
  simp [rd_seen_at]
  refine ⟨s, g, t, _, _, rfl, hs, by omega, by omega, by omega, by omega, by omega, ?_⟩
  rw [show ((p : Int) - a + w - (p - a)).toNat = w by omega]
  exact h
def ZYX : List Nat := [122, 121, 120, 119, 118, 117, 116, 115, 114, 113, 112, 111, 110, 109, 108, 107, 106, 105, 104, 103, 102, 101, 100, 99, 98, 97]
theorem zyx_len : ZYX.length = 26 := by decide
theorem zyx_nodup : ZYX.Nodup := by decide
def F__law_other_sign : FC := fun ds n Q => ∃ (s : List Nat) (g : Nat), ds = [GR s g] ∧ s.length ≤ 25 ∧ ∀ c : Nat, Q (.val (.str [c])) n
theorem law__law_other_sign : ∀ ds n Q, F__law_other_sign ds n Q → ds.length = 1 → rd__law_other_sign { nx := fun _ m => Q (.val .non) m, rt := fun _ => Q } (startE 1 ds) n := by
  rintro ds n Q ⟨s, g, rfl, hsl, h⟩ _
  have hsz := s_line
  unfold rd__law_other_sign
  rw [show ([122, 121, 120, 119, 118, 117, 116, 115, 114, 113, 112, 111, 110, 109, 108, 107, 106, 105, 104, 103, 102, 101, 100, 99, 98, 97] : List Nat) = ZYX from rfl]
  obtain ⟨A, eA, hal, han⟩ : ∃ A : List Nat, ZYX = A ∧ A.length = 26 ∧ A.Nodup := ⟨ZYX, rfl, zyx_len, zyx_nodup⟩
  rw [eA]
  simp
  refine goD_filter (fun c : Nat => decide (c ∉ s)) (fun c => .str [c]) (fun c hc m K k1 k2 => ?_) ?_
  · simp [stepD]
    by_cases hm : c ∈ s
    · simp [hm]
      exact k2 (by simpa using hm)
    · simp [hm]
      exact k1 (by simpa using hm)
  · have hne : (A.filter fun c => decide (c ∉ s)) ≠ [] := fun e => by
      have : ∀ c ∈ A, c ∈ s := fun c hc => by
        by_cases hm : c ∈ s
        · exact hm
        · have : c ∈ A.filter fun c => decide (c ∉ s) := List.mem_filter.mpr ⟨hc, by simpa using hm⟩
          rw [e] at this; cases this
      have := nodup_le han this
      omega
    cases hf : A.filter fun c => decide (c ∉ s) with
    | nil => exact absurd hf hne
    | cons c cs =>
      simp
      exact h c
def nearA (u v : List Nat) (g : Nat) : List Nat := (upto g).filter fun sp => u.drop sp == v.take (u.length - sp)
def F__law_near_at : FC := fun ds n Q => ∃ (u v : List Nat) (g : Nat), ds = [.str u, .str v, .int g] ∧ g ≤ 100000 ∧ u.length ≤ 1000000 ∧ Q (.own (I (nearA u v g))) n
theorem law__law_near_at : ∀ ds n Q, F__law_near_at ds n Q → ds.length = 3 → rd__law_near_at { nx := fun _ m => Q (.val .non) m, rt := fun _ => Q } (startE 1 ds) n := by
  rintro ds n Q ⟨u, v, g, rfl, hg, hu, h⟩ _
  unfold rd__law_near_at
  simp
  refine ⟨⟨by omega, by omega⟩, ?_⟩
  rw [ups_upto']
  refine goD_filter (fun sp : Nat => u.drop sp == v.take (u.length - sp)) (fun p : Nat => D.int p) (fun sp hp m K hT hF => ?_) h
  simp [stepD]
  have e : max (0 : Int) ((u.length : Int) - sp) = ((u.length - sp : Nat) : Int) := by omega
  rw [e, cutL_take, cutL_drop]
  cases c : (u.drop sp == v.take (u.length - sp)) with
  | true =>
    have c2 : u.drop sp = v.take (u.length - sp) := by simpa using c
    simpa [c2] using hT c
  | false =>
    have c2 : ¬ u.drop sp = v.take (u.length - sp) := by simpa using c
    simpa [c2] using hF c
def F__law_any_ground : FC := fun ds n Q => ds = [dice] ∧ n + 20000 ≤ 1000000000000000000 ∧ ∀ (s : List Nat) (g : Nat) m, OkG s g → s.length ≤ 5 → g ≤ 10 → n ≤ m → m ≤ n + 20000 → Q (.val (GR s g)) m
def F__law_seen : FC := fun ds n Q => ∃ (s : List Nat) (g : Nat) (t : List Nat) (w a p : Nat), ds = [GR s g, .str t, .int w, .int a, .int p] ∧ s ≠ [] ∧ g ≤ 1000 ∧ w ≤ 1000 ∧ a ≤ w ∧ p ≤ t.length ∧ t.length ≤ 100000 ∧ Q (.val (.str (seenW s t w a p))) n
theorem seen_pad {s : List Nat} {t : List Nat} {w a p K c : Nat} (hc : s.headD 0 = c) (hK : w ≤ K) (ha : a ≤ w) (hp : p ≤ t.length) :
    ((List.replicate K c ++ t ++ List.replicate K c).drop (p + K - a)).take w = seenW s t w a p := by
  have hl : (List.replicate K c ++ t ++ List.replicate K c).length = K + t.length + K := by simp; omega
  refine List.ext_getElem (by rw [List.length_take, List.length_drop, hl, seenW_len]; omega) fun k q1 q2 => ?_
  rw [seenW_len] at q2
  have hk : p + K - a + k < K + t.length + K := by omega
  have e1 : (((List.replicate K c ++ t ++ List.replicate K c).drop (p + K - a)).take w)[k] = (List.replicate K c ++ t ++ List.replicate K c).getD (p + K - a + k) 0 := by
    rw [List.getElem_take, List.getElem_drop, List.getD_eq_getElem?_getD, List.getElem?_eq_getElem (by rw [hl]; exact hk)]
    rfl
  rw [e1, pad_get c t K hk]
  have e2 : (seenW s t w a p)[k]'(by rw [seenW_len]; exact q2) = sgAt s t (p - a + k) := by simp [seenW]
  rw [e2]
  by_cases hin : 0 ≤ (p : Int) - a + k ∧ (p : Int) - a + k < t.length
  · rw [if_pos (by omega), sgAt_in hin.1 hin.2]
    congr 1
    omega
  · rw [if_neg (by omega), sgAt_out (by omega), hc]
theorem law__law_seen : ∀ ds n Q, F__law_seen ds n Q → ds.length = 5 → rd__law_seen { nx := fun _ m => Q (.val .non) m, rt := fun _ => Q } (startE 2 ds) n := by
  rintro ds n Q ⟨s, g, t, w, a, p, rfl, hs, hg, hw, ha, hp, ht, h⟩ _
  obtain ⟨c, s', rfl⟩ : ∃ c s', s = c :: s' := by
    cases s with
    | nil => exact absurd rfl hs
    | cons c s' => exact ⟨c, s', rfl⟩
  have hsz := s_line
  unfold rd__law_seen
  refine sSeq_of fun next0 hn0 => ?_
  simp
  refine ⟨.left (by decide), ⟨by omega, by omega, by omega⟩, ?_⟩
  have e0 : ((w : Int) + 3 * (g : Int)).toNat = w + 3 * g := by omega
  rw [e0]
  have hsp := seen_pad (s := c :: s') (t := t) (w := w) (a := a) (p := p) (K := w + 3 * g) (c := c) rfl (by omega) ha hp
  have hK : w + 3 * g ≤ 4000 := by omega
  have hKw : w ≤ w + 3 * g := by omega
  generalize w + 3 * g = K at *
  refine hn0 _ _ ?_
  refine sSeq_of fun next1 hn1 => ?_
  simp
  refine hn1 _ _ ?_
  simp
  refine ⟨by omega, by omega, ?_⟩
  have e1 : (p : Int) - a + K = ((p + K - a : Nat) : Int) := by omega
  rw [e1, show ((p + K - a : Nat) : Int) + (w : Int) = ((p + K - a + w : Nat) : Int) by omega, cutL_in _ (by simp; omega) (by simp; omega), Nat.add_sub_cancel_left]
  rw [← List.append_assoc] 
  rw [hsp]
  exact h
end K30
namespace K30
open PySem PySem.Spec L2 DL PyProof.Rows
def marksA (s : List Nat) (w a : Nat) (ws : List (List Nat)) (t : List Nat) (f l : Nat) : List Nat := ((List.range (l + 1 - f)).map fun i => f + i).filter fun p => decide (seenW s t w a (p : Nat) ∈ ws)
theorem ups_from (f k : Nat) : ups (f : Int) k = ((List.range k).map fun i => f + i).map fun p : Nat => D.int p := by
  rw [ups_eq, List.map_map]
  exact List.map_congr_left fun i _ => by simp
def F_marked_in : FC := fun ds n Q => ∃ (s : List Nat) (g w a : Nat) (ws : List (List Nat)) (t : List Nat) (f l : Nat), ds = [gnd s g, RL ws a, .str t, .int f, .int l] ∧ s ≠ [] ∧ RuleOk s w a ws ∧ f ≤ l ∧ l ≤ t.length ∧ t.length ≤ 100000 ∧ Q (.own (I (marksA s w a ws t f l))) n
theorem law_marked_in : ∀ ds n Q, F_marked_in ds n Q → ds.length = 5 → rd_marked_in F_seen_at { nx := fun _ m => Q (.val .non) m, rt := fun _ => Q } (startE 4 ds) n := by
  rintro ds n Q ⟨s, g, w, a, ws, t, f, l, rfl, hs, hr, hf, hl, ht, h⟩ _
  have hsz := s_line
  have hw := hr.wle
  have ha := hr.ale
  have hc := hr.card
  unfold rd_marked_in
  refine sSeq_of fun next0 hn0 => ?_
  simp [RL, -goD]
  refine goD_map (fun x : List Nat => D.tup [.str x, .bl true]) (fun x hx m K hK => by simpa [stepD] using ⟨by omega, hK⟩) ?_
  refine dictP_str2 (kf := fun x => x) (vf := fun _ => .bl true) fun vs hvs => ?_
  rw [List.map_id', uq_nd hr.nd] at *
  refine hn0 _ _ ?_
  refine sSeq_of fun next1 hn1 => ?_
  obtain ⟨x0, xs, e0⟩ : ∃ x0 xs, ws = x0 :: xs := by
    cases ws with
    | nil => exact absurd rfl hr.ne
    | cons x0 xs => exact ⟨x0, xs, rfl⟩
  have hx0 : x0.length = w := hr.len x0 (by rw [e0]; exact List.mem_cons_self ..)
  have e1 : atI (ws.map D.str) 0 = some (.str x0) := by rw [e0]; simp
  simp [e1, hx0]
  refine hn1 _ _ ?_
  simp [-goD]
  refine ⟨⟨by omega, by omega, by omega, by omega⟩, ?_⟩
  rw [ups_from]
  refine goD_filter (fun p : Nat => decide (seenW s t w a (p : Nat) ∈ ws)) (fun p : Nat => D.int p) (fun p hp m K hT hF => ?_) h
  obtain ⟨i, hi, rfl⟩ := List.mem_map.mp hp
  have hi := List.mem_range.mp hi
  rw [show ((f + i : Nat) : Int) = (f : Int) + i by omega] at hT hF
  simp [stepD]
  refine ⟨s, g, t, w, a, f + i, by simp, hs, by omega, by omega, by omega, by omega, ?_⟩
  simp [dget_td hvs.symm]
  by_cases c : seenW s t w (a : Int) ((f : Int) + i) ∈ ws
  · rw [if_pos c]; exact hT (by simpa using c)
  · rw [if_neg c]; exact hF (by simpa using c)
def F__law_marked : FC := fun ds n Q => ∃ (s : List Nat) (g w a : Nat) (ws : List (List Nat)) (t : List Nat) (f l : Nat), ds = [GR s g, RL ws a, .str t, .int f, .int l] ∧ s ≠ [] ∧ g ≤ 1000 ∧ RuleOk s w a ws ∧ f ≤ l ∧ l ≤ t.length ∧ t.length ≤ 100000 ∧ Q (.own (I (marksA s w a ws t f l))) n
theorem law__law_marked : ∀ ds n Q, F__law_marked ds n Q → ds.length = 5 → rd__law_marked F__law_seen { nx := fun _ m => Q (.val .non) m, rt := fun _ => Q } (startE 2 ds) n := by
  rintro ds n Q ⟨s, g, w, a, ws, t, f, l, rfl, hs, hg, hr, hf, hl, ht, h⟩ _
  have hsz := s_line
  have hw := hr.wle
  have ha := hr.ale
  have hc := hr.card
  unfold rd__law_marked
  refine sSeq_of fun next1 hn1 => ?_
  obtain ⟨x0, xs, e0⟩ : ∃ x0 xs, ws = x0 :: xs := by
    cases ws with
    | nil => exact absurd rfl hr.ne
    | cons x0 xs => exact ⟨x0, xs, rfl⟩
  have hx0 : x0.length = w := hr.len x0 (by rw [e0]; exact List.mem_cons_self ..)
  have e1 : atI (ws.map D.str) 0 = some (.str x0) := by rw [e0]; simp
  simp [RL, e1, hx0]
  refine hn1 _ _ ?_
  simp [-goD]
  refine ⟨⟨by omega, by omega, by omega, by omega⟩, ?_⟩
  rw [ups_from]
  refine goD_filter (fun p : Nat => decide (seenW s t w a (p : Nat) ∈ ws)) (fun p : Nat => D.int p) (fun p hp m K hT hF => ?_) h
  obtain ⟨i, hi, rfl⟩ := List.mem_map.mp hp
  have hi := List.mem_range.mp hi
  rw [show ((f + i : Nat) : Int) = (f : Int) + i by omega] at hT hF
  simp [stepD]
  refine ⟨s, g, t, w, a, f + i, by simp, hs, by omega, by omega, by omega, by omega, by omega, ?_⟩
  simp
  by_cases c : seenW s t w (a : Int) ((f : Int) + i) ∈ ws
  · rw [if_pos c]; exact hT (by simpa using c)
  · rw [if_neg c]; exact hF (by simpa using c)
/-- v, laid behind u by d places, fits -/
def Fits (w : Nat) (u v : List Nat) (d : Nat) : Prop := u.drop d = v.take (w - d)
instance (w : Nat) (u v : List Nat) (d : Nat) : Decidable (Fits w u v d) := inferInstanceAs (Decidable (_ = _))
structure HdOk (w d : Nat) (ws : List (List Nat)) (ks vs : List D) : Prop where
  len : ks.length = vs.length
  some_ : ∀ u : List Nat, (dGet ks vs (.str u)).isSome = true ↔ ∃ v ∈ ws, v.take (w - d) = u
  get : ∀ u x, dGet ks vs (.str u) = some x → ∃ v ∈ ws, v.take (w - d) = u ∧ x = .str v
  small : ks.length ≤ ws.length
theorem dGet_put {k k' v : D} : ∀ {ks vs : List D}, ks.length = vs.length → dGet (putKs ks k) (putVs ks vs k v) k' = if k = k' then some v else dGet ks vs k' := by
  have key : ∀ {ks vs : List D}, ks.length = vs.length → (k ∈ ks → dGet ks (putVs ks vs k v) k' = if k = k' then some v else dGet ks vs k') ∧ (k ∉ ks → dGet (ks ++ [k]) (putVs ks vs k v) k' = if k = k' then some v else dGet ks vs k') := by
    intro ks
    induction ks with
    | nil => intro vs h; cases vs with
      | nil => exact ⟨fun h => (nomatch h), fun _ => by simp [putVs, dGet]⟩
      | cons => simp at h
    | cons a ks ih => intro vs h; cases vs with
      | nil => simp at h
      | cons b vs =>
        obtain ⟨i1, i2⟩ := ih (vs := vs) (by simpa using h)
        simp only [putVs]
        by_cases e : a = k
        · subst e
          rw [if_pos rfl]
          exact ⟨fun _ => by by_cases c : a = k' <;> simp [dGet, c], fun z => absurd (List.mem_cons_self ..) z⟩
        · rw [if_neg e]
          refine ⟨fun z => ?_, fun z => ?_⟩
          · have := i1 ((List.mem_cons.mp z).resolve_left fun y => e y.symm)
            simp only [dGet]
            rw [this]
            by_cases c : a = k'
            · subst c; rw [if_pos rfl, if_neg (Ne.symm e), if_pos rfl]
            · rw [if_neg c, if_neg c]
          · have := i2 fun y => z (List.mem_cons_of_mem _ y)
            simp only [List.cons_append, dGet]
            rw [this]
            by_cases c : a = k'
            · subst c; rw [if_pos rfl, if_neg (Ne.symm e), if_pos rfl]
            · rw [if_neg c, if_neg c]
  intro ks vs h
  unfold putKs
  by_cases c : k ∈ ks
  · rw [if_pos c]; exact (key h).1 c
  · rw [if_neg c]; exact (key h).2 c
theorem hdOk_put {w d : Nat} {pr : List (List Nat)} {v : List Nat} {ks vs : List D} (h : HdOk w d pr ks vs) : HdOk w d (pr ++ [v]) (putKs ks (.str (v.take (w - d)))) (putVs ks vs (.str (v.take (w - d))) (.str v)) := by
  have e := fun u => dGet_put (k := .str (v.take (w - d))) (k' := .str u) (v := .str v) h.len
  refine ⟨putVs_len h.len, fun u => ?_, fun u x hx => ?_, ?_⟩
  · rw [e u]
    by_cases c : v.take (w - d) = u
    · rw [if_pos (by rw [c])]
      exact ⟨fun _ => ⟨v, by simp, c⟩, fun _ => rfl⟩
    · rw [if_neg (by simpa using c), h.some_ u]
      refine ⟨fun ⟨z, hz, ez⟩ => ⟨z, List.mem_append_left _ hz, ez⟩, fun ⟨z, hz, ez⟩ => ?_⟩
      rcases List.mem_append.mp hz with hz | hz
      · exact ⟨z, hz, ez⟩
      · rw [List.mem_singleton.mp hz] at ez; exact absurd ez c
  · rw [e u] at hx
    by_cases c : v.take (w - d) = u
    · rw [if_pos (by rw [c])] at hx
      cases hx
      exact ⟨v, by simp, c, rfl⟩
    · rw [if_neg (by simpa using c)] at hx
      obtain ⟨z, hz, ez⟩ := h.get u x hx
      exact ⟨z, List.mem_append_left _ hz, ez⟩
  · have := h.small
    rw [List.length_append]
    unfold putKs
    split <;> simp <;> omega
def F_near_words : FC := fun ds n Q => ∃ (s : List Nat) (g w a : Nat) (ws : List (List Nat)), ds = [.int g, .lst (TD ws)] ∧ RuleOk s w a ws ∧ 2 ≤ g ∧ g ≤ 1000 ∧ ((∀ u ∈ ws, ∀ v ∈ ws, ∀ d, 1 ≤ d → d < g → ¬ Fits w u v d) → Q (.val .non) n) ∧ (∀ u ∈ ws, ∀ v ∈ ws, ∀ d, 1 ≤ d → d < g → Fits w u v d → Q (.val (.tup [.str u, .str v, .int (d : Nat)])) n)
theorem law_near_words : ∀ ds n Q, F_near_words ds n Q → ds.length = 2 → rd_near_words { nx := fun _ m => Q (.val .non) m, rt := fun _ => Q } (startE 5 ds) n := by
  rintro ds n Q ⟨s, g, w, a, ws, rfl, hr, hg, hg2, hN, hY⟩ _
  have hsz := s_line
  have hw := hr.wle
  have hc := hr.card
  unfold rd_near_words
  refine sSeq_of fun next0 hn0 => ?_
  unfold sFor
  simp
  refine ⟨⟨by omega, by omega⟩, ?_⟩
  rw [ups_upto']
  refine forD_inv (fun pre env m => m = n ∧ (∀ d ∈ pre, ∀ u ∈ ws, ∀ v ∈ ws, ¬ Fits w u v d) ∧ ∃ x2 x3 x4 x5 x6, env = [some (.val (.int g)), some (.val (.lst (TD ws))), x2, x3, x4, x5, x6]) ?_ ?_ ?_
  · rintro pre d post env m next eU ⟨rfl, hP, x2, x3, x4, x5, x6, rfl⟩ hnext
    have hd := mem_upto.mp (by rw [eU]; simp : d ∈ upto g)
    obtain ⟨x0, xs, e0⟩ : ∃ x0 xs, ws = x0 :: xs := by
      cases ws with
      | nil => exact absurd rfl hr.ne
      | cons x0 xs => exact ⟨x0, xs, rfl⟩
    have hx0 : x0.length = w := hr.len x0 (by rw [e0]; exact List.mem_cons_self ..)
    have e1 : atI (ws.map D.str) 0 = some (.str x0) := by rw [e0]; simp
    have e2 : max (0 : Int) ((w : Int) - d) = ((w - d : Nat) : Int) := by omega
    refine sSeq_of fun n1 hn1 => ?_
    simp [e1, hx0, e2]
    refine hn1 _ _ ?_
    refine sSeq_of fun n2 hn2 => ?_
    simp
    refine hn2 _ _ ?_
    refine sSeq_of fun n3 hn3 => ?_
    simp
    refine forD_inv (fun pr env k => k = m ∧ ∃ ks vs y5, env = [some (.val (.int g)), some (.val (.lst (TD ws))), some (.val (.int d)), some (.val (.int (w - d : Nat))), some (.ownd ks vs), y5, x6] ∧ HdOk w d pr ks vs) ?_ ?_ ?_
    · rintro pr v po env k nx2 eW ⟨rfl, ks, vs, y5, rfl, hH⟩ hnx
      simp
      refine ⟨ks, vs, ⟨rfl, rfl⟩, ?_, ?_⟩
      · have h1 := hH.small
        have h2 : pr.length ≤ ws.length := by rw [eW]; simp
        omega
      · refine hnx _ _ ⟨rfl, _, _, _, rfl, ?_⟩
        rw [cutL_take]
        exact hdOk_put hH
    · rintro env k ⟨rfl, ks, vs, y5, rfl, hH⟩
      refine hn3 _ _ ?_
      simp
      refine forD_inv (fun pr env j => j = k ∧ (∀ u ∈ pr, ∀ v ∈ ws, ¬ Fits w u v d) ∧ ∃ y6, env = [some (.val (.int g)), some (.val (.lst (TD ws))), some (.val (.int d)), some (.val (.int (w - d : Nat))), some (.ownd ks vs), y5, y6]) ?_ ?_ ?_
      · rintro pr u po env k nx2 eW ⟨rfl, hP2, y6, rfl⟩ hnx
        have hu : u ∈ ws := by rw [eW]; simp
        simp
        rw [cutL_drop]
        cases cg : dGet ks vs (.str (u.drop d)) with
        | none =>
          simp
          refine hnx _ _ ⟨rfl, fun u' hu' v hv hf => ?_, _, rfl⟩
          rcases List.mem_append.mp hu' with hu' | hu'
          · exact hP2 u' hu' v hv hf
          · rw [List.mem_singleton.mp hu'] at hf
            have := (hH.some_ (u.drop d)).mpr ⟨v, hv, hf.symm⟩
            rw [cg] at this
            cases this
        | some x =>
          obtain ⟨v, hv, hf, rfl⟩ := hH.get _ _ cg
          simp
          exact ⟨by omega, hY u hu v hv d hd.1 hd.2 hf.symm⟩
      · rintro env k ⟨rfl, hP2, y6, rfl⟩
        refine hnext _ _ ⟨rfl, fun e he u hu v hv => ?_, _, _, _, _, _, rfl⟩
        rcases List.mem_append.mp he with he | he
        · exact hP e he u hu v hv
        · rw [List.mem_singleton.mp he]; exact hP2 u hu v hv
      · exact ⟨rfl, fun u hu => (nomatch hu), _, rfl⟩
    · exact ⟨rfl, _, _, _, rfl, ⟨rfl, fun u => by simp [dGet], fun u x hx => by simp [dGet] at hx, Nat.le_refl _⟩⟩
  · rintro env m ⟨rfl, hP, x2, x3, x4, x5, x6, rfl⟩
    refine hn0 _ _ ?_
    simp
    exact hN fun u hu v hv d h1 h2 => hP d (mem_upto.mpr ⟨h1, h2⟩) u hu v hv
  · exact ⟨rfl, fun d hd => (nomatch hd), _, _, _, _, _, rfl⟩
end K30
namespace K30
open PySem PySem.Spec L2 DL PyProof.Rows
def apartB (g w : Nat) (ws : List (List Nat)) : Bool := ws.all fun u => ws.all fun v => (upto g).all fun d => !decide (Fits w u v d)
theorem apart_iff {g w : Nat} {ws : List (List Nat)} : apartB g w ws = true ↔ ∀ u ∈ ws, ∀ v ∈ ws, ∀ d, 1 ≤ d → d < g → ¬ Fits w u v d := by
  unfold apartB
  simp only [List.all_eq_true, Bool.not_eq_true', decide_eq_false_iff_not]
  exact ⟨fun h u hu v hv d h1 h2 => h u hu v hv d (mem_upto.mpr ⟨h1, h2⟩), fun h u hu v hv d hd => h u hu v hv d (mem_upto.mp hd).1 (mem_upto.mp hd).2⟩
def laid (s : List Nat) (w : Nat) (u v : List Nat) (d : Nat) : List Nat := u ++ List.replicate (d - w) (s.headD 0) ++ v.drop (w - d)
theorem seen_in {s t : List Nat} {w a p i : Nat} (hi : p = a + i) (h : i + w ≤ t.length) : seenW s t w a p = (t.drop i).take w := by
  refine List.ext_getElem (by simp [seenW]; omega) fun k q1 q2 => ?_
  rw [seenW_len] at q1
  have : (seenW s t w a p)[k]'(by rw [seenW_len]; exact q1) = sgAt s t ((p : Int) - a + k) := by simp [seenW]
  rw [this, sgAt_in (by omega) (by omega), List.getElem_take, List.getElem_drop, List.getD_eq_getElem?_getD, List.getElem?_eq_getElem (by omega)]
  rw [Option.getD_some]
  congr 1
  omega
def F__law_is_apart : FC := fun ds n Q => ∃ (g w : Nat) (ws : List (List Nat)), ds = [.lst (TD ws), .int g] ∧ (∀ x ∈ ws, x.length = w) ∧ w ≤ 1000 ∧ 2 ≤ g ∧ g ≤ 1000 ∧ ws.length ≤ 1000 ∧ Q (.val (.bl (apartB g w ws))) n
theorem near_ne {w g : Nat} {u v : List Nat} (hu : u.length = w) : (nearA u v g ≠ []) ↔ ((upto g).all fun d => !decide (Fits w u v d)) = false := by
  rw [List.all_eq_false]
  constructor
  · intro h
    obtain ⟨sp, hs⟩ := List.exists_mem_of_ne_nil _ h
    obtain ⟨h1, h2⟩ := List.mem_filter.mp hs
    refine ⟨sp, h1, ?_⟩
    rw [hu] at h2
    have : Fits w u v sp := by simpa [Fits] using h2
    simp [this]
  · rintro ⟨d, h1, h2⟩ e
    have hf : Fits w u v d := by simpa using h2
    have : d ∈ nearA u v g := List.mem_filter.mpr ⟨h1, by rw [hu]; simpa [Fits] using hf⟩
    rw [e] at this
    cases this
theorem law__law_is_apart : ∀ ds n Q, F__law_is_apart ds n Q → ds.length = 2 → rd__law_is_apart F__law_near_at { nx := fun _ m => Q (.val .non) m, rt := fun _ => Q } (startE 2 ds) n := by
  rintro ds n Q ⟨g, w, ws, rfl, hl, hw, hg, hg2, hc, h⟩ _
  have hsz := s_line
  unfold rd__law_is_apart
  simp [-goD]
  refine goD_map (fun u : List Nat => D.bl (ws.any fun v => !(upto g).all fun d => !decide (Fits w u v d))) (fun u hu m K hK => ?_) ?_
  · simp [stepD, -goD]
    refine goD_map (fun v : List Nat => D.bl (!(upto g).all fun d => !decide (Fits w u v d))) (fun v hv m2 K2 hK2 => ?_) ?_
    · simp [stepD]
      refine ⟨u, v, g, rfl, by omega, by rw [hl u hu]; omega, ?_⟩
      have hne := near_ne (g := g) (v := v) (hl u hu)
      simp
      refine ⟨plains_I _, ?_⟩
      have e : (!eqDs (I (nearA u v g)) []) = !((upto g).all fun d => !decide (Fits w u v d)) := by
        cases c : (upto g).all fun d => !decide (Fits w u v d) with
        | false =>
          have := hne.mpr c
          cases hn : nearA u v g with
          | nil => exact absurd hn this
          | cons z zs => rfl
        | true =>
          have : nearA u v g = [] := by
            apply Classical.byContradiction
            intro hh
            rw [hne.mp hh] at c
            cases c
          rw [this]; rfl
      rw [e]
      exact hK2
    · refine ⟨ws.map fun v => !(upto g).all fun d => !decide (Fits w u v d), by rw [List.map_map]; rfl, ?_⟩
      simpa [List.any_map, Function.comp_def] using hK
  · refine ⟨ws.map fun u => ws.any fun v => !(upto g).all fun d => !decide (Fits w u v d), by rw [List.map_map]; rfl, ?_⟩
    have e : apartB g w ws = !(ws.any fun u => ws.any fun v => !(upto g).all fun d => !decide (Fits w u v d)) := by
      unfold apartB
      simp [List.not_any_eq_all_not]
    rw [e] at h
    simpa [List.any_map, Function.comp_def] using h
end K30
namespace K30
open PySem PySem.Spec L2 DL PyProof.Rows
/-- a thing that may be held against the marks -/
structure NV (d : D) : Prop where
  ty : hasTy d = true
  tup : ∀ xs, d = .tup xs → xs.length ≤ 1000 ∧ ∀ x ∈ xs, hasTy x = true ∧ ∀ t, x = .str t → t.length ≤ 100000
theorem goD_mapI {tg : FG} {tt : FT} {te : FE} {env : DEnv} (r : D → D) {xs : List D} {n : Nat} {Q : List D → Nat → Prop} (H : ∀ a ∈ xs, ∀ m K, K (some (r a)) m → stepD tg tt te env a m K) (h : Q (xs.map r) n) : goD tg tt te env xs n Q := by
  have := goD_map (c := id) (tg := tg) (tt := tt) (te := te) (env := env) r (xs := xs) (n := n) (Q := Q) H h
  rwa [List.map_id] at this
end K30
namespace K30
open PySem PySem.Spec L2 DL PyProof.Rows
def F_marks : FC := fun ds n Q => ∃ (s : List Nat) (g w a : Nat) (ws : List (List Nat)) (t : List Nat), ds = [gnd s g, RL ws a, .str t] ∧ s ≠ [] ∧ low s = true ∧ RuleOk s w a ws ∧ (∀ c ∈ t, c ∈ s) ∧ t.length ≤ 100000 ∧ Q (.own (I (marksA s w a ws t 0 t.length))) n
theorem low_of {s : List Nat} {g : Nat} (h : OkG s g) : low s = true := low_iff.mpr h.low
theorem ne_of {s : List Nat} {g : Nat} (h : OkG s g) : s ≠ [] := fun e => by have := h.two; rw [e] at this; simp at this
def F__law_apart_right : FC := fun ds n Q => ∃ (s : List Nat) (g w a : Nat) (ws : List (List Nat)), ds = [gnd s g, GR s g, RL ws a] ∧ OkG s g ∧ s.length ≤ 26 ∧ g ≤ 1000 ∧ RuleOk s w a ws ∧ Q (.val (.bl true)) n
end K30
namespace K30
open PySem PySem.Spec L2 DL PyProof.Rows
/-- words drawn -/
structure Ws (s : List Nat) (w : Nat) (ws : List (List Nat)) : Prop where
  len : ∀ x ∈ ws, x.length = w
  mem : ∀ x ∈ ws, ∀ c ∈ x, c ∈ s
theorem Ws.nil {s : List Nat} {w : Nat} : Ws s w [] := ⟨fun _ h => (nomatch h), fun _ h => (nomatch h)⟩
theorem Ws.snoc {s : List Nat} {w : Nat} {ws : List (List Nat)} {x : List Nat} (h : Ws s w ws) (hl : x.length = w) (hm : ∀ c ∈ x, c ∈ s) : Ws s w (ws ++ [x]) :=
  ⟨fun y hy => (List.mem_append.mp hy).elim (h.len y) fun e => by rw [List.mem_singleton.mp e]; exact hl, fun y hy => (List.mem_append.mp hy).elim (h.mem y) fun e => by rw [List.mem_singleton.mp e]; exact hm⟩
theorem uq_le {α : Type} [DecidableEq α] : ∀ (xs acc : List α), (xs.foldl uqPut acc).length ≤ acc.length + xs.length
  | [], acc => by simp
  | x :: xs, acc => by
    have := uq_le xs (uqPut acc x)
    have h2 : (uqPut acc x).length ≤ acc.length + 1 := by unfold uqPut; split <;> simp
    rw [List.foldl_cons, List.length_cons]
    omega
theorem sorted_words {s : List Nat} {w n : Nat} {ws : List (List Nat)} {vs : List D} {Q : List D → Nat → Prop} (hw : Ws s w ws) (hne : ws ≠ []) (hc : ws.length ≤ 60) (hp : 1 ≤ w) (hwl : w ≤ 1000) (h : ∀ ts, (∀ a, a ≤ w → RuleOk s w a ts) → Q (TD ts) n) : oSortedD [.dct (TD (uq ws)) vs] n Q := by
  have hl : (uq ws).length ≤ ws.length := by have := uq_le ws []; simpa [uq] using this
  refine .inl ⟨uq ws, vs, rfl, by omega, fun ts hpm hs => h ts fun a ha => ?_⟩
  have hmem : ∀ x ∈ ts, x ∈ ws := fun x hx => uq_mem.mp (hpm.mem_iff.mp hx)
  have hnd : ts.Nodup := hpm.nodup_iff.mpr (uq_nodup ws)
  refine ⟨?_, fun x hx => hw.len x (hmem x hx), fun x hx => hw.mem x (hmem x hx), ?_, hp, hwl, ha, by rw [hpm.length_eq]; omega⟩
  · intro e
    subst e
    obtain ⟨x, hx⟩ := List.exists_mem_of_ne_nil _ hne
    have := hpm.mem_iff.mpr (uq_mem.mpr hx)
    cases this
  · have h1 := sortedS_le hs
    have h2 := List.nodup_iff_pairwise_ne.mp hnd
    exact (h1.and h2).imp fun {x y} ⟨p, q⟩ => by
      rcases Std.lt_trichotomy x y with r | r | r
      · exact r
      · exact absurd r q
      · exact absurd r p
theorem words_of {s : List Nat} {w : Nat} : ∀ {ys : List D}, (∀ y ∈ ys, ∃ x : List Nat, y = .str x ∧ x.length = w ∧ ∀ c ∈ x, c ∈ s) → ∃ ws, ys = TD ws ∧ Ws s w ws
  | [], _ => ⟨[], rfl, Ws.nil⟩
  | y :: ys, h => by
    obtain ⟨x, rfl, h1, h2⟩ := h y (List.mem_cons_self ..)
    obtain ⟨ws, rfl, h3⟩ := words_of (ys := ys) fun z hz => h z (List.mem_cons_of_mem _ hz)
    refine ⟨x :: ws, rfl, fun z hz => ?_, fun z hz => ?_⟩
    · rcases List.mem_cons.mp hz with rfl | hz
      · exact h1
      · exact h3.len z hz
    · rcases List.mem_cons.mp hz with rfl | hz
      · exact h2
      · exact h3.mem z hz
def F__law_drawn_rule : FC := fun ds n Q => ∃ (s : List Nat) (g most : Nat), ds = [dice, GR s g, .int most] ∧ s ≠ [] ∧ s.length ≤ 26 ∧ 2 ≤ g ∧ g ≤ 100 ∧ 1 ≤ most ∧ most ≤ 100 ∧ n + 100000000 ≤ 1000000000000000000 ∧ ∀ (w a : Nat) (ws : List (List Nat)) m, RuleOk s w a ws → w ≤ 100 → n ≤ m → m ≤ n + 100000000 → Q (.val (RL ws a)) m
theorem law__law_drawn_rule : ∀ ds n Q, F__law_drawn_rule ds n Q → ds.length = 3 → rd__law_drawn_rule F_draw F__law_drawn_word F__law_is_apart { nx := fun _ m => Q (.val .non) m, rt := fun _ => Q } (startE 5 ds) n := by
  rintro ds n Q ⟨s, g, most, rfl, hs, hsl, hg, hg2, hm1, hm2, hn, h⟩ _
  have hsz := s_line
  unfold rd__law_drawn_rule
  refine sSeq_of fun next0 hn0 => ?_
  simp
  refine draw_of (by omega) (by omega) (by omega) fun r m1 hr1 h1 h2 => ?_
  simp
  refine hn0 _ _ ?_
  obtain ⟨w, hw, hw1, hw2⟩ : ∃ w : Nat, (1 : Int) + r = w ∧ 1 ≤ w ∧ w ≤ 100 := ⟨1 + r, by omega, by omega, by omega⟩
  rw [hw]
  refine sSeq_of fun next1 hn1 => ?_
  simp [-goD]
  refine draw_of (by omega) (by omega) (by omega) fun r2 m2 hr2 h3 h4 => ?_
  simp [-goD]
  have hk : ((1 : Int) + r2).toNat = 1 + r2 := by omega
  rw [hk]
  refine ⟨⟨by omega, by omega⟩, ?_⟩
  rw [ups_eq]
  refine goD_draws 4000000 (fun y => ∃ x : List Nat, y = .str x ∧ x.length = w ∧ ∀ c ∈ x, c ∈ s) 1000000000000000000 (by simp; omega) (fun i hi m3 K hm3 hK => ?_) fun ys m3 h5 h6 hys hyl => ?_
  · simp [stepD]
    exact ⟨s, g, w, rfl, hs, hsl, by omega, by omega, fun x m4 hx hxl h7 h8 => hK _ _ h7 h8 ⟨x, rfl, hxl, hx⟩⟩
  obtain ⟨ws, rfl, hws⟩ := words_of hys
  simp at hyl h6
  have hne : ws ≠ [] := fun e => by rw [e] at hyl; simp at hyl; omega
  have hcard : ws.length ≤ 60 := by omega
  refine hn1 _ _ ?_
  refine sSeq_of fun next2 hn2 => ?_
  have key : ∀ (us : List (List Nat)) (x5 x6 : Option Sl) m4, Ws s w us → us ≠ [] → us.length ≤ 60 → m3 ≤ m4 → m4 ≤ m3 + 1000 → next2 [some (.val dice), some (.val (GR s g)), some (.val (.int most)), some (.val (.int w)), some (.val (.lst (TD us))), x5, x6, none] m4 := by
    intro us x5 x6 m4 hus hune huc h7 h8
    refine hn2 _ _ ?_
    simp [-goD]
    refine goD_map (fun x : List Nat => D.tup [.str x, .bl true]) (fun x hx m K hK => by simpa [stepD] using ⟨by omega, hK⟩) ?_
    refine dictP_str2 (kf := fun x => x) (vf := fun _ => .bl true) fun vs hvs => ?_
    rw [List.map_id'] at *
    refine sorted_words hus hune huc hw1 (by omega) fun ts hts => ?_
    refine draw_of (by omega) (by omega) (by omega) fun a m5 ha h9 h10 => ?_
    simp
    have := h w a ts m5 (hts a (by omega)) hw2 (by omega) (by omega)
    exact ⟨by omega, this⟩
  simp
  refine draw_of (by omega) (by omega) (by omega) fun r3 m4 hr3 h7 h8 => ?_
  simp
  by_cases c : r3 = 0
  · rw [if_pos c]
    refine sSeq_of fun next3 hn3 => ?_
    simp
    refine hn3 _ _ ?_
    refine sSeq_of fun next4 hn4 => ?_
    simp
    refine forD_inv (fun pre env m => m = m4 ∧ ∃ (us : List (List Nat)) (x6 : Option Sl), env = [some (.val dice), some (.val (GR s g)), some (.val (.int most)), some (.val (.int w)), some (.val (.lst (TD ws))), some (.val (.lst (TD us))), x6, none] ∧ Ws s w us ∧ us.length ≤ pre.length) ?_ ?_ ?_
    · rintro pre x post env m next eU ⟨rfl, us, x6, rfl, hus, hul⟩ hnext
      have hxl := hws.len x (by rw [eU]; simp)
      have hxm := hws.mem x (by rw [eU]; simp)
      have hpl : pre.length + 1 ≤ 60 := by
        have := congrArg List.length eU
        simp at this
        omega
      have hus2 := hus.snoc hxl hxm
      simp
      refine ⟨by omega, by omega, g, w, us ++ [x], by simp, hus2.len, by omega, hg, by omega, by simp; omega, ?_⟩
      cases cb : apartB g w (us ++ [x]) with
      | true =>
        simp
        refine ⟨by omega, ?_⟩
        exact hnext _ _ ⟨rfl, us ++ [x], some (.val (.str x)), by simp, hus2, by simp; omega⟩
      | false =>
        simp
        refine ⟨by omega, ?_⟩
        exact hnext _ _ ⟨rfl, us, _, rfl, hus, by simp; omega⟩
    · rintro env m ⟨rfl, us, x6, rfl, hus, hul⟩
      refine hn4 _ _ ?_
      simp
      by_cases cu : us = []
      · subst cu
        simp
        exact key ws _ _ _ hws hne hcard h7 (by omega)
      · simp [cu]
        exact key us _ _ _ hus cu (by omega) h7 (by omega)
    · exact ⟨rfl, [], none, rfl, Ws.nil, by simp⟩
  · rw [if_neg c]
    exact key ws none none m4 hws hne hcard h7 (by omega)
def F__law_long_rule : FC := fun ds n Q => ∃ (s : List Nat) (g : Nat), ds = [dice, GR s g] ∧ s ≠ [] ∧ s.length ≤ 26 ∧ 2 ≤ g ∧ g ≤ 100 ∧ n + 400000000 ≤ 1000000000000000000 ∧ ∀ (w a : Nat) (ws : List (List Nat)) m, RuleOk s w a ws → w ≤ 100 → n ≤ m → m ≤ n + 400000000 → Q (.val (RL ws a)) m
end K30
namespace K30
open PySem PySem.Spec L2 DL PyProof.Rows
def F__law_marks_right : FC := fun ds n Q => ∃ (s : List Nat) (g w a : Nat) (ws : List (List Nat)), ds = [dice, gnd s g, GR s g, RL ws a] ∧ OkG s g ∧ s.length ≤ 26 ∧ g ≤ 100 ∧ RuleOk s w a ws ∧ w ≤ 100 ∧ n + 100000000000 ≤ 1000000000000000000 ∧ ∀ m, n ≤ m → m ≤ n + 100000000000 → Q (.val (.bl true)) m
def F__law_kinds_right : FC := fun ds n Q => ∃ (s : List Nat) (g w a : Nat) (ws : List (List Nat)) (t : List Nat), ds = [dice, gnd s g, GR s g, RL ws a, .str t] ∧ OkG s g ∧ s.length ≤ 25 ∧ g ≤ 100 ∧ RuleOk s w a ws ∧ w ≤ 100 ∧ t.length ≤ 1000 ∧ n + 10000 ≤ 1000000000000000000 ∧ ∀ m, n ≤ m → m ≤ n + 10000 → Q (.val (.bl true)) m
theorem nv_of {d : D} (h : hasTy d = true) (h2 : ∀ xs, d ≠ .tup xs) : NV d := ⟨h, fun xs e => absurd e (h2 xs)⟩
/-- a small thing within a tuple -/
structure NI (d : D) : Prop where
  ty : hasTy d = true
  tx : ∀ t, d = .str t → t.length ≤ 100000
theorem ni_int {i : Int} : NI (.int i) := ⟨rfl, fun _ e => nomatch e⟩
theorem ni_bl {b : Bool} : NI (.bl b) := ⟨rfl, fun _ e => nomatch e⟩
theorem ni_non : NI .non := ⟨rfl, fun _ e => nomatch e⟩
theorem ni_str {t : List Nat} (h : t.length ≤ 100000) : NI (.str t) := ⟨rfl, fun _ e => by injection e with e; subst e; exact h⟩
theorem nv_tup {xs : List D} (hl : xs.length ≤ 1000) (h : ∀ x ∈ xs, NI x) : NV (.tup xs) := ⟨rfl, fun ys e => by
  injection e with e
  subst e
  exact ⟨hl, fun x hx => ⟨(h x hx).ty, (h x hx).tx⟩⟩⟩
theorem nvs_nil : ∀ x ∈ ([] : List D), NV x := fun _ h => nomatch h
theorem nvs_cons {y : D} {ys : List D} (h : NV y) (hs : ∀ x ∈ ys, NV x) : ∀ x ∈ y :: ys, NV x := fun z hz => by
  rcases List.mem_cons.mp hz with rfl | hz
  · exact h
  · exact hs z hz
theorem nvs_app {xs ys : List D} (h : ∀ x ∈ xs, NV x) (hs : ∀ x ∈ ys, NV x) : ∀ x ∈ xs ++ ys, NV x := fun z hz => (List.mem_append.mp hz).elim (h z) (hs z)
end K30
namespace K32
open PySem L2 DL
/-- is_whole_words(value), slots 0 value -/
def rd_is_whole_words : FS := (sRet (fAnd (fIsi .int (fVar 0)) (fNot (fIsi .bool (fVar 0)))))
/-- is_count(value, most), slots 0 value 1 most -/
def rd_is_count (F_is_whole_words : FC) : FS := (sRet (fAnd (fCall 1 F_is_whole_words [] (aCons (fVar 0) aNil)) (fAnd (f2 gGe (fVar 0) (fC (.int 0))) (fOr (f2 gIsN (fVar 1) (fC .non)) (f2 gLe (fVar 0) (fVar 1))))))
/-- is_text(value), slots 0 value 1 sign -/
def rd_is_text : FS := (sRet (fAnd (fIsi .str (fVar 0)) (fCl gAll (aCons (fFrz (oComp (iSeqN 0) (gN 1) tYesD (fChain gLe gLe (fC (.str [97])) (fVar 1) (fC (.str [122]))) [1])) aNil))))
/-- is_word(value), slots 0 value -/
def rd_is_word (F_is_text : FC) : FS := (sRet (fAnd (fCall 1 F_is_text [] (aCons (fVar 0) aNil)) (f2 gNe (fVar 0) (fC (.str [])))))
/-- is_rising(things), slots 0 things 1 at -/
def rd_is_rising : FS := (sRet (fCl gAll (aCons (fFrz (oComp (iRange2 (aCons (fC (.int 1)) (aCons (fCl gLen (aCons (fVar 0) aNil)) aNil))) (gN 1) tYesD (f2 gLt (f2 gIx (fVar 0) (f2 gSub (fVar 1) (fC (.int 1)))) (f2 gIx (fVar 0) (fVar 1))) [1])) aNil)))
/-- has(text, period), slots 0 text 1 period -/
def rd_has : FS := (sRet (fAnd (f2 gLt (fVar 1) (fCl gLen (aCons (fVar 0) aNil))) (f2 gEq (fSl (fVar 0) (oSo (fVar 1)) oNo) (fSl (fVar 0) oNo (oSo (f2 gSub (fCl gLen (aCons (fVar 0) aNil)) (fVar 1)))))))
/-- repeats(word, gap), slots 0 word 1 gap 2 period -/
def rd_repeats (F_has : FC) : FS := (sRet (fCl gAny (aCons (fFrz (oComp (iRange2 (aCons (fC (.int 1)) (aCons (fCl gMin (aCons (fVar 1) (aCons (fCl gLen (aCons (fVar 0) aNil)) aNil))) aNil))) (gN 2) tYesD (fCall 2 F_has [] (aCons (fVar 0) (aCons (fVar 2) aNil))) [2])) aNil)))
/-- check_ground(value), slots 0 value -/
def rd_check_ground : FS := (sIf (tNotD (tVal (f1 gIsG (fVar 0)))) sNever sNext)
/-- is_text_of(ground, value), slots 0 ground 1 value 2 sign -/
def rd_is_text_of : FS := (sRet (fAnd (fIsi .str (fVar 1)) (fCl gAll (aCons (fFrz (oComp (iSeqN 1) (gN 2) tYesD (f2 gIn (fVar 2) (f1 gRow (fVar 0))) [2])) aNil))))
/-- sign_at(ground, text, at), slots 0 ground 1 text 2 at -/
def rd_sign_at : FS := (sRet (fIf (tVal (fChain gLe gLt (fC (.int 0)) (fVar 2) (fCl gLen (aCons (fVar 1) aNil)))) (f2 gIx (fVar 1) (fVar 2)) (f2 gIx (f1 gRow (fVar 0)) (fC (.int 0)))))
/-- window_in(ground, text, place), slots 0 ground 1 text 2 place 3 some 4 at -/
def rd_window_in (F_sign_at : FC) : FS := (sSeq (sAsg 3 (fCl gRngV (aCons (f2 gAdd3 (f2 gSub (fVar 2) (f1 gLeast (fVar 0))) (fC (.int 1))) (aCons (f2 gSub (f2 gAdd3 (fVar 2) (f1 gLeast (fVar 0))) (fC (.int 1))) aNil)))) (sRet (fM1 gJoin (fC (.str [])) (fFrz (oComp (iRngN 3) (gN 4) tYesD (fCall 3 F_sign_at [] (aCons (fVar 0) (aCons (fVar 1) (aCons (fVar 4) aNil)))) [4])))))
/-- is_word_of(ground, value), slots 0 ground 1 value -/
def rd_is_word_of (F_is_text_of : FC) (F_is_word : FC) : FS := (sRet (fAnd (fCall 1 F_is_word [] (aCons (fVar 1) aNil)) (fCall 2 F_is_text_of [] (aCons (fVar 0) (aCons (fVar 1) aNil)))))
/-- is_rule_in(ground, value), slots 0 ground 1 value 2 words 3 at 4 word 5 one 6 other -/
def rd_is_rule_in (F_is_count : FC) (F_is_word_of : FC) : FS := (sSeq (sIf (tOrD (tNotD (tVal (fIsi .tuple (fVar 1)))) (tOrD (tVal (f2 gNe (fCl gLen (aCons (fVar 1) aNil)) (fC (.int 2)))) (tOrD (tNotD (tVal (fIsi .list (f2 gIx (fVar 1) (fC (.int 0)))))) (tVal (f2 gEq (f2 gIx (fVar 1) (fC (.int 0))) (fFrz (oLst aNil))))))) (sRet (fC (.bl false))) sNext) (sSeq (sUnp (nT 2 (nsCons (nN 2) (nsCons (nN 3) nsNil))) (fVar 1)) (sSeq (sIf (tNotD (tVal (fCl gAll (aCons (fFrz (oComp (iSeqN 2) (gN 4) tYesD (fCall 2 F_is_word_of [] (aCons (fVar 0) (aCons (fVar 4) aNil))) [4])) aNil)))) (sRet (fC (.bl false))) sNext) (sSeq (sIf (tNotD (tVal (fCl gAll (aCons (fFrz (oComp (iZipD (aCons (fVar 2) (aCons (fSl (fVar 2) (oSo (fC (.int 1))) oNo) aNil))) (gT 2 (gsCons (gN 5) (gsCons (gN 6) gsNil))) tYesD (fAnd (f2 gLt (fVar 5) (fVar 6)) (f2 gEq (fCl gLen (aCons (fVar 5) aNil)) (fCl gLen (aCons (fVar 6) aNil)))) [5, 6])) aNil)))) (sRet (fC (.bl false))) sNext) (sRet (fAnd (fCall 2 F_is_count [.non] (aCons (fVar 3) aNil)) (f2 gLe (fVar 3) (fCl gLen (aCons (f2 gIx (fVar 2) (fC (.int 0))) aNil)))))))))
/-- check_rule(ground, rule), slots 0 ground 1 rule -/
def rd_check_rule (F_check_ground : FC) (F_is_rule_in : FC) : FS := (sSeq (sDrop (fCall 1 F_check_ground [] (aCons (fVar 0) aNil))) (sIf (tNotD (tTru (fCall 2 F_is_rule_in [] (aCons (fVar 0) (aCons (fVar 1) aNil))))) sNever sNext))
/-- signs_between(ground, text, first, behind), slots 0 ground 1 text 2 first 3 behind 4 blank 5 at -/
def rd_signs_between : FS := (sSeq (sAsg 4 (f2 gIx (f1 gRow (fVar 0)) (fC (.int 0)))) (sRet (fM1 gJoin (fC (.str [])) (fFrz (oComp (iRange2 (aCons (fVar 2) (aCons (fVar 3) aNil))) (gN 5) tYesD (fIf (tVal (fChain gLe gLt (fC (.int 0)) (fVar 5) (fCl gLen (aCons (fVar 1) aNil)))) (f2 gIx (fVar 1) (fVar 5)) (fVar 4)) [5])))))
/-- seen_at(ground, text, width, at, place), slots 0 ground 1 text 2 width 3 at 4 place -/
def rd_seen_at (F_signs_between : FC) : FS := (sRet (fCall 4 F_signs_between [] (aCons (fVar 0) (aCons (fVar 1) (aCons (f2 gSub (fVar 4) (fVar 3)) (aCons (f2 gAdd3 (f2 gSub (fVar 4) (fVar 3)) (fVar 2)) aNil))))))
/-- marked_in(ground, rule, text, first, last), slots 0 ground 1 rule 2 text 3 first 4 last 5 words 6 size 7 place 8 word -/
def rd_marked_in (F_seen_at : FC) : FS := (sSeq (sAsg 5 (fCl gDictP (aCons (fFrz (oComp (iSeq (f2 gIx (fVar 1) (fC (.int 0)))) (gN 8) tYesD (fTup (aCons (fVar 8) (aCons (fC (.bl true)) aNil))) [8])) aNil))) (sSeq (sAsg 6 (fCl gLen (aCons (f2 gIx (f2 gIx (fVar 1) (fC (.int 0))) (fC (.int 0))) aNil))) (sRetO (oComp (iRange2 (aCons (fVar 3) (aCons (f2 gAdd3 (fVar 4) (fC (.int 1))) aNil))) (gN 7) (tVal (f2 gIn (fCall 5 F_seen_at [] (aCons (fVar 0) (aCons (fVar 2) (aCons (fVar 6) (aCons (f2 gIx (fVar 1) (fC (.int 1))) (aCons (fVar 7) aNil)))))) (fVar 5))) (fVar 7) [7]))))
/-- near_words(gap, words), slots 0 gap 1 words 2 distance 3 kept 4 heads 5 other 6 one -/
def rd_near_words : FS := (sSeq (sFor (iRange2 (aCons (fC (.int 1)) (aCons (fVar 0) aNil))) (nN 2) (sSeq (sAsg 3 (fCl gMax (aCons (fC (.int 0)) (aCons (f2 gSub (fCl gLen (aCons (f2 gIx (fVar 1) (fC (.int 0))) aNil)) (fVar 2)) aNil)))) (sSeq (sDct 4) (sSeq (sFor (iSeqN 1) (nN 5) (sSetD 4 (fVar 5) (fSl (fVar 5) oNo (oSo (fVar 3))))) (sFor (iSeqN 1) (nN 6) (sIf (tVal (f2 gIn (fSl (fVar 6) (oSo (fVar 2)) oNo) (fVar 4))) (sRetV (fTup (aCons (fVar 6) (aCons (f2 gIx (fVar 4) (fSl (fVar 6) (oSo (fVar 2)) oNo)) (aCons (fVar 2) aNil))))) sNext)))))) (sRet (fC .non)))
/-- missed_in(ground, words, at), slots 0 ground 1 words 2 at 3 size 4 span 5 known 6 rows 7 turn 8 row 9 longer 10 word 11 sign -/
def rd_missed_in (F_repeats : FC) : FS := (sSeq (sAsg 3 (fCl gLen (aCons (f2 gIx (fVar 1) (fC (.int 0))) aNil))) (sSeq (sAsg 4 (f2 gSub (f2 gMul (fC (.int 2)) (f1 gLeast (fVar 0))) (fC (.int 2)))) (sSeq (sAsg 5 (fCl gDictP (aCons (fFrz (oComp (iSeqN 1) (gN 10) tYesD (fTup (aCons (fVar 10) (aCons (fC (.bl true)) aNil))) [10])) aNil))) (sSeq (sAsg 6 (fFrz (oLst (aCons (fC (.str [])) aNil)))) (sSeq (sFor (iRange1 (aCons (f2 gAdd3 (fVar 3) (fVar 4)) aNil)) (nN 7) (sSeq (sAsg 9 (fFrz (oComp2 (iSeq (fVar 6)) (gN 8) tYesD (iSeq (f1 gRow (fVar 0))) (gN 11) tYesD (f2 gAdd3 (fVar 8) (fVar 11)) [8, 11] [11]))) (sAsg 6 (fFrz (oComp (iSeqN 9) (gN 8) (tVal (f2 gNotIn (fSl (fVar 8) (oSo (f1 gNeg (fVar 3))) oNo) (fVar 5))) (fVar 8) [8]))))) (sSeq (sFor (iSeqN 6) (nN 8) (sIf (tNotD (tTru (fCall 2 F_repeats [] (aCons (fSl (fVar 8) (oSo (fVar 2)) (oSo (f2 gAdd3 (fVar 2) (fVar 4)))) (aCons (f1 gLeast (fVar 0)) aNil))))) (sRet (fVar 8)) sNext)) (sRet (fC .non))))))))
/-- missed(ground, rule), slots 0 ground 1 rule 2 found -/
def rd_missed (F_check_rule : FC) (F_missed_in : FC) : FS := (sSeq (sDrop (fCall 2 F_check_rule [] (aCons (fVar 0) (aCons (fVar 1) aNil)))) (sSeq (sAsg 2 (fCall 3 F_missed_in [] (aCons (fVar 0) (aCons (f2 gIx (fVar 1) (fC (.int 0))) (aCons (f2 gIx (fVar 1) (fC (.int 1))) aNil))))) (sRet (fIf (tVal (f2 gIsN (fVar 2) (fC .non))) (fC .non) (fTup (aCons (fVar 2) (aCons (f2 gSub (f2 gAdd3 (f2 gIx (fVar 1) (fC (.int 1))) (f1 gLeast (fVar 0))) (fC (.int 1))) aNil)))))))
/-- is_missed(ground, rule, value), slots 0 ground 1 rule 2 value 3 text 4 place -/
def rd_is_missed (F_check_rule : FC) (F_is_count : FC) (F_is_text_of : FC) (F_marked_in : FC) (F_repeats : FC) (F_window_in : FC) : FS := (sSeq (sDrop (fCall 2 F_check_rule [] (aCons (fVar 0) (aCons (fVar 1) aNil)))) (sSeq (sIf (tOrD (tNotD (tVal (fIsi .tuple (fVar 2)))) (tOrD (tVal (f2 gNe (fCl gLen (aCons (fVar 2) aNil)) (fC (.int 2)))) (tNotD (tTru (fCall 2 F_is_text_of [] (aCons (fVar 0) (aCons (f2 gIx (fVar 2) (fC (.int 0))) aNil))))))) (sRet (fC (.bl false))) sNext) (sSeq (sUnp (nT 2 (nsCons (nN 3) (nsCons (nN 4) nsNil))) (fVar 2)) (sSeq (sIf (tOrD (tNotD (tTru (fCall 2 F_is_count [.non] (aCons (fVar 4) aNil)))) (tOrD (tVal (f2 gGt (fVar 4) (fCl gLen (aCons (fVar 3) aNil)))) (tTru (fCall 2 F_repeats [] (aCons (fCall 3 F_window_in [] (aCons (fVar 0) (aCons (fVar 3) (aCons (fVar 4) aNil)))) (aCons (f1 gLeast (fVar 0)) aNil)))))) (sRet (fC (.bl false))) sNext) (sRet (f2 gEq (fCall 5 F_marked_in [] (aCons (fVar 0) (aCons (fVar 1) (aCons (fVar 3) (aCons (f2 gAdd3 (f2 gSub (fVar 4) (f1 gLeast (fVar 0))) (fC (.int 1))) (aCons (f2 gSub (f2 gAdd3 (fVar 4) (f1 gLeast (fVar 0))) (fC (.int 1))) aNil)))))) (fFrz (oLst aNil))))))))
/-- is_whole_rules(ground, rule), slots 0 ground 1 rule -/
def rd_is_whole_rules (F_check_rule : FC) (F_missed_in : FC) (F_near_words : FC) : FS := (sSeq (sDrop (fCall 2 F_check_rule [] (aCons (fVar 0) (aCons (fVar 1) aNil)))) (sRet (fAnd (f2 gIsN (fCall 2 F_near_words [] (aCons (f1 gLeast (fVar 0)) (aCons (f2 gIx (fVar 1) (fC (.int 0))) aNil))) (fC .non)) (f2 gIsN (fCall 3 F_missed_in [] (aCons (fVar 0) (aCons (f2 gIx (fVar 1) (fC (.int 0))) (aCons (f2 gIx (fVar 1) (fC (.int 1))) aNil)))) (fC .non)))))
/-- _law_dice(script, at), slots 0 script 1 at 2 seed -/
def rd__law_dice : FS := (sSeq (sAsg 2 (fCl gSum (aCons (fSl (fVar 0) (oSo (fVar 1)) (oSo (f2 gAdd3 (fVar 1) (fC (.int 1))))) aNil))) (sRetO (oLst (aCons (f2 gMod (fCl gInt (aCons (fCl gMax (aCons (f2 gSub (fVar 2) (f2 gPow (fC (.int 10)) (fC (.int 18)))) (aCons (fC (.int 0)) aNil))) aNil)) (f2 gPow (f2 gPow (fC (.int 10)) (fC (.int 60))) (fC (.int 8)))) (aCons (f2 gMod (fCl gInt (aCons (fVar 2) aNil)) (fC (.int 2147483629))) (aCons (fC (.int 0)) (aCons (fVar 1) aNil)))))))
/-- _law_mixed(seed, spin, at), slots 0 seed 1 spin 2 at 3 mixed -/
def rd__law_mixed : FS := (sSeq (sAsg 3 (f2 gAdd3 (f2 gMul (fVar 0) (fC (.int 69069))) (f2 gMul (f2 gMul (fC (.int 104729)) (fVar 1)) (fVar 1)))) (sSeq (sAsg 3 (f2 gMod (fCl gInt (aCons (f2 gAdd3 (f2 gAdd3 (fVar 3) (f2 gMul (fC (.int 7919)) (fVar 2))) (fVar 1)) aNil)) (fC (.int 2147483647)))) (sSeq (sAsg 3 (f2 gMod (fCl gInt (aCons (f2 gAdd3 (f2 gMul (fVar 3) (fVar 3)) (fC (.int 40503))) aNil)) (fC (.int 2147483629)))) (sRet (f2 gMod (fCl gInt (aCons (f2 gMul (fVar 3) (fC (.int 48271))) aNil)) (fC (.int 2147483587)))))))
/-- _law_draw(dice, many), slots 0 dice 1 many 2 found 3 piece 4 drawn -/
def rd__law_draw (F__law_mixed : FC) : FS := (sSeq (sIf (tVal (f2 gGt (fIxB 0 0) (fC (.int 0)))) (sSeq (sAsg 4 (f2 gMod (fCl gInt (aCons (fIxB 0 0) aNil)) (fVar 1))) (sSeq (sSetB 0 0 (f2 gDiv (fIxB 0 0) (fVar 1))) (sRet (fVar 4)))) sNext) (sSeq (sAsg 2 (fC (.int 0))) (sSeq (sFor (iRange1 (aCons (f2 gAdd3 (fC (.int 1)) (f2 gDiv (f1 gBits (fVar 1)) (fC (.int 28)))) aNil)) (nN 3) (sSeq (sSetB 0 2 (f2 gAdd3 (fIxB 0 2) (fC (.int 1)))) (sAsg 2 (f2 gAdd3 (f2 gMul (fVar 2) (fC (.int 2147483587))) (fCall 3 F__law_mixed [] (aCons (fIxB 0 1) (aCons (fIxB 0 2) (aCons (fIxB 0 3) aNil)))))))) (sRet (f2 gMod (fCl gInt (aCons (fVar 2) aNil)) (fVar 1))))))
/-- _law_one_of(dice, some), slots 0 dice 1 some -/
def rd__law_one_of (F__law_draw : FC) : FS := (sRet (f2 gIx (fVar 1) (fCall 2 F__law_draw [] (aCons (fVar 0) (aCons (fCl gLen (aCons (fVar 1) aNil)) aNil)))))
/-- _law_exact(mine, theirs), slots 0 mine 1 theirs 2 is_like 3 a 4 b 5 key -/
def rd__law_exact (F__law_exact : FC) : FS := (sSeq (sIf (tVal (fIsiT [.list, .tuple] (fVar 0))) (sSeq (sAsg 2 (fAnd (f2 gEq (fIsi .list (fVar 1)) (fIsi .list (fVar 0))) (f2 gEq (fIsi .tuple (fVar 1)) (fIsi .tuple (fVar 0))))) (sRet (fAnd (fVar 2) (fAnd (f2 gEq (fCl gLen (aCons (fVar 0) aNil)) (fCl gLen (aCons (fVar 1) aNil))) (fCl gAll (aCons (fFrz (oComp (iZipD (aCons (fVar 0) (aCons (fVar 1) aNil))) (gT 2 (gsCons (gN 3) (gsCons (gN 4) gsNil))) tYesD (fCall 2 F__law_exact [] (aCons (fVar 3) (aCons (fVar 4) aNil))) [3, 4])) aNil)))))) sNext) (sSeq (sIf (tVal (fIsi .dict (fVar 0))) (sSeq (sAsg 2 (fAnd (fIsi .dict (fVar 1)) (fCall 2 F__law_exact [] (aCons (fFrz (oCl oList (aCons (fVar 0) aNil))) (aCons (fFrz (oCl oList (aCons (fVar 1) aNil))) aNil))))) (sRet (fAnd (fVar 2) (fCl gAll (aCons (fFrz (oComp (iSeqN 0) (gN 5) tYesD (fCall 2 F__law_exact [] (aCons (f2 gIx (fVar 0) (fVar 5)) (aCons (f2 gIx (fVar 1) (fVar 5)) aNil))) [5])) aNil))))) sNext) (sSeq (sIf (tOrD (tVal (fIsiT [.list, .tuple, .dict] (fVar 1))) (tVal (f2 gNe (f2 gIsN (fVar 0) (fC .non)) (f2 gIsN (fVar 1) (fC .non))))) (sRet (fC (.bl false))) sNext) (sSeq (sAsg 2 (fAnd (f2 gEq (fIsi .int (fVar 0)) (fIsi .int (fVar 1))) (f2 gEq (fIsi .str (fVar 0)) (fIsi .str (fVar 1))))) (sRet (fAnd (fVar 2) (fAnd (f2 gEq (fIsi .bool (fVar 0)) (fIsi .bool (fVar 1))) (f2 gEq (fVar 0) (fVar 1)))))))))
/-- _law_dices(script, few), slots 0 script 1 few 2 at -/
def rd__law_dices (F__law_dice : FC) : FS := (sRetO (oComp (iRange1 (aCons (fCl gMax (aCons (fC (.int 1)) (aCons (fCl gMin (aCons (fVar 1) (aCons (fCl gLen (aCons (fVar 0) aNil)) aNil))) aNil))) aNil)) (gN 2) tYesD (fCall 2 F__law_dice [] (aCons (fVar 0) (aCons (fVar 2) aNil))) [2]))
/-- _law_letters(dice, many), slots 0 dice 1 many 2 found 3 spin 4 late 5 sign -/
def rd__law_letters (F__law_draw : FC) : FS := (sSeq (sAsgO 2 (oLst aNil)) (sSeq (sFor (iRange1 (aCons (fVar 1) aNil)) (nN 3) (sSeq (sAsg 4 (f2 gIx (fC (.str [97, 98, 99, 100, 101, 102, 103, 104, 105, 106, 107, 108, 109, 110, 111, 112, 113, 114, 115, 116, 117, 118, 119, 120, 121, 122])) (fCall 2 F__law_draw [] (aCons (fVar 0) (aCons (fC (.int 26)) aNil))))) (sAppV 2 (fIf (tVal (f2 gNotIn (fVar 4) (fVar 2))) (fVar 4) (f2 gIx (fFrz (oComp (iSeq (fFrz (oCl oList (aCons (fC (.str [97, 98, 99, 100, 101, 102, 103, 104, 105, 106, 107, 108, 109, 110, 111, 112, 113, 114, 115, 116, 117, 118, 119, 120, 121, 122])) aNil)))) (gN 5) (tVal (f2 gNotIn (fVar 5) (fVar 2))) (fVar 5) [5])) (fC (.int 0))))))) (sRetV (fM1 gJoin (fC (.str [])) (fFrz (oCl oSorted (aCons (fVar 2) aNil)))))))
/-- _law_repeats(word, gap), slots 0 word 1 gap 2 period -/
def rd__law_repeats : FS := (sRet (fCl gAny (aCons (fFrz (oComp (iRange2 (aCons (fC (.int 1)) (aCons (fCl gMin (aCons (fVar 1) (aCons (fCl gLen (aCons (fVar 0) aNil)) aNil))) aNil))) (gN 2) tYesD (f2 gEq (fSl (fVar 0) (oSo (fVar 2)) oNo) (fSl (fVar 0) oNo (oSo (f2 gSub (fCl gLen (aCons (fVar 0) aNil)) (fVar 2))))) [2])) aNil)))
/-- _law_words_of(signs, size), slots 0 signs 1 size 2 found 3 spin 4 longer 5 word 6 sign -/
def rd__law_words_of : FS := (sSeq (sAsg 2 (fFrz (oLst (aCons (fC (.str [])) aNil)))) (sSeq (sFor (iRange1 (aCons (fVar 1) aNil)) (nN 3) (sSeq (sAsg 4 (fFrz (oLst aNil))) (sSeq (sFor (iSeqN 2) (nN 5) (sAsg 4 (f2 gAdd3 (fVar 4) (fFrz (oComp (iSeq (fFrz (oCl oList (aCons (fVar 0) aNil)))) (gN 6) tYesD (f2 gAdd3 (fVar 5) (fVar 6)) [6]))))) (sAsg 2 (fVar 4))))) (sRet (fVar 2))))
/-- _law_window(ground, text, place), slots 0 ground 1 text 2 place 3 pad 4 wide 5 at -/
def rd__law_window : FS := (sSeq (sAsg 3 (f2 gMul (f2 gIx (f2 gIx (fVar 0) (fC (.int 0))) (fC (.int 0))) (f2 gMul (fC (.int 3)) (f2 gIx (fVar 0) (fC (.int 1)))))) (sSeq (sPar [4, 5] (xCons (xV (f2 gAdd3 (f2 gAdd3 (fVar 3) (fVar 1)) (fVar 3))) (xCons (xV (f2 gAdd3 (fVar 2) (f2 gMul (fC (.int 3)) (f2 gIx (fVar 0) (fC (.int 1)))))) xNil))) (sRet (fSl (fVar 4) (oSo (f2 gAdd3 (f2 gSub (fVar 5) (f2 gIx (fVar 0) (fC (.int 1)))) (fC (.int 1)))) (oSo (f2 gSub (f2 gAdd3 (fVar 5) (f2 gIx (fVar 0) (fC (.int 1)))) (fC (.int 1))))))))
/-- _law_places(ground, text), slots 0 ground 1 text 2 some 3 place 4 window -/
def rd__law_places (F__law_repeats : FC) (F__law_window : FC) : FS := (sSeq (sAsg 2 (fFrz (oComp (iRange2 (aCons (f2 gSub (fC (.int 2)) (f2 gIx (fVar 0) (fC (.int 1)))) (aCons (f2 gSub (f2 gAdd3 (fCl gLen (aCons (fVar 1) aNil)) (f2 gIx (fVar 0) (fC (.int 1)))) (fC (.int 1))) aNil))) (gN 3) tYesD (fTup (aCons (fVar 3) (aCons (fCall 3 F__law_window [] (aCons (fVar 0) (aCons (fVar 1) (aCons (fVar 3) aNil)))) aNil))) [3]))) (sRet (fCl gDictP (aCons (fFrz (oComp (iSeqN 2) (gT 2 (gsCons (gN 3) (gsCons (gN 4) gsNil))) (tNotD (tTru (fCall 2 F__law_repeats [] (aCons (fVar 4) (aCons (f2 gIx (fVar 0) (fC (.int 1))) aNil))))) (fTup (aCons (fVar 3) (aCons (fVar 4) aNil))) [3, 4])) aNil))))
/-- _law_all_cuts(ground, order, text), slots 0 ground 1 order 2 text 3 places 4 found 5 ranks 6 rank 7 place 8 at 9 window 10 late -/
def rd__law_all_cuts (F__law_places : FC) : FS := (sSeq (sPar [3, 4] (xCons (xV (fCall 2 F__law_places [] (aCons (fVar 0) (aCons (fVar 2) aNil)))) (xCons (xO (oLst aNil)) xNil))) (sSeq (sAsg 5 (fCl gDictP (aCons (fFrz (oComp (iEnumD (aCons (fVar 1) aNil)) (gT 2 (gsCons (gN 8) (gsCons (gN 9) gsNil))) tYesD (fTup (aCons (fVar 9) (aCons (fVar 8) aNil))) [8, 9])) aNil))) (sSeq (sFor (iSeq (fFrz (oCl oSortedA (aCons (fFrz (oComp (iSeqN 3) (gN 7) tYesD (fTup (aCons (f2 gIx (fVar 5) (f2 gIx (fVar 3) (fVar 7))) (aCons (fVar 7) aNil))) [7])) aNil)))) (nT 2 (nsCons (nN 6) (nsCons (nN 7) nsNil))) (sIf (tNotD (tVal (fCl gAny (aCons (fFrz (oComp (iSeqN 4) (gN 10) tYesD (f2 gLt (fCl gAbs (aCons (f2 gSub (fVar 7) (fVar 10)) aNil)) (f2 gIx (fVar 0) (fC (.int 1)))) [10])) aNil)))) (sApp 4 (fVar 7)) sNext)) (sRetOV (oCl oSortedA (aCons (fVar 4) aNil))))))
/-- _law_text(dice, ground, most), slots 0 dice 1 ground 2 most 3 signs 4 found 5 size 6 way 7 word 8 spin -/
def rd__law_text (F__law_draw : FC) (F__law_one_of : FC) : FS := (sSeq (sPar [3, 4] (xCons (xV (fFrz (oCl oList (aCons (f2 gIx (fVar 1) (fC (.int 0))) aNil)))) (xCons (xV (fC (.str []))) xNil))) (sSeq (sAsg 5 (fCall 2 F__law_draw [] (aCons (fVar 0) (aCons (f2 gAdd3 (fVar 2) (fC (.int 1))) aNil)))) (sSeq (sWhile (tVal (f2 gLt (fCl gLen (aCons (fVar 4) aNil)) (fVar 5))) (sSeq (sAsg 6 (fCall 2 F__law_draw [] (aCons (fVar 0) (aCons (fC (.int 4)) aNil)))) (sIf (tVal (f2 gEq (fVar 6) (fC (.int 0)))) (sSeq (sAsg 7 (fM1 gJoin (fC (.str [])) (fFrz (oComp (iRange1 (aCons (f2 gAdd3 (fC (.int 1)) (fCall 2 F__law_draw [] (aCons (fVar 0) (aCons (f2 gIx (fVar 1) (fC (.int 1))) aNil)))) aNil)) (gN 8) tYesD (fCall 2 F__law_one_of [] (aCons (fVar 0) (aCons (fVar 3) aNil))) [8])))) (sAsg 4 (f2 gAdd3 (fVar 4) (f2 gMul (fVar 7) (f2 gAdd3 (fC (.int 1)) (fCall 2 F__law_draw [] (aCons (fVar 0) (aCons (fC (.int 4)) aNil)))))))) (sIf (tVal (f2 gEq (fVar 6) (fC (.int 1)))) (sAsg 4 (f2 gAdd3 (fVar 4) (f2 gMul (f2 gIx (fVar 3) (fC (.int 0))) (f2 gAdd3 (fC (.int 1)) (fCall 2 F__law_draw [] (aCons (fVar 0) (aCons (fC (.int 3)) aNil))))))) (sAsg 4 (f2 gAdd3 (fVar 4) (fM1 gJoin (fC (.str [])) (fFrz (oComp (iRange1 (aCons (f2 gAdd3 (fC (.int 1)) (fCall 2 F__law_draw [] (aCons (fVar 0) (aCons (fC (.int 4)) aNil)))) aNil)) (gN 8) tYesD (fCall 2 F__law_one_of [] (aCons (fVar 0) (aCons (fVar 3) aNil))) [8]))))))))) (sRet (fSl (fVar 4) oNo (oSo (fVar 5)))))))
/-- _law_made(ground), slots 0 ground -/
def rd__law_made : FS := (sRet (fCl gMkG (aCons (f2 gIx (fVar 0) (fC (.int 0))) (aCons (f2 gIx (fVar 0) (fC (.int 1))) aNil))))
/-- _law_other_sign(ground), slots 0 ground 1 sign -/
def rd__law_other_sign : FS := (sRet (f2 gIx (fFrz (oComp (iSeq (fFrz (oCl oList (aCons (fC (.str [122, 121, 120, 119, 118, 117, 116, 115, 114, 113, 112, 111, 110, 109, 108, 107, 106, 105, 104, 103, 102, 101, 100, 99, 98, 97])) aNil)))) (gN 1) (tVal (f2 gNotIn (fVar 1) (f2 gIx (fVar 0) (fC (.int 0))))) (fVar 1) [1])) (fC (.int 0))))
/-- _law_drawn_word(dice, ground, size), slots 0 dice 1 ground 2 size 3 spin -/
def rd__law_drawn_word (F__law_one_of : FC) : FS := (sRet (fM1 gJoin (fC (.str [])) (fFrz (oComp (iRange1 (aCons (fVar 2) aNil)) (gN 3) tYesD (fCall 2 F__law_one_of [] (aCons (fVar 0) (aCons (fFrz (oCl oList (aCons (f2 gIx (fVar 1) (fC (.int 0))) aNil))) aNil))) [3]))))
/-- _law_near_at(one, other, gap), slots 0 one 1 other 2 gap 3 space -/
def rd__law_near_at : FS := (sRetO (oComp (iRange2 (aCons (fC (.int 1)) (aCons (fVar 2) aNil))) (gN 3) (tVal (f2 gEq (fSl (fVar 0) (oSo (fVar 3)) oNo) (fSl (fVar 1) oNo (oSo (fCl gMax (aCons (fC (.int 0)) (aCons (f2 gSub (fCl gLen (aCons (fVar 0) aNil)) (fVar 3)) aNil))))))) (fVar 3) [3]))
/-- _law_seen(ground, text, width, at, place), slots 0 ground 1 text 2 width 3 at 4 place 5 pad 6 first -/
def rd__law_seen : FS := (sSeq (sAsg 5 (f2 gMul (f2 gIx (f2 gIx (fVar 0) (fC (.int 0))) (fC (.int 0))) (f2 gAdd3 (fVar 2) (f2 gMul (fC (.int 3)) (f2 gIx (fVar 0) (fC (.int 1))))))) (sSeq (sAsg 6 (f2 gAdd3 (f2 gSub (fVar 4) (fVar 3)) (fCl gLen (aCons (fVar 5) aNil)))) (sRet (fSl (f2 gAdd3 (f2 gAdd3 (fVar 5) (fVar 1)) (fVar 5)) (oSo (fVar 6)) (oSo (f2 gAdd3 (fVar 6) (fVar 2)))))))
/-- _law_marked(ground, rule, text, first, last), slots 0 ground 1 rule 2 text 3 first 4 last 5 width 6 place -/
def rd__law_marked (F__law_seen : FC) : FS := (sSeq (sAsg 5 (fCl gLen (aCons (f2 gIx (f2 gIx (fVar 1) (fC (.int 0))) (fC (.int 0))) aNil))) (sRetO (oComp (iRange2 (aCons (fVar 3) (aCons (f2 gAdd3 (fVar 4) (fC (.int 1))) aNil))) (gN 6) (tVal (f2 gIn (fCall 5 F__law_seen [] (aCons (fVar 0) (aCons (fVar 2) (aCons (fVar 5) (aCons (f2 gIx (fVar 1) (fC (.int 1))) (aCons (fVar 6) aNil)))))) (f2 gIx (fVar 1) (fC (.int 0))))) (fVar 6) [6])))
/-- _law_is_apart(words, gap), slots 0 words 1 gap 2 one 3 other -/
def rd__law_is_apart (F__law_near_at : FC) : FS := (sRet (fNot (fCl gAny (aCons (fFrz (oComp (iSeqN 0) (gN 2) tYesD (fCl gAny (aCons (fFrz (oComp (iSeqN 0) (gN 3) tYesD (f2 gNe (fCall 3 F__law_near_at [] (aCons (fVar 2) (aCons (fVar 3) (aCons (fVar 1) aNil)))) (fFrz (oLst aNil))) [3])) aNil)) [2])) aNil))))
/-- _law_drawn_rule(dice, ground, most), slots 0 dice 1 ground 2 most 3 width 4 words 5 kept 6 word 7 spin -/
def rd__law_drawn_rule (F__law_draw : FC) (F__law_drawn_word : FC) (F__law_is_apart : FC) : FS := (sSeq (sAsg 3 (f2 gAdd3 (fC (.int 1)) (fCall 2 F__law_draw [] (aCons (fVar 0) (aCons (fVar 2) aNil))))) (sSeq (sAsg 4 (fFrz (oComp (iRange1 (aCons (f2 gAdd3 (fC (.int 1)) (fCall 2 F__law_draw [] (aCons (fVar 0) (aCons (fC (.int 5)) aNil)))) aNil)) (gN 7) tYesD (fCall 3 F__law_drawn_word [] (aCons (fVar 0) (aCons (fVar 1) (aCons (fVar 3) aNil)))) [7]))) (sSeq (sIf (tVal (f2 gEq (fCall 2 F__law_draw [] (aCons (fVar 0) (aCons (fC (.int 2)) aNil))) (fC (.int 0)))) (sSeq (sAsg 5 (fFrz (oLst aNil))) (sSeq (sFor (iSeqN 4) (nN 6) (sAsg 5 (f2 gAdd3 (fVar 5) (f2 gMulL (fFrz (oLst (aCons (fVar 6) aNil))) (fCl gInt (aCons (fCall 2 F__law_is_apart [] (aCons (f2 gAdd3 (fVar 5) (fFrz (oLst (aCons (fVar 6) aNil)))) (aCons (f2 gIx (fVar 1) (fC (.int 1))) aNil))) aNil)))))) (sAsg 4 (fIf (tTru (fVar 5)) (fVar 5) (fVar 4))))) sNext) (sRet (fTup (aCons (fFrz (oCl oSortedD (aCons (fCl gDictP (aCons (fFrz (oComp (iSeqN 4) (gN 6) tYesD (fTup (aCons (fVar 6) (aCons (fC (.bl true)) aNil))) [6])) aNil)) aNil))) (aCons (fCall 2 F__law_draw [] (aCons (fVar 0) (aCons (f2 gAdd3 (fVar 3) (fC (.int 1))) aNil))) aNil)))))))
/-- _law_misses(ground, rule, value), slots 0 ground 1 rule 2 value 3 text 4 place 5 sign -/
def rd__law_misses (F__law_marked : FC) (F__law_repeats : FC) (F__law_window : FC) : FS := (sSeq (sIf (tOrD (tNotD (tVal (fIsi .tuple (fVar 2)))) (tOrD (tVal (f2 gNe (fCl gLen (aCons (fVar 2) aNil)) (fC (.int 2)))) (tOrD (tNotD (tVal (fIsi .str (f2 gIx (fVar 2) (fC (.int 0)))))) (tNotD (tVal (fCl gAll (aCons (fFrz (oComp (iSeq (fFrz (oCl oList (aCons (f2 gIx (fVar 2) (fC (.int 0))) aNil)))) (gN 5) tYesD (f2 gIn (fVar 5) (fFrz (oCl oList (aCons (f2 gIx (fVar 0) (fC (.int 0))) aNil)))) [5])) aNil))))))) (sRet (fC (.bl false))) sNext) (sSeq (sUnp (nT 2 (nsCons (nN 3) (nsCons (nN 4) nsNil))) (fVar 2)) (sSeq (sIf (tOrD (tNotD (tVal (fIsi .int (fVar 4)))) (tOrD (tVal (fIsi .bool (fVar 4))) (tNotD (tVal (fChain gLe gLe (fC (.int 0)) (fVar 4) (fCl gLen (aCons (fVar 3) aNil))))))) (sRet (fC (.bl false))) sNext) (sSeq (sIf (tTru (fCall 2 F__law_repeats [] (aCons (fCall 3 F__law_window [] (aCons (fVar 0) (aCons (fVar 3) (aCons (fVar 4) aNil)))) (aCons (f2 gIx (fVar 0) (fC (.int 1))) aNil)))) (sRet (fC (.bl false))) sNext) (sRet (f2 gEq (fCall 5 F__law_marked [] (aCons (fVar 0) (aCons (fVar 1) (aCons (fVar 3) (aCons (f2 gAdd3 (f2 gSub (fVar 4) (f2 gIx (fVar 0) (fC (.int 1)))) (fC (.int 1))) (aCons (f2 gSub (f2 gAdd3 (fVar 4) (f2 gIx (fVar 0) (fC (.int 1)))) (fC (.int 1))) aNil)))))) (fFrz (oLst aNil))))))))
/-- _law_misses_some(ground, rule), slots 0 ground 1 rule 2 width 3 span 4 text 5 at -/
def rd__law_misses_some (F__law_repeats : FC) (F__law_words_of : FC) : FS := (sSeq (sPar [2, 3] (xCons (xV (fCl gLen (aCons (f2 gIx (f2 gIx (fVar 1) (fC (.int 0))) (fC (.int 0))) aNil))) (xCons (xV (f2 gSub (f2 gMul (fC (.int 2)) (f2 gIx (fVar 0) (fC (.int 1)))) (fC (.int 2)))) xNil))) (sSeq (sFor (iSeq (fCall 2 F__law_words_of [] (aCons (f2 gIx (fVar 0) (fC (.int 0))) (aCons (f2 gAdd3 (fVar 2) (fVar 3)) aNil)))) (nN 4) (sIf (tNotD (tTru (fCall 2 F__law_repeats [] (aCons (fSl (fVar 4) (oSo (f2 gIx (fVar 1) (fC (.int 1)))) (oSo (f2 gAdd3 (f2 gIx (fVar 1) (fC (.int 1))) (fVar 3)))) (aCons (f2 gIx (fVar 0) (fC (.int 1))) aNil))))) (sIf (tNotD (tVal (fCl gAny (aCons (fFrz (oComp (iRange1 (aCons (f2 gAdd3 (fVar 3) (fC (.int 1))) aNil)) (gN 5) tYesD (f2 gIn (fSl (fVar 4) (oSo (fVar 5)) (oSo (f2 gAdd3 (fVar 5) (fVar 2)))) (f2 gIx (fVar 1) (fC (.int 0)))) [5])) aNil)))) (sRet (fC (.bl true))) sNext) sNext)) (sRet (fC (.bl false)))))
/-- _law_near_rule(dice, ground), slots 0 dice 1 ground 2 one 3 other 4 order 5 words 6 way 7 at 8 late 9 word 10 sign -/
def rd__law_near_rule (F__law_all_cuts : FC) (F__law_draw : FC) (F__law_drawn_rule : FC) (F__law_drawn_word : FC) (F__law_words_of : FC) : FS := (sSeq (sIf (tOrD (tVal (f2 gGt (fCl gLen (aCons (f2 gIx (fVar 1) (fC (.int 0))) aNil)) (fC (.int 2)))) (tOrD (tVal (f2 gGt (f2 gIx (fVar 1) (fC (.int 1))) (fC (.int 2)))) (tVal (f2 gEq (fCall 2 F__law_draw [] (aCons (fVar 0) (aCons (fC (.int 4)) aNil))) (fC (.int 0)))))) (sRet (fCall 3 F__law_drawn_rule [] (aCons (fVar 0) (aCons (fVar 1) (aCons (fIf (tVal (f2 gGt (fCl gLen (aCons (f2 gIx (fVar 1) (fC (.int 0))) aNil)) (fC (.int 3)))) (fC (.int 3)) (fC (.int 4))) aNil))))) sNext) (sSeq (sPar [2, 3] (xCons (xV (f2 gAdd3 (f2 gIx (f2 gIx (fVar 1) (fC (.int 0))) (fC (.int 0))) (f2 gIx (f2 gIx (fVar 1) (fC (.int 0))) (fC (.int 1))))) (xCons (xV (f2 gAdd3 (f2 gIx (f2 gIx (fVar 1) (fC (.int 0))) (fC (.int 1))) (f2 gIx (f2 gIx (fVar 1) (fC (.int 0))) (fC (.int 0))))) xNil))) (sSeq (sAsg 4 (fIf (tVal (f2 gEq (fCall 2 F__law_draw [] (aCons (fVar 0) (aCons (fC (.int 2)) aNil))) (fC (.int 0)))) (fFrz (oLst (aCons (fVar 2) (aCons (fVar 3) aNil)))) (fFrz (oLst (aCons (fVar 3) (aCons (fVar 2) aNil)))))) (sSeq (sAsg 5 (fFrz (oComp (iSeq (fCall 2 F__law_words_of [] (aCons (f2 gIx (fVar 1) (fC (.int 0))) (aCons (fC (.int 4)) aNil)))) (gN 9) (tVal (f2 gIn (fC (.int 2)) (fCall 3 F__law_all_cuts [] (aCons (fVar 1) (aCons (fVar 4) (aCons (fVar 9) aNil)))))) (fVar 9) [9]))) (sSeq (sPar [6, 7] (xCons (xV (fCall 2 F__law_draw [] (aCons (fVar 0) (aCons (fC (.int 7)) aNil)))) (xCons (xV (fCall 2 F__law_draw [] (aCons (fVar 0) (aCons (fCl gLen (aCons (fVar 5) aNil)) aNil)))) xNil))) (sSeq (sIf (tVal (f2 gEq (fVar 6) (fC (.int 1)))) (sAsg 5 (f2 gAdd3 (fSl (fVar 5) oNo (oSo (fVar 7))) (fSl (fVar 5) (oSo (f2 gAdd3 (fVar 7) (fC (.int 1)))) oNo))) sNext) (sSeq (sIf (tVal (f2 gEq (fVar 6) (fC (.int 2)))) (sAsg 5 (fFrz (oCl oSortedD (aCons (fCl gDictP (aCons (fFrz (oComp (iSeq (f2 gAdd3 (fVar 5) (fFrz (oLst (aCons (fCall 3 F__law_drawn_word [] (aCons (fVar 0) (aCons (fVar 1) (aCons (fC (.int 4)) aNil)))) aNil))))) (gN 9) tYesD (fTup (aCons (fVar 9) (aCons (fC (.bl true)) aNil))) [9])) aNil)) aNil)))) sNext) (sSeq (sIf (tVal (f2 gEq (fVar 6) (fC (.int 3)))) (sAsg 5 (fFrz (oCl oSortedA (aCons (fCl gSumL (aCons (fFrz (oComp (iSeqN 5) (gN 9) tYesD (fFrz (oComp (iSeq (fFrz (oCl oList (aCons (f2 gIx (fVar 1) (fC (.int 0))) aNil)))) (gN 10) tYesD (f2 gAdd3 (fVar 9) (fVar 10)) [10])) [9])) (aCons (fFrz (oLst aNil)) aNil))) aNil)))) sNext) (sSeq (sIf (tVal (f2 gEq (fVar 6) (fC (.int 4)))) (sRet (fTup (aCons (fFrz (oCl oSortedA (aCons (fCl gSumL (aCons (fFrz (oComp (iSeqN 5) (gN 9) tYesD (fFrz (oComp (iSeq (fFrz (oCl oList (aCons (f2 gIx (fVar 1) (fC (.int 0))) aNil)))) (gN 10) tYesD (f2 gAdd3 (fVar 10) (fVar 9)) [10])) [9])) (aCons (fFrz (oLst aNil)) aNil))) aNil))) (aCons (fC (.int 3)) aNil)))) sNext) (sSeq (sIf (tVal (f2 gGt (fVar 6) (fC (.int 4)))) (sSeq (sAsg 8 (fIf (tVal (f2 gEq (fVar 6) (fC (.int 5)))) (fCl gSumL (aCons (fFrz (oComp (iSeqN 5) (gN 9) tYesD (fFrz (oComp (iSeq (fFrz (oCl oList (aCons (f2 gIx (fVar 1) (fC (.int 0))) aNil)))) (gN 10) tYesD (f2 gAdd3 (fVar 9) (fVar 10)) [10])) [9])) (aCons (fFrz (oLst aNil)) aNil))) (fVar 5))) (sSeq (sAsg 8 (fFrz (oCl oSortedA (aCons (fCl gSumL (aCons (fFrz (oComp (iSeqN 8) (gN 9) tYesD (fFrz (oComp (iSeq (fFrz (oCl oList (aCons (f2 gIx (fVar 1) (fC (.int 0))) aNil)))) (gN 10) tYesD (f2 gAdd3 (fVar 10) (fVar 9)) [10])) [9])) (aCons (fFrz (oLst aNil)) aNil))) aNil)))) (sSeq (sAsg 7 (fCall 2 F__law_draw [] (aCons (fVar 0) (aCons (fCl gLen (aCons (fVar 8) aNil)) aNil)))) (sSeq (sIf (tVal (f2 gEq (fCall 2 F__law_draw [] (aCons (fVar 0) (aCons (fC (.int 2)) aNil))) (fC (.int 0)))) (sRet (fTup (aCons (f2 gAdd3 (fSl (fVar 8) oNo (oSo (fVar 7))) (fSl (fVar 8) (oSo (f2 gAdd3 (fVar 7) (fC (.int 1)))) oNo)) (aCons (fC (.int 3)) aNil)))) sNext) (sRet (fTup (aCons (fFrz (oCl oSortedD (aCons (fCl gDictP (aCons (fFrz (oComp (iSeq (f2 gAdd3 (fVar 8) (fFrz (oLst (aCons (fCall 3 F__law_drawn_word [] (aCons (fVar 0) (aCons (fVar 1) (aCons (fCl gLen (aCons (f2 gIx (fVar 8) (fC (.int 0))) aNil)) aNil)))) aNil))))) (gN 9) tYesD (fTup (aCons (fVar 9) (aCons (fC (.bl true)) aNil))) [9])) aNil)) aNil))) (aCons (fC (.int 3)) aNil)))))))) sNext) (sRet (fTup (aCons (fVar 5) (aCons (fC (.int 2)) aNil))))))))))))))
/-- _law_rule_right(dice, made, ground, rule), slots 0 dice 1 made 2 ground 3 rule 4 misses 5 told -/
def rd__law_rule_right (F__law_exact : FC) (F__law_is_apart : FC) (F__law_misses : FC) (F__law_misses_some : FC) (F_is_missed : FC) (F_is_whole_rules : FC) (F_missed : FC) : FS := (sSeq (sAsg 4 (fCall 2 F__law_misses_some [] (aCons (fVar 2) (aCons (fVar 3) aNil)))) (sSeq (sIf (tNotD (tTru (fCall 2 F__law_exact [] (aCons (fCall 2 F_is_whole_rules [] (aCons (fVar 1) (aCons (fVar 3) aNil))) (aCons (fAnd (fCall 2 F__law_is_apart [] (aCons (f2 gIx (fVar 3) (fC (.int 0))) (aCons (f2 gIx (fVar 2) (fC (.int 1))) aNil))) (fNot (fVar 4))) aNil))))) (sRet (fC (.bl false))) sNext) (sSeq (sAsg 5 (fCall 2 F_missed [] (aCons (fVar 1) (aCons (fVar 3) aNil)))) (sSeq (sIf (tOrD (tVal (f2 gIsN (fVar 5) (fC .non))) (tNotD (tTru (fVar 4)))) (sRet (fAnd (f2 gIsN (fVar 5) (fC .non)) (fNot (fVar 4)))) sNext) (sSeq (sIf (tOrD (tNotD (tTru (fCall 3 F__law_misses [] (aCons (fVar 2) (aCons (fVar 3) (aCons (fVar 5) aNil)))))) (tVal (f2 gGt (fCl gLen (aCons (f2 gIx (fVar 5) (fC (.int 0))) aNil)) (f2 gSub (f2 gAdd3 (fCl gLen (aCons (f2 gIx (f2 gIx (fVar 3) (fC (.int 0))) (fC (.int 0))) aNil)) (f2 gMul (fC (.int 2)) (f2 gIx (fVar 2) (fC (.int 1))))) (fC (.int 2)))))) (sRet (fC (.bl false))) sNext) (sRet (f2 gIsB (fCall 3 F_is_missed [] (aCons (fVar 1) (aCons (fVar 3) (aCons (fVar 5) aNil)))) (fC (.bl true)))))))))
/-- _law_judged_right(dice, made, ground, rule), slots 0 dice 1 made 2 ground 3 rule 4 text 5 far 6 things 7 late 8 place 9 thing -/
def rd__law_judged_right (F__law_drawn_word : FC) (F__law_exact : FC) (F__law_made : FC) (F__law_misses : FC) (F__law_one_of : FC) (F__law_other_sign : FC) (F__law_text : FC) (F_is_missed : FC) : FS := (sSeq (sPar [4, 5] (xCons (xV (f2 gAdd3 (fCall 3 F__law_text [] (aCons (fVar 0) (aCons (fVar 2) (aCons (fC (.int 10)) aNil)))) (fCall 3 F__law_drawn_word [] (aCons (fVar 0) (aCons (fVar 2) (aCons (fC (.int 4)) aNil)))))) (xCons (xV (fCall 1 F__law_other_sign [] (aCons (fVar 2) aNil))) xNil))) (sSeq (sAsg 6 (f2 gAdd3 (fFrz (oComp (iRange2 (aCons (f1 gNeg (f2 gIx (fVar 2) (fC (.int 1)))) (aCons (f2 gAdd3 (f2 gAdd3 (fCl gLen (aCons (fVar 4) aNil)) (f2 gIx (fVar 2) (fC (.int 1)))) (fC (.int 1))) aNil))) (gN 8) tYesD (fTup (aCons (fVar 4) (aCons (fVar 8) aNil))) [8])) (fFrz (oLst (aCons (fTup (aCons (fVar 4) (aCons (fC .non) aNil))) (aCons (fTup (aCons (fVar 4) (aCons (fC (.str [49])) aNil))) (aCons (fTup (aCons (fVar 4) (aCons (fC (.bl true)) aNil))) (aCons (fTup (aCons (fVar 4) (aCons (fC (.bl false)) aNil))) (aCons (fFrz (oLst (aCons (fVar 4) (aCons (fC (.int 1)) aNil)))) (aCons (fTup (aCons (fC .non) (aCons (fC (.int 0)) aNil))) aNil)))))))))) (sSeq (sAsg 6 (f2 gAdd3 (fVar 6) (fFrz (oLst (aCons (fTup (aCons (fVar 4) aNil)) (aCons (fTup (aCons (fVar 4) (aCons (fC (.int 1)) (aCons (fC (.int 0)) aNil)))) (aCons (fTup (aCons (f2 gAdd3 (fVar 4) (fVar 5)) (aCons (fC (.int 1)) aNil))) (aCons (fTup (aCons (f2 gAdd3 (fVar 5) (fVar 4)) (aCons (fC (.int 2)) aNil))) (aCons (fVar 4) (aCons (fC .non) (aCons (fC (.int 0)) (aCons (fTup aNil) (aCons fDct0 (aCons (fTup (aCons (fC (.str [])) (aCons (fC (.int 0)) aNil))) (aCons (fTup (aCons (f2 gIx (fVar 2) (fC (.int 0))) (aCons (fC (.int 1)) aNil))) (aCons (fTup (aCons (f2 gIx (fVar 2) (fC (.int 0))) (aCons (fFrz (oLst (aCons (fC (.int 1)) aNil))) aNil))) aNil)))))))))))))))) (sSeq (sAsg 7 (fCall 2 F__law_one_of [] (aCons (fVar 0) (aCons (fVar 6) aNil)))) (sSeq (sIf (tNotD (tTru (fCall 2 F__law_exact [] (aCons (fCall 3 F_is_missed [] (aCons (fCall 1 F__law_made [] (aCons (fVar 2) aNil)) (aCons (fVar 3) (aCons (fVar 7) aNil)))) (aCons (fCall 3 F__law_misses [] (aCons (fVar 2) (aCons (fVar 3) (aCons (fVar 7) aNil)))) aNil))))) (sRet (fC (.bl false))) sNext) (sRet (fCl gAll (aCons (fFrz (oComp (iSeqN 6) (gN 9) tYesD (fCall 2 F__law_exact [] (aCons (fCall 3 F_is_missed [] (aCons (fVar 1) (aCons (fVar 3) (aCons (fVar 9) aNil)))) (aCons (fCall 3 F__law_misses [] (aCons (fVar 2) (aCons (fVar 3) (aCons (fVar 9) aNil)))) aNil))) [9])) aNil))))))))
/-- law(script), slots 0 script 1 dice 2 signs 3 gap 4 ground 5 made 6 rule 7 rules 8 words 9 drawn 10 late 11 kept -/
def rd_law (F__law_dices : FC) (F__law_draw : FC) (F__law_exact : FC) (F__law_judged_right : FC) (F__law_letters : FC) (F__law_made : FC) (F__law_near_rule : FC) (F__law_one_of : FC) (F__law_rule_right : FC) : FS := (sSeq (sFor (iSeq (fCall 2 F__law_dices [] (aCons (fVar 0) (aCons (fC (.int 2)) aNil)))) (nN 1) (sSeq (sUnp (nT 2 (nsCons (nN 2) (nsCons (nN 3) nsNil))) (fCall 2 F__law_one_of [] (aCons (fVar 1) (aCons (fFrz (oLst (aCons (fTup (aCons (fC (.int 2)) (aCons (fC (.int 2)) aNil))) (aCons (fTup (aCons (fC (.int 2)) (aCons (fC (.int 2)) aNil))) (aCons (fTup (aCons (fC (.int 2)) (aCons (fC (.int 3)) aNil))) (aCons (fTup (aCons (fC (.int 3)) (aCons (fC (.int 2)) aNil))) (aCons (fTup (aCons (fC (.int 4)) (aCons (fC (.int 2)) aNil))) aNil))))))) aNil)))) (sSeq (sAsg 4 (fTup (aCons (fCall 2 F__law_letters [] (aCons (fVar 1) (aCons (fVar 2) aNil))) (aCons (fVar 3) aNil)))) (sSeq (sPar [5, 6] (xCons (xV (fCall 1 F__law_made [] (aCons (fVar 4) aNil))) (xCons (xV (fCall 2 F__law_near_rule [] (aCons (fVar 1) (aCons (fVar 4) aNil)))) xNil))) (sSeq (sAsg 7 (fFrz (oLst (aCons (fVar 6) (aCons (fTup (aCons (f2 gIx (fVar 6) (fC (.int 0))) (aCons (fCall 2 F__law_draw [] (aCons (fVar 1) (aCons (f2 gAdd3 (fCl gLen (aCons (f2 gIx (f2 gIx (fVar 6) (fC (.int 0))) (fC (.int 0))) aNil)) (fC (.int 1))) aNil))) aNil))) (aCons (fCall 2 F__law_near_rule [] (aCons (fVar 1) (aCons (fVar 4) aNil))) aNil)))))) (sSeq (sAsgO 8 (oLst aNil)) (sFor (iSeq (f2 gAdd3 (fVar 7) (fSl (fVar 7) oNo (oSo (fC (.int 1)))))) (nN 9) (sSeq (sClr 8) (sSeq (sExt 8 (f2 gIx (fVar 9) (fC (.int 0)))) (sBlk [8] (sSeq (sPar [10, 11] (xCons (xV (fTup (aCons (fVarU 8) (aCons (f2 gIx (fVar 9) (fC (.int 1))) aNil)))) (xCons (xV (fTup (aCons (fFrz (oCl oList (aCons (f2 gIx (fVar 9) (fC (.int 0))) aNil))) (aCons (f2 gIx (fVar 9) (fC (.int 1))) aNil)))) xNil))) (sIf (tOrD (tNotD (tTru (fCall 4 F__law_rule_right [] (aCons (fVar 1) (aCons (fVar 5) (aCons (fVar 4) (aCons (fVar 10) aNil))))))) (tOrD (tNotD (tTru (fCall 4 F__law_judged_right [] (aCons (fVar 1) (aCons (fVar 5) (aCons (fVar 4) (aCons (fVar 10) aNil))))))) (tNotD (tTru (fCall 2 F__law_exact [] (aCons (fVar 10) (aCons (fVar 11) aNil))))))) (sRet (fC (.bl false))) sNext)))))))))))) (sRet (fC (.bl true))))
def rd_init1 (F_is_count : FC) (F_is_rising : FC) (F_is_text : FC) : FT := (tOrD (tNotD (tTru (fCall 1 F_is_text [] (aCons (fVar 1) aNil)))) (tOrD (tVal (f2 gLt (fCl gLen (aCons (fVar 1) aNil)) (fC (.int 2)))) (tNotD (tTru (fCall 1 F_is_rising [] (aCons (fVar 1) aNil))))))
def rd_init2 (F_is_count : FC) (F_is_rising : FC) (F_is_text : FC) : FT := (tOrD (tNotD (tTru (fCall 2 F_is_count [.non] (aCons (fVar 2) aNil)))) (tVal (f2 gLt (fVar 2) (fC (.int 2)))))
end K32
namespace K32
open PySem PySem.Spec L2 DL PyProof.Rows
open K30 (RL RuleOk seenW seenW_len apartB apart_iff Fits NV)
abbrev F_is_whole_words : FC := F_is_whole
theorem law_is_whole_words : ∀ ds n Q, F_is_whole_words ds n Q → ds.length = 1 → rd_is_whole_words { nx := fun _ m => Q (.val .non) m, rt := fun _ => Q } (startE 0 ds) n := law_is_whole
abbrev F_is_rule_in : FC := K30.F_is_rule_in
theorem law_is_rule_in : ∀ ds n Q, F_is_rule_in ds n Q → ds.length = 2 → rd_is_rule_in F_is_count F_is_word_of { nx := fun _ m => Q (.val .non) m, rt := fun _ => Q } (startE 5 ds) n := K30.law_is_rule_in
abbrev F_check_rule : FC := K30.F_check_rule
theorem law_check_rule : ∀ ds n Q, F_check_rule ds n Q → ds.length = 2 → rd_check_rule F_check_ground F_is_rule_in { nx := fun _ m => Q (.val .non) m, rt := fun _ => Q } (startE 0 ds) n := K30.law_check_rule
abbrev F_signs_between : FC := K30.F_signs_between
theorem law_signs_between : ∀ ds n Q, F_signs_between ds n Q → ds.length = 4 → rd_signs_between { nx := fun _ m => Q (.val .non) m, rt := fun _ => Q } (startE 2 ds) n := K30.law_signs_between
abbrev F_near_words : FC := K30.F_near_words
theorem law_near_words : ∀ ds n Q, F_near_words ds n Q → ds.length = 2 → rd_near_words { nx := fun _ m => Q (.val .non) m, rt := fun _ => Q } (startE 5 ds) n := K30.law_near_words
abbrev F__law_other_sign : FC := K30.F__law_other_sign
theorem law__law_other_sign : ∀ ds n Q, F__law_other_sign ds n Q → ds.length = 1 → rd__law_other_sign { nx := fun _ m => Q (.val .non) m, rt := fun _ => Q } (startE 1 ds) n := K30.law__law_other_sign
abbrev F__law_near_at : FC := K30.F__law_near_at
theorem law__law_near_at : ∀ ds n Q, F__law_near_at ds n Q → ds.length = 3 → rd__law_near_at { nx := fun _ m => Q (.val .non) m, rt := fun _ => Q } (startE 1 ds) n := K30.law__law_near_at
abbrev F__law_is_apart : FC := K30.F__law_is_apart
theorem law__law_is_apart : ∀ ds n Q, F__law_is_apart ds n Q → ds.length = 2 → rd__law_is_apart F__law_near_at { nx := fun _ m => Q (.val .non) m, rt := fun _ => Q } (startE 2 ds) n := K30.law__law_is_apart
def F_seen_at : FC := fun ds n Q => ∃ (s : List Nat) (g : Nat) (t : List Nat) (w a : Nat) (p : Int), ds = [gnd s g, .str t, .int w, .int a, .int p] ∧ s ≠ [] ∧ w ≤ 1000 ∧ a ≤ 1000 ∧ -100000 ≤ p ∧ p ≤ 200000 ∧ t.length ≤ 100000 ∧ Q (.val (.str (seenW s t w a p))) n
theorem law_seen_at : ∀ ds n Q, F_seen_at ds n Q → ds.length = 5 → rd_seen_at F_signs_between { nx := fun _ m => Q (.val .non) m, rt := fun _ => Q } (startE 0 ds) n := by
  rintro ds n Q ⟨s, g, t, w, a, p, rfl, hs, hw, ha, hp0, hp, ht, h⟩ _
  simp [rd_seen_at]
  refine ⟨s, g, t, _, _, rfl, hs, by omega, by omega, by omega, by omega, by omega, ?_⟩
  rw [show ((p : Int) - a + w - (p - a)).toNat = w by omega]
  exact h
def marksZ (s : List Nat) (w a : Nat) (ws : List (List Nat)) (t : List Nat) (f l : Int) : List Int := ((List.range (l + 1 - f).toNat).map fun i : Nat => f + (i : Int)).filter fun p => decide (seenW s t w a p ∈ ws)
theorem ups_map (f : Int) (k : Nat) : ups f k = ((List.range k).map fun i : Nat => f + (i : Int)).map D.int := by
  rw [ups_eq, List.map_map]; rfl
def F_marked_in : FC := fun ds n Q => ∃ (s : List Nat) (g w a : Nat) (ws : List (List Nat)) (t : List Nat) (f l : Int), ds = [gnd s g, RL ws a, .str t, .int f, .int l] ∧ s ≠ [] ∧ RuleOk s w a ws ∧ -10000 ≤ f ∧ f ≤ 110000 ∧ -10000 ≤ l ∧ l ≤ 110000 ∧ t.length ≤ 100000 ∧ Q (.own (IZ (marksZ s w a ws t f l))) n
theorem law_marked_in : ∀ ds n Q, F_marked_in ds n Q → ds.length = 5 → rd_marked_in F_seen_at { nx := fun _ m => Q (.val .non) m, rt := fun _ => Q } (startE 4 ds) n := by
  rintro ds n Q ⟨s, g, w, a, ws, t, f, l, rfl, hs, hr, hf1, hf2, hl1, hl2, ht, h⟩ _
  have hsz := s_line
  have hw := hr.wle
  have ha := hr.ale
  have hc := hr.card
  unfold rd_marked_in
  refine sSeq_of fun next0 hn0 => ?_
  simp [RL, -goD]
  refine goD_map (fun x : List Nat => D.tup [.str x, .bl true]) (fun x hx m K hK => by simpa [stepD] using ⟨by omega, hK⟩) ?_
  refine dictP_str2 (kf := fun x => x) (vf := fun _ => .bl true) fun vs hvs => ?_
  rw [List.map_id', uq_nd hr.nd] at *
  refine hn0 _ _ ?_
  refine sSeq_of fun next1 hn1 => ?_
  obtain ⟨x0, xs, e0⟩ : ∃ x0 xs, ws = x0 :: xs := by
    cases ws with
    | nil => exact absurd rfl hr.ne
    | cons x0 xs => exact ⟨x0, xs, rfl⟩
  have hx0 : x0.length = w := hr.len x0 (by rw [e0]; exact List.mem_cons_self ..)
  have e1 : atI (ws.map D.str) 0 = some (.str x0) := by rw [e0]; simp
  simp [e1, hx0]
  refine hn1 _ _ ?_
  simp [-goD]
  refine ⟨⟨by omega, by omega, by omega, by omega⟩, ?_⟩
  rw [ups_map]
  refine goD_filter (c := D.int) (fun p : Int => decide (seenW s t w a p ∈ ws)) D.int (fun p hp m K hT hF => ?_) h
  obtain ⟨i, hi, rfl⟩ := List.mem_map.mp hp
  have hi := List.mem_range.mp hi
  simp [stepD]
  refine ⟨s, g, t, w, a, f + i, by simp, hs, by omega, by omega, by omega, by omega, by omega, ?_⟩
  simp [dget_td hvs.symm]
  by_cases c : seenW s t w (a : Int) ((f : Int) + i) ∈ ws
  · rw [if_pos c]; exact hT (by simpa using c)
  · rw [if_neg c]; exact hF (by simpa using c)
def F__law_seen : FC := fun ds n Q => ∃ (s : List Nat) (g : Nat) (t : List Nat) (w a : Nat) (p : Int), ds = [GR s g, .str t, .int w, .int a, .int p] ∧ s ≠ [] ∧ g ≤ 1000 ∧ w ≤ 1000 ∧ a ≤ w ∧ -(3 * (g : Int)) ≤ p ∧ p ≤ t.length + 3 * g ∧ t.length ≤ 100000 ∧ Q (.val (.str (seenW s t w a p))) n
theorem seen_padZ {s : List Nat} {t : List Nat} {w a K c : Nat} {p : Int} (hc : s.headD 0 = c) (h0 : 0 ≤ p + K - a) (h1 : p + K - a + w ≤ K + t.length + K) :
    ((List.replicate K c ++ t ++ List.replicate K c).drop (p + K - a).toNat).take w = seenW s t w a p := by
  have hl : (List.replicate K c ++ t ++ List.replicate K c).length = K + t.length + K := by simp; omega
  refine List.ext_getElem (by rw [List.length_take, List.length_drop, hl, seenW_len]; omega) fun k q1 q2 => ?_
  rw [seenW_len] at q2
  have hk : (p + K - a).toNat + k < K + t.length + K := by omega
  have e1 : (((List.replicate K c ++ t ++ List.replicate K c).drop (p + K - a).toNat).take w)[k] = (List.replicate K c ++ t ++ List.replicate K c).getD ((p + K - a).toNat + k) 0 := by
    rw [List.getElem_take, List.getElem_drop, List.getD_eq_getElem?_getD, List.getElem?_eq_getElem (by rw [hl]; exact hk)]
    rfl
  rw [e1, pad_get c t K hk]
  have e2 : (seenW s t w a p)[k]'(by rw [seenW_len]; exact q2) = sgAt s t (p - a + k) := by simp [seenW]
  rw [e2]
  by_cases hin : 0 ≤ (p : Int) - a + k ∧ (p : Int) - a + k < t.length
  · rw [if_pos (by omega), sgAt_in hin.1 hin.2]
    congr 1
    omega
  · rw [if_neg (by omega), sgAt_out (by omega), hc]
theorem law__law_seen : ∀ ds n Q, F__law_seen ds n Q → ds.length = 5 → rd__law_seen { nx := fun _ m => Q (.val .non) m, rt := fun _ => Q } (startE 2 ds) n := by
  rintro ds n Q ⟨s, g, t, w, a, p, rfl, hs, hg, hw, ha, hp0, hp, ht, h⟩ _
  obtain ⟨c, s', rfl⟩ : ∃ c s', s = c :: s' := by
    cases s with
    | nil => exact absurd rfl hs
    | cons c s' => exact ⟨c, s', rfl⟩
  have hsz := s_line
  unfold rd__law_seen
  refine sSeq_of fun next0 hn0 => ?_
  simp
  refine ⟨.left (by decide), ⟨by omega, by omega, by omega⟩, ?_⟩
  have e0 : ((w : Int) + 3 * (g : Int)).toNat = w + 3 * g := by omega
  rw [e0]
  have hsp := seen_padZ (s := c :: s') (t := t) (w := w) (a := a) (p := p) (K := w + 3 * g) (c := c) rfl (by omega) (by omega)
  have hK : w + 3 * g ≤ 4000 := by omega
  have hKw : w ≤ w + 3 * g := by omega
  have hq0 : 0 ≤ p + (w + 3 * g : Nat) - a := by omega
  have hq1 : p + (w + 3 * g : Nat) - a + w ≤ (w + 3 * g : Nat) + t.length + (w + 3 * g : Nat) := by omega
  generalize w + 3 * g = K at *
  refine hn0 _ _ ?_
  refine sSeq_of fun next1 hn1 => ?_
  simp
  refine hn1 _ _ ?_
  simp
  refine ⟨by omega, by omega, ?_⟩
  have e1 : (p : Int) - a + K = (((p + K - a).toNat : Nat) : Int) := by omega
  rw [e1, show (((p + K - a).toNat : Nat) : Int) + (w : Int) = (((p + K - a).toNat + w : Nat) : Int) by omega, cutL_in _ (by simp; omega) (by simp; omega), Nat.add_sub_cancel_left]
  rw [← List.append_assoc]
  rw [hsp]
  exact h
def F__law_marked : FC := fun ds n Q => ∃ (s : List Nat) (g w a : Nat) (ws : List (List Nat)) (t : List Nat) (f l : Int), ds = [GR s g, RL ws a, .str t, .int f, .int l] ∧ s ≠ [] ∧ g ≤ 1000 ∧ RuleOk s w a ws ∧ -(3 * (g : Int)) ≤ f ∧ f ≤ 110000 ∧ -10000 ≤ l ∧ l ≤ t.length + 3 * g ∧ t.length ≤ 100000 ∧ Q (.own (IZ (marksZ s w a ws t f l))) n
theorem law__law_marked : ∀ ds n Q, F__law_marked ds n Q → ds.length = 5 → rd__law_marked F__law_seen { nx := fun _ m => Q (.val .non) m, rt := fun _ => Q } (startE 2 ds) n := by
  rintro ds n Q ⟨s, g, w, a, ws, t, f, l, rfl, hs, hg, hr, hf, hf2, hlb, hl, ht, h⟩ _
  have hsz := s_line
  have hw := hr.wle
  have ha := hr.ale
  have hc := hr.card
  unfold rd__law_marked
  refine sSeq_of fun next1 hn1 => ?_
  obtain ⟨x0, xs, e0⟩ : ∃ x0 xs, ws = x0 :: xs := by
    cases ws with
    | nil => exact absurd rfl hr.ne
    | cons x0 xs => exact ⟨x0, xs, rfl⟩
  have hx0 : x0.length = w := hr.len x0 (by rw [e0]; exact List.mem_cons_self ..)
  have e1 : atI (ws.map D.str) 0 = some (.str x0) := by rw [e0]; simp
  simp [RL, e1, hx0]
  refine hn1 _ _ ?_
  simp [-goD]
  · refine ⟨⟨by omega, by omega, by omega, by omega⟩, ?_⟩
    rw [ups_map]
    refine goD_filter (c := D.int) (fun p : Int => decide (seenW s t w a p ∈ ws)) D.int (fun p hp m K hT hF => ?_) h
    obtain ⟨i, hi, rfl⟩ := List.mem_map.mp hp
    have hi := List.mem_range.mp hi
    simp [stepD]
    refine ⟨s, g, t, w, a, f + i, by simp, hs, by omega, by omega, by omega, by omega, by omega, by omega, ?_⟩
    simp
    by_cases c : seenW s t w (a : Int) ((f : Int) + i) ∈ ws
    · rw [if_pos c]; exact hT (by simpa using c)
    · rw [if_neg c]; exact hF (by simpa using c)
end K32
namespace K32
open PySem PySem.Spec L2 DL PyProof.Rows
open K30 (RL RuleOk seenW seenW_len apartB apart_iff Fits NV)
/-- no word of a rule stands in a row -/
def Free (w : Nat) (ws : List (List Nat)) (row : List Nat) : Prop := ∀ i, i + w ≤ row.length → (row.drop i).take w ∉ ws
structure MissRow (s : List Nat) (g w a : Nat) (ws : List (List Nat)) (row : List Nat) : Prop where
  len : row.length = w + (2 * g - 2)
  mem : ∀ c ∈ row, c ∈ s
  free : Free w ws row
  own : reps ((row.drop a).take (2 * g - 2)) g = false
theorem free_snoc {w : Nat} {ws : List (List Nat)} {row : List Nat} {c : Nat} (hw : 1 ≤ w) (hl : ∀ x ∈ ws, x.length = w) : Free w ws (row ++ [c]) ↔ Free w ws row ∧ (row ++ [c]).drop ((row ++ [c]).length - w) ∉ ws := by
  have hlen : (row ++ [c]).length = row.length + 1 := by simp
  constructor
  · intro h
    refine ⟨fun i hi hm => ?_, fun hm => ?_⟩
    · refine h i (by omega) ?_
      rw [List.drop_append_of_le_length (by omega), List.take_append_of_le_length (by rw [List.length_drop]; omega)]
      exact hm
    · by_cases c1 : w ≤ (row ++ [c]).length
      · refine h ((row ++ [c]).length - w) (by omega) ?_
        rw [List.take_of_length_le (by rw [List.length_drop]; omega)]
        exact hm
      · have := hl _ hm
        rw [List.length_drop] at this
        omega
  · rintro ⟨h1, h2⟩ i hi hm
    by_cases c1 : i + w ≤ row.length
    · refine h1 i c1 ?_
      rw [List.drop_append_of_le_length (by omega), List.take_append_of_le_length (by rw [List.length_drop]; omega)] at hm
      exact hm
    · have e : i = (row ++ [c]).length - w := by omega
      rw [e, List.take_of_length_le (by rw [List.length_drop]; omega)] at hm
      exact h2 hm
def F_missed_in : FC := fun ds n Q => ∃ (s : List Nat) (g w a : Nat) (ws : List (List Nat)), ds = [gnd s g, .lst (TD ws), .int a] ∧ s ≠ [] ∧ 2 ≤ g ∧ g ≤ 1000 ∧ RuleOk s w a ws ∧ s.length ^ (w + (2 * g - 2)) ≤ 1000000 ∧ (∀ row, MissRow s g w a ws row → Q (.val (.str row)) n) ∧ ((∀ row, ¬ MissRow s g w a ws row) → Q (.val .non) n)
theorem cutL_back {α : Type} (xs : List α) {k : Nat} (hk : 1 ≤ k) : cutL xs (some (-(k : Int))) none = xs.drop (xs.length - k) := by
  unfold cutL
  have : HT.sIx xs.length 0 (some (-(k : Int))) = xs.length - k := by
    show (if (-(k : Int)) < 0 then ((-(k : Int)) + (xs.length : Int)).toNat else min (-(k : Int)).toNat xs.length) = _
    rw [if_pos (by omega)]
    omega
  rw [this]
  show (xs.drop (xs.length - k)).take (xs.length - (xs.length - k)) = _
  rw [List.take_of_length_le (by simp)]
theorem law_missed_in : ∀ ds n Q, F_missed_in ds n Q → ds.length = 3 → rd_missed_in F_repeats { nx := fun _ m => Q (.val .non) m, rt := fun _ => Q } (startE 9 ds) n := by
  rintro ds n Q ⟨s, g, w, a, ws, rfl, hs, hg, hg2, hr, hfew, h1, h2⟩ _
  have hsz := s_line
  have hw := hr.wle
  have hwp := hr.pos
  have ha := hr.ale
  have hc := hr.card
  have hb : ∀ j ≤ w + (2 * g - 2), s.length ^ j ≤ 1000000 := fun j hj => by
    have := wordsOf_le hs hfew hj
    rwa [wordsOf_len] at this
  obtain ⟨x0, xs, e0⟩ : ∃ x0 xs, ws = x0 :: xs := by
    cases ws with
    | nil => exact absurd rfl hr.ne
    | cons x0 xs => exact ⟨x0, xs, rfl⟩
  have hx0 : x0.length = w := hr.len x0 (by rw [e0]; exact List.mem_cons_self ..)
  have e1 : atI (ws.map D.str) 0 = some (.str x0) := by rw [e0]; simp
  unfold rd_missed_in
  refine sSeq_of fun next0 hn0 => ?_
  simp [e1, hx0]
  refine hn0 _ _ ?_
  refine sSeq_of fun next1 hn1 => ?_
  simp
  refine ⟨.left (by decide), hn1 _ _ ?_⟩
  have esp : (2 : Int) * g - 2 = ((2 * g - 2 : Nat) : Int) := by omega
  rw [esp]
  refine sSeq_of fun next2 hn2 => ?_
  simp [-goD]
  refine goD_map (fun x : List Nat => D.tup [.str x, .bl true]) (fun x hx m K hK => by simpa [stepD] using ⟨by omega, hK⟩) ?_
  refine dictP_str2 (kf := fun x => x) (vf := fun _ => .bl true) fun vs hvs => ?_
  rw [List.map_id', uq_nd hr.nd] at *
  refine hn2 _ _ ?_
  refine sSeq_of fun next3 hn3 => ?_
  simp
  refine ⟨by decide, hn3 _ _ ?_⟩
  refine sSeq_of fun next4 hn4 => ?_
  simp
  refine ⟨⟨by omega, by omega⟩, ?_⟩
  rw [ups_eq, show ((w : Int) + ((2 * g - 2 : Nat) : Int)).toNat = w + (2 * g - 2) by omega]
  generalize hS : 2 * g - 2 = sp at *
  refine forD_inv (fun pre env m => m = n ∧ ∃ (L : List (List Nat)) (x7 x8 x9 x10 x11 : Option Sl), env = [some (.val (gnd s g)), some (.val (.lst (TD ws))), some (.val (.int a)), some (.val (.int w)), some (.val (.int (sp : Nat))), some (.val (.dct (TD ws) vs)), some (.val (.lst (TD L))), x7, x8, x9, x10, x11] ∧ (∀ row, row ∈ L ↔ row.length = pre.length ∧ (∀ c ∈ row, c ∈ s) ∧ Free w ws row) ∧ L.length ≤ s.length ^ pre.length) ?_ ?_ ⟨rfl, [[]], _, _, _, _, _, rfl, fun row => ?_, by simp⟩
  · rintro pre q post env m next hx ⟨rfl, L, x7, x8, x9, x10, x11, rfl, hL, hLl⟩ hn
    have hpl : pre.length + 1 ≤ w + sp := by
      have := congrArg List.length hx
      simp at this
      omega
    have b1 := hb (pre.length + 1) hpl
    have b2 := hb pre.length (by omega)
    have b3 : L.length * s.length ≤ s.length ^ (pre.length + 1) := by
      rw [Nat.pow_succ]; exact Nat.mul_le_mul_right _ hLl
    refine sSeq_of fun next5 hn5 => ?_
    simp
    refine go2_map (fun (v : List Nat) (c : Nat) => D.str (v ++ [c])) s (by omega) (fun v hv j m' K hj hK => ?_) ?_
    · have hvl := ((hL v).mp hv).1
      simp
      refine ⟨by omega, ?_⟩
      refine goD_map (fun c : Nat => D.str (v ++ [c])) (fun c hc j K2 hK2 => ?_) hK
      simp [stepD]
      exact ⟨by omega, hK2⟩
    · have eM : (L.flatMap fun v => s.map fun c => D.str (v ++ [c])) = TD (L.flatMap fun v => s.map fun c => v ++ [c]) := by
        simp [List.map_flatMap, Function.comp_def]
      rw [eM]
      have hM : ∀ row, row ∈ (L.flatMap fun v => s.map fun c => v ++ [c]) ↔ ∃ v ∈ L, ∃ c ∈ s, row = v ++ [c] := fun row => by
        simp only [List.mem_flatMap, List.mem_map]
        constructor
        · rintro ⟨v, hv, c, hc, rfl⟩; exact ⟨v, hv, c, hc, rfl⟩
        · rintro ⟨v, hv, c, hc, rfl⟩; exact ⟨v, hv, c, hc, rfl⟩
      have hMl : (L.flatMap fun v => s.map fun c => v ++ [c]).length = L.length * s.length := by
        rw [List.length_flatMap]
        have : ∀ L : List (List Nat), (L.map fun _ => s.length).sum = L.length * s.length := fun L => by
          induction L with
          | nil => simp
          | cons x L ih => rw [List.map_cons, List.sum_cons, ih, List.length_cons, Nat.succ_mul]; omega
        simpa using this L
      generalize (L.flatMap fun v => s.map fun c => v ++ [c]) = M at *
      refine hn5 _ _ ?_
      simp
      refine goD_filter (fun v : List Nat => decide (v.drop (v.length - w) ∉ ws)) D.str (fun v hv m K hT hF => ?_) ?_
      · simp [stepD, dget_td hvs.symm]
        rw [cutL_back _ hwp]
        by_cases c : v.drop (v.length - w) ∈ ws
        · rw [if_pos c]; exact hF (by simpa using c)
        · rw [if_neg c]; exact hT (by simpa using c)
      · refine hn _ _ ⟨rfl, M.filter fun v : List Nat => decide (v.drop (v.length - w) ∉ ws), _, _, _, _, _, rfl, fun row => ?_, ?_⟩
        · rw [List.mem_filter, hM, List.length_append, List.length_singleton]
          constructor
          · rintro ⟨⟨v, hv, c, hc, rfl⟩, h3⟩
            obtain ⟨a1, a2, a3⟩ := (hL v).mp hv
            refine ⟨by simp [a1], fun x hx => ?_, (free_snoc hwp hr.len).mpr ⟨a3, by simpa using h3⟩⟩
            rcases List.mem_append.mp hx with hx | hx
            · exact a2 x hx
            · rw [List.mem_singleton.mp hx]; exact hc
          · rintro ⟨a1, a2, a3⟩
            have hne : row ≠ [] := fun e => by rw [e] at a1; simp at a1
            obtain ⟨v, c, rfl⟩ : ∃ v c, row = v ++ [c] := ⟨row.dropLast, row.getLast hne, (List.dropLast_concat_getLast hne).symm⟩
            obtain ⟨a4, a5⟩ := (free_snoc hwp hr.len).mp a3
            exact ⟨⟨v, (hL v).mpr ⟨by simpa using a1, fun x hx => a2 x (List.mem_append_left _ hx), a4⟩, c, a2 c (by simp), rfl⟩, by simpa using a5⟩
        · rw [List.length_append, List.length_singleton]
          exact Nat.le_trans (List.length_filter_le _ _) (by omega)
  · rintro env m ⟨rfl, L, x7, x8, x9, x10, x11, rfl, hL, hLl⟩
    rw [List.length_range] at hL hLl
    have b1 := hb (w + sp) (Nat.le_refl _)
    refine hn4 _ _ ?_
    refine sSeq_of fun next5 hn5 => ?_
    simp
    have hcut : ∀ row ∈ L, cutL row (some (a : Int)) (some ((a : Int) + (sp : Int))) = (row.drop a).take sp := fun row hr' => cutL_mid row a sp (by rw [((hL row).mp hr').1]; omega)
    refine forD_inv (c := D.str) (fun pre env m1 => True ∧ ∃ x8, env = [some (.val (gnd s g)), some (.val (.lst (TD ws))), some (.val (.int a)), some (.val (.int w)), some (.val (.int (sp : Nat))), some (.val (.dct (TD ws) vs)), some (.val (.lst (TD L))), x7, x8, x9, x10, x11] ∧ (∀ row ∈ pre, reps ((row.drop a).take sp) g = true) ∧ m1 = m) ?_ ?_ ⟨trivial, _, rfl, (fun _ h => nomatch h), rfl⟩
    · rintro pre row post env m1 next hx ⟨_, x8, rfl, hpre, rfl⟩ hn
      have hrow : row ∈ L := by rw [hx]; simp
      have hrl := ((hL row).mp hrow).1
      simp
      rw [hcut row hrow]
      refine ⟨_, g, rfl, by rw [List.length_take]; omega, ?_⟩
      cases hrep : reps ((row.drop a).take sp) g with
      | true =>
        simp
        refine hn _ _ ⟨trivial, _, rfl, fun v hv => ?_, rfl⟩
        rcases List.mem_append.mp hv with hv | hv
        · exact hpre v hv
        · rw [List.mem_singleton.mp hv]; exact hrep
      | false =>
        simp
        obtain ⟨a1, a2, a3⟩ := (hL row).mp hrow
        exact h1 row ⟨by rw [hS]; exact a1, a2, a3, by rw [hS]; exact hrep⟩
    · rintro env m1 ⟨_, x8, rfl, hpre, rfl⟩
      refine hn5 _ _ ?_
      simp
      refine h2 fun row hm => ?_
      have := hpre row ((hL row).mpr ⟨by rw [hm.len, hS], hm.mem, hm.free⟩)
      have h4 := hm.own
      rw [hS, this] at h4
      cases h4
  · rw [List.mem_singleton]
    constructor
    · rintro rfl
      refine ⟨rfl, (fun _ h => nomatch h), fun i hi => ?_⟩
      simp at hi
      omega
    · rintro ⟨e, _⟩
      exact List.eq_nil_of_length_eq_zero e
end K32
namespace K32
open PySem PySem.Spec L2 DL PyProof.Rows
open K30 (RL RuleOk seenW seenW_len apartB apart_iff Fits NV)
def F_missed : FC := fun ds n Q => ∃ (s : List Nat) (g w a : Nat) (ws : List (List Nat)), ds = [gnd s g, RL ws a] ∧ s ≠ [] ∧ low s = true ∧ 2 ≤ g ∧ g ≤ 1000 ∧ RuleOk s w a ws ∧ s.length ^ (w + (2 * g - 2)) ≤ 1000000 ∧ (∀ row, MissRow s g w a ws row → Q (.val (.tup [.str row, .int ((a : Int) + g - 1)])) n) ∧ ((∀ row, ¬ MissRow s g w a ws row) → Q (.val .non) n)
theorem law_missed : ∀ ds n Q, F_missed ds n Q → ds.length = 2 → rd_missed F_check_rule F_missed_in { nx := fun _ m => Q (.val .non) m, rt := fun _ => Q } (startE 1 ds) n := by
  rintro ds n Q ⟨s, g, w, a, ws, rfl, hs, hl, hg, hg2, hr, hf, h1, h2⟩ _
  have hsz := s_line
  unfold rd_missed
  refine sSeq_of fun next0 hn0 => ?_
  simp
  refine ⟨s, g, w, a, ws, rfl, hl, hr, hn0 _ _ ?_⟩
  refine sSeq_of fun next1 hn1 => ?_
  simp [RL]
  refine ⟨s, g, w, a, ws, rfl, hs, hg, hg2, hr, hf, fun row hrow => ?_, fun hno => ?_⟩
  · refine hn1 _ _ ?_
    simp
    exact ⟨by omega, h1 row hrow⟩
  · refine hn1 _ _ ?_
    simp
    exact h2 hno
def F_is_whole_rules : FC := fun ds n Q => ∃ (s : List Nat) (g w a : Nat) (ws : List (List Nat)), ds = [gnd s g, RL ws a] ∧ s ≠ [] ∧ low s = true ∧ 2 ≤ g ∧ g ≤ 1000 ∧ RuleOk s w a ws ∧ s.length ^ (w + (2 * g - 2)) ≤ 1000000 ∧ ∀ b : Bool, (b = true ↔ apartB g w ws = true ∧ ∀ row, ¬ MissRow s g w a ws row) → Q (.val (.bl b)) n
theorem law_is_whole_rules : ∀ ds n Q, F_is_whole_rules ds n Q → ds.length = 2 → rd_is_whole_rules F_check_rule F_missed_in F_near_words { nx := fun _ m => Q (.val .non) m, rt := fun _ => Q } (startE 0 ds) n := by
  rintro ds n Q ⟨s, g, w, a, ws, rfl, hs, hl, hg, hg2, hr, hf, h⟩ _
  have hsz := s_line
  unfold rd_is_whole_rules
  refine sSeq_of fun next0 hn0 => ?_
  simp
  refine ⟨s, g, w, a, ws, rfl, hl, hr, hn0 _ _ ?_⟩
  simp [RL]
  refine ⟨s, g, w, a, ws, rfl, hr, hg, hg2, fun hno => ?_, fun u hu v hv d hd1 hd2 hfit => ?_⟩
  · simp
    refine ⟨s, g, w, a, ws, rfl, hs, hg, hg2, hr, hf, fun row hrow => ?_, fun hno2 => ?_⟩
    · simp
      exact h false ⟨(fun e => nomatch e), fun e => absurd hrow (e.2 row)⟩
    · simp
      exact h true ⟨fun _ => ⟨apart_iff.mpr hno, hno2⟩, fun _ => rfl⟩
  · simp
    refine h false ⟨(fun e => nomatch e), fun e => absurd hfit (apart_iff.mp e.1 u hu v hv d hd1 hd2)⟩
def missB (s : List Nat) (g w a : Nat) (ws : List (List Nat)) : D → Bool
  | .tup [.str t, .int p] => (t.all fun c => decide (c ∈ s)) && (decide (0 ≤ p) && (decide (p ≤ t.length) && (!reps (winAt s g t p) g && decide (marksZ s w a ws t (p - g + 1) (p + g - 1) = []))))
  | _ => false
theorem plIZ (k : Nat) : ∀ l : List Int, plains k (IZ l) = true
  | [] => rfl
  | a :: l => by simp only [List.map_cons, plains, plIZ k l]; cases k <;> rfl
theorem eq_nilD {l : List Int} : eqDs (IZ l) [] = decide (l = []) := by
  cases l <;> simp [IZ]
def F_is_missed : FC := fun ds n Q => ∃ (s : List Nat) (g w a : Nat) (ws : List (List Nat)) (d : D), ds = [gnd s g, RL ws a, d] ∧ s ≠ [] ∧ low s = true ∧ RuleOk s w a ws ∧ 2 ≤ g ∧ g ≤ 1000 ∧ NV d ∧ Q (.val (.bl (missB s g w a ws d))) n
theorem law_is_missed : ∀ ds n Q, F_is_missed ds n Q → ds.length = 3 → rd_is_missed F_check_rule F_is_count F_is_text_of F_marked_in F_repeats F_window_in { nx := fun _ m => Q (.val .non) m, rt := fun _ => Q } (startE 2 ds) n := by
  rintro ds n Q ⟨s, g, w, a, ws, d, rfl, hs, hl, hr, hg, hg2, hd, h⟩ _
  have hsz := s_line
  unfold rd_is_missed
  refine sSeq_of fun next0 hn0 => ?_
  simp
  refine ⟨s, g, w, a, ws, rfl, hl, hr, ?_⟩
  refine hn0 _ _ ?_
  refine sSeq_of fun next1 hn1 => ?_
  by_cases c0 : ∃ xs, d = .tup xs
  case neg =>
    have e1 : isiD .tuple d = false := by
      have := hd.ty
      cases d <;> first | rfl | exact absurd ⟨_, rfl⟩ c0
    have e2 : missB s g w a ws d = false := by
      cases d <;> first | rfl | exact absurd ⟨_, rfl⟩ c0
    rw [e2] at h
    simp [-isiD, -hasTy, e1, hd.ty]
    exact h
  obtain ⟨xs, rfl⟩ := c0
  obtain ⟨hxl, hx⟩ := hd.tup xs rfl
  by_cases c1 : xs.length = 2
  case neg =>
    have e2 : missB s g w a ws (.tup xs) = false := by
      unfold missB
      split
      · rename_i e; injection e with e; subst e; simp at c1
      · rfl
    rw [e2] at h
    simp
    rw [if_neg (by omega)]
    exact h
  obtain ⟨x, y, rfl⟩ : ∃ x y, xs = [x, y] := by
    match xs, c1 with
    | [x, y], _ => exact ⟨x, y, rfl⟩
  have hx1 := hx x (by simp)
  have hy1 := hx y (by simp)
  simp
  refine ⟨s, g, x, rfl, hx1.1, ?_⟩
  simp
  by_cases c2 : ∃ t, x = .str t
  case neg =>
    have e2 : isTxOf s x = false := by
      cases x <;> first | rfl | exact absurd ⟨_, rfl⟩ c2
    have e3 : missB s g w a ws (.tup [x, y]) = false := by
      unfold missB
      split
      · rename_i e; injection e with e; injection e with e1 e; exact absurd ⟨_, e1⟩ c2
      · rfl
    rw [e3] at h
    simp [e2]
    exact h
  obtain ⟨t, rfl⟩ := c2
  have ht := hx1.2 t rfl
  cases c3 : (t.all fun c => decide (c ∈ s)) with
  | false =>
    have e3 : missB s g w a ws (.tup [.str t, y]) = false := by
      unfold missB
      split
      · rename_i e; injection e with e; injection e with e1 e; injection e1 with e1; subst e1; rw [c3]; rfl
      · rfl
    rw [e3] at h
    simp [c3]
    exact h
  | true =>
    simp [c3]
    refine hn1 _ _ ?_
    refine sSeq_of fun next2 hn2 => ?_
    simp
    refine hn2 _ _ ?_
    refine sSeq_of fun next3 hn3 => ?_
    simp
    refine ⟨y, .non, rfl, hy1.1, .inl rfl, ?_⟩
    simp
    by_cases c4 : ∃ i, y = .int i
    case neg =>
      have e4 : isCnt y .non = false := by
        cases y <;> first | rfl | exact absurd ⟨_, rfl⟩ c4
      have e5 : missB s g w a ws (.tup [.str t, y]) = false := by
        unfold missB
        split
        · rename_i e; injection e with e; injection e with e1 e; injection e with e2 e; exact absurd ⟨_, e2⟩ c4
        · rfl
      rw [e5] at h
      simp [e4]
      exact h
    obtain ⟨p, rfl⟩ := c4
    have hS : missB s g w a ws (.tup [.str t, .int p]) = (decide (0 ≤ p) && (decide (p ≤ t.length) && (!reps (winAt s g t p) g && decide (marksZ s w a ws t (p - g + 1) (p + g - 1) = [])))) := by
      simp only [missB, c3, Bool.true_and]
    rw [hS] at h
    simp
    by_cases q1 : 0 ≤ p
    case neg =>
      rw [if_neg q1]
      rw [decide_eq_false q1, Bool.false_and] at h
      exact h
    rw [if_pos q1]
    rw [decide_eq_true q1, Bool.true_and] at h
    by_cases q3 : (t.length : Int) < p
    case pos =>
      rw [if_pos q3]
      rw [decide_eq_false (show ¬ p ≤ t.length by omega), Bool.false_and] at h
      exact h
    rw [if_neg q3]
    rw [decide_eq_true (show p ≤ t.length by omega), Bool.true_and] at h
    refine ⟨s, g, t, p, rfl, hs, hg, hg2, by omega, by omega, ?_⟩
    simp
    refine ⟨_, g, rfl, by rw [winAt_len]; omega, ?_⟩
    cases q4 : reps (winAt s g t p) g with
    | true =>
      rw [q4] at h
      simp
      exact h
    | false =>
      rw [q4] at h
      simp
      refine hn3 _ _ ?_
      simp
      refine ⟨s, g, w, a, ws, t, _, _, rfl, hs, hr, by omega, by omega, by omega, by omega, by omega, ?_⟩
      simp
      refine ⟨plIZ _ _, ?_⟩
      rw [eq_nilD]
      simpa using h
def F__law_misses : FC := fun ds n Q => ∃ (s : List Nat) (g w a : Nat) (ws : List (List Nat)) (d : D), ds = [GR s g, RL ws a, d] ∧ s ≠ [] ∧ s.length ≤ 26 ∧ RuleOk s w a ws ∧ 2 ≤ g ∧ g ≤ 1000 ∧ NV d ∧ Q (.val (.bl (missB s g w a ws d))) n
theorem law__law_misses : ∀ ds n Q, F__law_misses ds n Q → ds.length = 3 → rd__law_misses F__law_marked F__law_repeats F__law_window { nx := fun _ m => Q (.val .non) m, rt := fun _ => Q } (startE 3 ds) n := by
  rintro ds n Q ⟨s, g, w, a, ws, d, rfl, hs, hsl, hr, hg, hg2, hd, h⟩ _
  have hsz := s_line
  unfold rd__law_misses
  refine sSeq_of fun next0 hn0 => ?_
  by_cases c0 : ∃ xs, d = .tup xs
  case neg =>
    have e1 : isiD .tuple d = false := by
      have := hd.ty
      cases d <;> first | rfl | exact absurd ⟨_, rfl⟩ c0
    have e2 : missB s g w a ws d = false := by
      cases d <;> first | rfl | exact absurd ⟨_, rfl⟩ c0
    rw [e2] at h
    simp [-isiD, -hasTy, e1, hd.ty]
    exact h
  obtain ⟨xs, rfl⟩ := c0
  obtain ⟨hxl, hx⟩ := hd.tup xs rfl
  by_cases c1 : xs.length = 2
  case neg =>
    have e2 : missB s g w a ws (.tup xs) = false := by
      unfold missB
      split
      · rename_i e; injection e with e; subst e; simp at c1
      · rfl
    rw [e2] at h
    simp
    rw [if_neg (by omega)]
    exact h
  obtain ⟨x, y, rfl⟩ : ∃ x y, xs = [x, y] := by
    match xs, c1 with
    | [x, y], _ => exact ⟨x, y, rfl⟩
  have hx1 := hx x (by simp)
  have hy1 := hx y (by simp)
  by_cases c2 : ∃ t, x = .str t
  case neg =>
    have e2 : isiD .str x = false := by
      cases x <;> first | rfl | exact absurd ⟨_, rfl⟩ c2
    have e3 : missB s g w a ws (.tup [x, y]) = false := by
      unfold missB
      split
      · rename_i e; injection e with e; injection e with e1 e; exact absurd ⟨_, e1⟩ c2
      · rfl
    rw [e3] at h
    simp [-isiD, -hasTy, e2, hx1.1]
    exact ⟨rfl, h⟩
  obtain ⟨t, rfl⟩ := c2
  have ht := hx1.2 t rfl
  simp [-goD]
  refine goD_map (fun c : Nat => D.bl (decide (c ∈ s))) (fun c hc m K hK => ?_) ?_
  · simp [stepD]
    rw [show (s.any ((fun y => eqD y (D.str [c])) ∘ fun c => D.str [c])) = decide (c ∈ s) by rw [Bool.eq_iff_iff]; simp]
    exact hK
  refine ⟨t.map fun c => decide (c ∈ s), by rw [all_bl], ?_⟩
  cases c3 : (t.all fun c => decide (c ∈ s)) with
  | false =>
    have e3 : missB s g w a ws (.tup [.str t, y]) = false := by
      unfold missB
      split
      · rename_i e; injection e with e; injection e with e1 e; injection e1 with e1; subst e1; rw [c3]; rfl
      · rfl
    rw [e3] at h
    obtain ⟨c, hc, hcs⟩ := List.all_eq_false.mp c3
    rw [if_pos (List.mem_map.mpr ⟨c, hc, by simpa using hcs⟩)]
    exact h
  | true =>
    have hall := List.all_eq_true.mp c3
    rw [if_neg (fun hf => by
      obtain ⟨c, hc, e⟩ := List.mem_map.mp hf
      have := hall c hc
      rw [e] at this; cases this)]
    refine hn0 _ _ ?_
    refine sSeq_of fun next1 hn1 => ?_
    simp [-goD]
    refine hn1 _ _ ?_
    refine sSeq_of fun next2 hn2 => ?_
    by_cases c4 : ∃ i, y = .int i
    case neg =>
      have e5 : missB s g w a ws (.tup [.str t, y]) = false := by
        unfold missB
        split
        · rename_i e; injection e with e; injection e with e1 e; injection e with e2 e; exact absurd ⟨_, e2⟩ c4
        · rfl
      rw [e5] at h
      have := hy1.1
      cases y <;> first | (exact absurd ⟨_, rfl⟩ c4) | (exfalso; simp at this; done) | (simp; exact h)
    obtain ⟨p, rfl⟩ := c4
    have hS : missB s g w a ws (.tup [.str t, .int p]) = (decide (0 ≤ p) && (decide (p ≤ t.length) && (!reps (winAt s g t p) g && decide (marksZ s w a ws t (p - g + 1) (p + g - 1) = [])))) := by
      simp only [missB, c3, Bool.true_and]
    rw [hS] at h
    simp
    by_cases q1 : 0 ≤ p
    case neg =>
      rw [if_neg q1]
      rw [decide_eq_false q1, Bool.false_and] at h
      exact h
    rw [if_pos q1]
    rw [decide_eq_true q1, Bool.true_and] at h
    by_cases q3 : p ≤ (t.length : Int)
    case neg =>
      rw [if_neg q3]
      rw [decide_eq_false q3, Bool.false_and] at h
      exact h
    rw [if_pos q3]
    rw [decide_eq_true q3, Bool.true_and] at h
    refine hn2 _ _ ?_
    refine sSeq_of fun next3 hn3 => ?_
    simp
    refine ⟨s, g, t, p, rfl, hs, hg, hg2, by omega, by omega, by omega, ?_⟩
    simp
    refine ⟨_, g, rfl, by rw [winAt_len]; omega, ?_⟩
    cases q4 : reps (winAt s g t p) g with
    | true =>
      rw [q4] at h
      simp
      exact h
    | false =>
      rw [q4] at h
      simp
      refine hn3 _ _ ?_
      simp
      refine ⟨s, g, w, a, ws, t, _, _, rfl, hs, hg2, hr, by omega, by omega, by omega, by omega, by omega, ?_⟩
      simp
      refine ⟨plIZ _ _, ?_⟩
      rw [eq_nilD]
      simpa using h
def F__law_misses_some : FC := fun ds n Q => ∃ (s : List Nat) (g w a : Nat) (ws : List (List Nat)), ds = [GR s g, RL ws a] ∧ s ≠ [] ∧ 2 ≤ g ∧ g ≤ 1000 ∧ RuleOk s w a ws ∧ s.length ^ (w + (2 * g - 2)) ≤ 1000000 ∧ ∀ b : Bool, (b = true ↔ ∃ row, MissRow s g w a ws row) → Q (.val (.bl b)) n
theorem law__law_misses_some : ∀ ds n Q, F__law_misses_some ds n Q → ds.length = 2 → rd__law_misses_some F__law_repeats F__law_words_of { nx := fun _ m => Q (.val .non) m, rt := fun _ => Q } (startE 4 ds) n := by
  rintro ds n Q ⟨s, g, w, a, ws, rfl, hs, hg, hg2, hr, hfew, h⟩ _
  have hsz := s_line
  have hw := hr.wle
  have hwp := hr.pos
  have ha := hr.ale
  obtain ⟨x0, xs, e0⟩ : ∃ x0 xs, ws = x0 :: xs := by
    cases ws with
    | nil => exact absurd rfl hr.ne
    | cons x0 xs => exact ⟨x0, xs, rfl⟩
  have hx0 : x0.length = w := hr.len x0 (by rw [e0]; exact List.mem_cons_self ..)
  have e1 : atI (ws.map D.str) 0 = some (.str x0) := by rw [e0]; simp
  unfold rd__law_misses_some
  refine sSeq_of fun next0 hn0 => ?_
  simp [RL, e1, hx0]
  refine ⟨.left (by decide), hn0 _ _ ?_⟩
  have esp : (2 : Int) * g - 2 = ((2 * g - 2 : Nat) : Int) := by omega
  rw [esp]
  refine sSeq_of fun next1 hn1 => ?_
  simp
  refine ⟨s, w + (2 * g - 2), by rw [show (w : Int) + ((2 * g - 2 : Nat) : Int) = ((w + (2 * g - 2) : Nat) : Int) by omega], hs, hfew, by omega, ?_⟩
  simp
  generalize hS : 2 * g - 2 = sp at *
  refine forD_inv (c := D.str) (fun pre env m => (∃ x4 x5, env = [some (.val (GR s g)), some (.val (RL ws a)), some (.val (.int w)), some (.val (.int (sp : Nat))), x4, x5]) ∧ (∀ row ∈ pre, ¬ MissRow s g w a ws row) ∧ m = n) ?_ ?_ ⟨⟨_, _, rfl⟩, (fun _ h => nomatch h), rfl⟩
  · rintro pre row post env m next hx ⟨⟨x4, x5, rfl⟩, hpre, rfl⟩ hn
    have hrow : row ∈ wordsOf s (w + sp) := by rw [hx]; simp
    obtain ⟨hrl, hrm⟩ := wordsOf_mem hrow
    have hcut : cutL row (some (a : Int)) (some ((a : Int) + (sp : Int))) = (row.drop a).take sp := cutL_mid row a sp (by omega)
    simp [RL]
    rw [hcut]
    refine ⟨_, g, rfl, by rw [List.length_take]; omega, ?_⟩
    cases hrep : reps ((row.drop a).take sp) g with
    | true =>
      simp
      refine hn _ _ ⟨⟨_, _, rfl⟩, fun v hv => ?_, rfl⟩
      rcases List.mem_append.mp hv with hv | hv
      · exact hpre v hv
      · rw [List.mem_singleton.mp hv]
        intro hm
        have := hm.own
        rw [hS, hrep] at this
        cases this
    | false =>
      simp
      refine ⟨⟨by omega, by omega⟩, ?_⟩
      rw [ups_eq]
      refine goD_map (fun i : Nat => D.bl (decide ((row.drop i).take w ∈ ws))) (fun i hi m K hK => ?_) ?_
      · have hi := List.mem_range.mp hi
        simp [stepD]
        rw [cutL_mid row i w (by omega)]
        rw [show (ws.any ((fun y => eqD y (D.str ((row.drop i).take w))) ∘ D.str)) = decide ((row.drop i).take w ∈ ws) by rw [Bool.eq_iff_iff]; simp]
        exact hK
      · refine ⟨(List.range (sp + 1)).map fun i => decide ((row.drop i).take w ∈ ws), by rw [List.map_map]; rfl, ?_⟩
        have hfree : true ∈ ((List.range (sp + 1)).map fun i => decide ((row.drop i).take w ∈ ws)) ↔ ¬ Free w ws row := by
          rw [List.mem_map]
          constructor
          · rintro ⟨i, hi, e⟩ hF
            have hi := List.mem_range.mp hi
            exact hF i (by omega) (of_decide_eq_true e)
          · intro hF
            unfold Free at hF
            simp only [Classical.not_forall, Classical.not_not] at hF
            obtain ⟨i, hi, hm⟩ := hF
            exact ⟨i, List.mem_range.mpr (by omega), decide_eq_true hm⟩
        by_cases c : Free w ws row
        · rw [if_neg fun z => hfree.mp z c]
          exact h true ⟨fun _ => ⟨row, by rw [hS]; exact hrl, hrm, c, by rw [hS]; exact hrep⟩, fun _ => rfl⟩
        · rw [if_pos (hfree.mpr c)]
          refine hn _ _ ⟨⟨_, _, rfl⟩, fun v hv => ?_, rfl⟩
          rcases List.mem_append.mp hv with hv | hv
          · exact hpre v hv
          · rw [List.mem_singleton.mp hv]
            intro hm
            exact c hm.free
  · rintro env m ⟨⟨x4, x5, rfl⟩, hpre, rfl⟩
    refine hn1 _ _ ?_
    simp
    refine h false ⟨(fun e => nomatch e), fun ⟨row, hrow⟩ => ?_⟩
    exact absurd hrow (hpre row (words_in _ _ (by rw [hrow.len, hS]) hrow.mem))
end K32
namespace K32
open PySem PySem.Spec L2 DL PyProof.Rows
open K30 (RL RuleOk seenW seenW_len apartB apart_iff Fits NV NI ni_int ni_bl ni_non ni_str nv_tup nvs_nil nvs_cons nvs_app nv_of low_of ne_of)
theorem miss_ok {s : List Nat} {g w a : Nat} {ws : List (List Nat)} {row : List Nat} (hg : 2 ≤ g) (ha : a ≤ w) (h : MissRow s g w a ws row) : missB s g w a ws (.tup [.str row, .int ((a : Int) + g - 1)]) = true := by
  have hl := h.len
  have e1 : winAt s g row ((a : Int) + g - 1) = (row.drop a).take (2 * g - 2) := by
    refine ext_getD (by rw [winAt_len, List.length_take, List.length_drop]; omega) fun k hk => ?_
    rw [winAt_len] at hk
    rw [winAt_D hk, sgAt_in (by omega) (by omega), getD_take hk, getD_drop]
    congr 1
    omega
  have e2 : marksZ s w a ws row ((a : Int) + g - 1 - g + 1) ((a : Int) + g - 1 + g - 1) = [] := by
    unfold marksZ
    rw [List.filter_eq_nil_iff]
    intro p hp
    obtain ⟨i, hi, rfl⟩ := List.mem_map.mp hp
    have hi := List.mem_range.mp hi
    have e3 : seenW s row w a ((a : Int) + g - 1 - g + 1 + i) = (row.drop i).take w := by
      have := K30.seen_in (s := s) (t := row) (w := w) (a := a) (p := a + i) (i := i) rfl (by omega)
      rw [← this]
      congr 1
      omega
    rw [e3]
    simpa using h.free i (by omega)
  have e0 : missB s g w a ws (.tup [.str row, .int ((a : Int) + g - 1)]) = ((row.all fun c => decide (c ∈ s)) && (decide (0 ≤ (a : Int) + g - 1) && (decide ((a : Int) + g - 1 ≤ row.length) && (!reps (winAt s g row ((a : Int) + g - 1)) g && decide (marksZ s w a ws row ((a : Int) + g - 1 - g + 1) ((a : Int) + g - 1 + g - 1) = []))))) := rfl
  rw [e0, e1, e2, h.own, decide_eq_true (show (0 : Int) ≤ (a : Int) + g - 1 by omega), decide_eq_true (show (a : Int) + g - 1 ≤ row.length by omega)]
  simp
  exact h.mem
theorem nv_pair {x y : D} (hx : NI x) (hy : NI y) : NV (.tup [x, y]) := nv_tup (by simp) fun u hu => by
  simp at hu
  rcases hu with rfl | rfl <;> assumption
def F__law_rule_right : FC := fun ds n Q => ∃ (s : List Nat) (g w a : Nat) (ws : List (List Nat)), ds = [dice, gnd s g, GR s g, RL ws a] ∧ OkG s g ∧ s.length ≤ 26 ∧ g ≤ 100 ∧ RuleOk s w a ws ∧ s.length ^ (w + (2 * g - 2)) ≤ 1000000 ∧ Q (.val (.bl true)) n
theorem law__law_rule_right : ∀ ds n Q, F__law_rule_right ds n Q → ds.length = 4 → rd__law_rule_right (F_exact 5) F__law_is_apart F__law_misses F__law_misses_some F_is_missed F_is_whole_rules F_missed { nx := fun _ m => Q (.val .non) m, rt := fun _ => Q } (startE 2 ds) n := by
  rintro ds n Q ⟨s, g, w, a, ws, rfl, hG, hsl, hg2, hr, hfew, h⟩ _
  have hsz := s_line
  have hs := ne_of hG
  have hlow := low_of hG
  have hg := hG.gap
  have hw := hr.wle
  have ha := hr.ale
  have hc := hr.card
  obtain ⟨x0, xs, e0⟩ : ∃ x0 xs, ws = x0 :: xs := by
    cases ws with
    | nil => exact absurd rfl hr.ne
    | cons x0 xs => exact ⟨x0, xs, rfl⟩
  have hx0 : x0.length = w := hr.len x0 (by rw [e0]; exact List.mem_cons_self ..)
  have e1 : atI (ws.map D.str) 0 = some (.str x0) := by rw [e0]; simp
  unfold rd__law_rule_right
  refine sSeq_of fun next0 hn0 => ?_
  simp
  refine ⟨s, g, w, a, ws, rfl, hs, hg, by omega, hr, hfew, fun b hb => ?_⟩
  refine hn0 _ _ ?_
  refine sSeq_of fun next1 hn1 => ?_
  simp
  refine ⟨s, g, w, a, ws, rfl, hs, hlow, hg, by omega, hr, hfew, fun b2 hb2 => ?_⟩
  simp [RL]
  refine ⟨g, w, ws, rfl, hr.len, hw, hg, by omega, by omega, ?_⟩
  simp
  have eb : b2 = (apartB g w ws && !b) := by
    rw [Bool.eq_iff_iff, hb2, Bool.and_eq_true, Bool.not_eq_true']
    refine and_congr_right fun _ => ?_
    cases b with
    | true =>
      obtain ⟨row, hrow⟩ := hb.mp rfl
      exact ⟨fun hh => absurd hrow (hh row), fun e => nomatch e⟩
    | false => exact ⟨fun _ => rfl, fun _ row hrow => by have := hb.mpr ⟨row, hrow⟩; cases this⟩
  have go : next1 [some (.val dice), some (.val (gnd s g)), some (.val (GR s g)), some (.val (RL ws a)), some (.val (.bl b)), none] n := by
    refine hn1 _ _ ?_
    refine sSeq_of fun next2 hn2 => ?_
    simp
    refine ⟨s, g, w, a, ws, rfl, hs, hlow, hg, by omega, hr, hfew, fun row hrow => ?_, fun hno => ?_⟩
    · have hbt : b = true := hb.mpr ⟨row, hrow⟩
      subst hbt
      have hm := miss_ok hg ha hrow
      have hrl := hrow.len
      have hnv : NV (.tup [.str row, .int ((a : Int) + g - 1)]) := nv_pair (ni_str (by omega)) ni_int
      refine hn2 _ _ ?_
      refine sSeq_of fun next3 hn3 => ?_
      simp
      refine hn3 _ _ ?_
      refine sSeq_of fun next4 hn4 => ?_
      simp
      refine ⟨s, g, w, a, ws, _, rfl, hs, hsl, hr, hg, by omega, hnv, ?_⟩
      rw [hm]
      simp [RL, e1, hx0]
      refine ⟨.left (by decide), ?_⟩
      rw [if_neg (by omega)]
      refine hn4 _ _ ?_
      simp
      refine ⟨s, g, w, a, ws, _, rfl, hs, hlow, hr, hg, by omega, hnv, ?_⟩
      rw [hm]
      simpa using h
    · have hbf : b = false := by
        cases b with
        | true => obtain ⟨row, hrow⟩ := hb.mp rfl; exact absurd hrow (hno row)
        | false => rfl
      subst hbf
      refine hn2 _ _ ?_
      refine sSeq_of fun next3 hn3 => ?_
      simp
      exact h
  simp only [RL] at go
  by_cases ca : apartB g w ws = true
  · rw [if_pos ca]
    rw [ca, Bool.true_and] at eb
    subst eb
    refine exact_same (by simp) ?_
    simpa using go
  · rw [if_neg ca]
    rw [Bool.eq_false_iff.mpr ca, Bool.false_and] at eb
    subst eb
    refine exact_same (by simp) ?_
    simpa using go
end K32
namespace K32
open PySem PySem.Spec L2 DL PyProof.Rows
open K30 (RL RuleOk seenW seenW_len apartB apart_iff Fits NV NI ni_int ni_bl ni_non ni_str nv_tup nvs_nil nvs_cons nvs_app nv_of low_of ne_of goD_mapI)
theorem ni_lst {xs : List D} : NI (.lst xs) := ⟨rfl, fun _ e => nomatch e⟩
def F__law_judged_right : FC := fun ds n Q => ∃ (s : List Nat) (g w a : Nat) (ws : List (List Nat)), ds = [dice, gnd s g, GR s g, RL ws a] ∧ OkG s g ∧ s.length ≤ 25 ∧ g ≤ 100 ∧ RuleOk s w a ws ∧ n + 100000000000 ≤ 1000000000000000000 ∧ ∀ m, n ≤ m → m ≤ n + 100000000000 → Q (.val (.bl true)) m
theorem law__law_judged_right : ∀ ds n Q, F__law_judged_right ds n Q → ds.length = 4 → rd__law_judged_right F__law_drawn_word (F_exact 5) F__law_made F__law_misses F_one_of F__law_other_sign F__law_text F_is_missed { nx := fun _ m => Q (.val .non) m, rt := fun _ => Q } (startE 6 ds) n := by
  rintro ds n Q ⟨s, g, w, a, ws, rfl, hG, hsl, hg2, hr, hn, h⟩ _
  have hsz := s_line
  have hs := ne_of hG
  have hlow := low_of hG
  have hg := hG.gap
  unfold rd__law_judged_right
  refine sSeq_of fun next0 hn0 => ?_
  simp
  refine text_of (most := 10) hs (by omega) hlow (by omega) (by omega) (by omega) (by omega) fun t1 m1 _ ht1 htl1 h1 h2 => ?_
  simp
  refine ⟨s, g, 4, rfl, hs, by omega, by omega, by omega, fun v m2 hv hvl h3 h4 => ?_⟩
  simp
  refine ⟨by omega, s, g, rfl, hsl, fun far => ?_⟩
  simp
  obtain ⟨t, et⟩ : ∃ t, t = t1 ++ v := ⟨_, rfl⟩
  have htl : t.length ≤ 14 := by rw [et, List.length_append]; omega
  rw [← et]
  clear et
  refine hn0 _ _ ?_
  refine sSeq_of fun next1 hn1 => ?_
  simp [-goD]
  refine ⟨⟨by omega, by omega, by omega, by omega⟩, ?_⟩
  rw [ups_map]
  refine goD_map (c := D.int) (fun p : Int => D.tup [.str t, .int p]) (fun p hp m K hK => ?_) ?_
  · simp [stepD]
    exact ⟨by omega, hK⟩
  have hts := ni_str (t := t) (by omega)
  obtain ⟨L1, eL1, hL1, hl1⟩ : ∃ L1 : List D, (((List.range ((t.length : Int) + g + 1 + g).toNat).map fun i : Nat => -(g : Int) + (i : Int)).map fun p : Int => D.tup [.str t, .int p]) ++ [D.tup [D.str t, D.non], D.tup [D.str t, D.str [49]], D.tup [D.str t, D.bl true], D.tup [D.str t, D.bl false], D.lst [D.str t, D.int 1], D.tup [D.non, D.int 0]] = L1 ∧ (∀ x ∈ L1, NV x) ∧ L1.length ≤ 300 := by
    refine ⟨_, rfl, nvs_app (fun x hx => ?_) ?_, by simp; omega⟩
    · obtain ⟨p, _, rfl⟩ := List.mem_map.mp hx
      exact nv_pair hts ni_int
    · exact nvs_cons (nv_pair hts ni_non) (nvs_cons (nv_pair hts (ni_str (by simp))) (nvs_cons (nv_pair hts ni_bl) (nvs_cons (nv_pair hts ni_bl) (nvs_cons (nv_of rfl fun _ e => nomatch e) (nvs_cons (nv_pair ni_non ni_int) nvs_nil)))))
  rw [eL1]
  refine ⟨by omega, by omega, by simp; omega, ?_⟩
  refine hn1 _ _ ?_
  refine sSeq_of fun next2 hn2 => ?_
  simp [-goD]
  obtain ⟨L2, eL2, hL2, hl2⟩ : ∃ L2 : List D, L1 ++ [D.tup [D.str t], D.tup [D.str t, D.int 1, D.int 0], D.tup [D.str (t ++ [far]), D.int 1], D.tup [D.str (far :: t), D.int 2], D.str t, D.non, D.int 0, D.tup [], D.dct [] [], D.tup [D.str [], D.int 0], D.tup [D.str s, D.int 1], D.tup [D.str s, D.lst [D.int 1]]] = L2 ∧ (∀ x ∈ L2, NV x) ∧ L2.length ≤ 400 := by
    refine ⟨_, rfl, nvs_app hL1 ?_, by simp; omega⟩
    have hss := ni_str (t := s) (by omega)
    refine nvs_cons (nv_tup (by simp) fun u hu => ?_) (nvs_cons (nv_tup (by simp) fun u hu => ?_) (nvs_cons (nv_pair (ni_str (by simp; omega)) ni_int) (nvs_cons (nv_pair (ni_str (by simp; omega)) ni_int) (nvs_cons (nv_of rfl fun _ e => nomatch e) (nvs_cons (nv_of rfl fun _ e => nomatch e) (nvs_cons (nv_of rfl fun _ e => nomatch e) (nvs_cons (nv_tup (by simp) fun _ h => nomatch h) (nvs_cons (nv_of rfl fun _ e => nomatch e) (nvs_cons (nv_pair (ni_str (by simp)) ni_int) (nvs_cons (nv_pair hss ni_int) (nvs_cons (nv_pair hss ni_lst) nvs_nil)))))))))))
    · simp at hu; subst hu; exact hts
    · simp at hu
      rcases hu with rfl | rfl | rfl
      · exact hts
      · exact ni_int
      · exact ni_int
  rw [eL2]
  refine ⟨by omega, by omega, by omega, by omega, by omega, by omega, by omega, by omega, by omega, by omega, ?_⟩
  have hL2n : L2 ≠ [] := by rw [← eL2]; simp
  refine hn2 _ _ ?_
  refine sSeq_of fun next3 hn3 => ?_
  simp
  refine one_of hL2n (by omega) (by omega) fun v2 m3 hv2 h5 h6 => ?_
  have hnv2 := hL2 v2 hv2
  refine hn3 _ _ ?_
  refine sSeq_of fun next4 hn4 => ?_
  simp
  refine ⟨s, g, rfl, hG, ?_⟩
  simp
  refine ⟨s, g, w, a, ws, v2, rfl, hs, hlow, hr, hg, by omega, hnv2, ?_⟩
  simp
  refine ⟨s, g, w, a, ws, v2, rfl, hs, by omega, hr, hg, by omega, hnv2, ?_⟩
  simp
  refine exact_same (by simp) ?_
  simp
  refine hn4 _ _ ?_
  simp [-goD]
  refine goD_mapI (fun _ => D.bl true) (fun d hd m K hK => ?_) ⟨L2.map fun _ => true, by rw [List.map_map]; rfl, ?_⟩
  · have hnv := hL2 d hd
    simp [stepD]
    refine ⟨s, g, w, a, ws, d, rfl, hs, hlow, hr, hg, by omega, hnv, ?_⟩
    simp
    refine ⟨s, g, w, a, ws, d, rfl, hs, by omega, hr, hg, by omega, hnv, ?_⟩
    refine exact_same (by simp) ?_
    exact hK
  · simp
    rw [show (L2.all fun _ => true) = true from List.all_eq_true.mpr fun _ _ => rfl]
    exact h _ (by omega) (by omega)
end K32
namespace K32
open PySem PySem.Spec L2 DL PyProof.Rows
open K30 (RL RuleOk seenW seenW_len apartB apart_iff Fits NV low_of ne_of Ws words_of sorted_words uq_le)
def F__law_drawn_rule : FC := fun ds n Q => ∃ (s : List Nat) (g most : Nat), ds = [dice, GR s g, .int most] ∧ s ≠ [] ∧ s.length ≤ 26 ∧ 2 ≤ g ∧ g ≤ 100 ∧ 1 ≤ most ∧ most ≤ 100 ∧ n + 100000000 ≤ 1000000000000000000 ∧ ∀ (w a : Nat) (ws : List (List Nat)) m, RuleOk s w a ws → w ≤ most → n ≤ m → m ≤ n + 100000000 → Q (.val (RL ws a)) m
theorem law__law_drawn_rule : ∀ ds n Q, F__law_drawn_rule ds n Q → ds.length = 3 → rd__law_drawn_rule F_draw F__law_drawn_word F__law_is_apart { nx := fun _ m => Q (.val .non) m, rt := fun _ => Q } (startE 5 ds) n := by
  rintro ds n Q ⟨s, g, most, rfl, hs, hsl, hg, hg2, hm1, hm2, hn, h⟩ _
  have hsz := s_line
  unfold rd__law_drawn_rule
  refine sSeq_of fun next0 hn0 => ?_
  simp
  refine draw_of (by omega) (by omega) (by omega) fun r m1 hr1 h1 h2 => ?_
  simp
  refine hn0 _ _ ?_
  obtain ⟨w, hw, hw1, hw2⟩ : ∃ w : Nat, (1 : Int) + r = w ∧ 1 ≤ w ∧ w ≤ most := ⟨1 + r, by omega, by omega, by omega⟩
  rw [hw]
  refine sSeq_of fun next1 hn1 => ?_
  simp [-goD]
  refine draw_of (by omega) (by omega) (by omega) fun r2 m2 hr2 h3 h4 => ?_
  simp [-goD]
  have hk : ((1 : Int) + r2).toNat = 1 + r2 := by omega
  rw [hk]
  refine ⟨⟨by omega, by omega⟩, ?_⟩
  rw [ups_eq]
  refine goD_draws 4000000 (fun y => ∃ x : List Nat, y = .str x ∧ x.length = w ∧ ∀ c ∈ x, c ∈ s) 1000000000000000000 (by simp; omega) (fun i hi m3 K hm3 hK => ?_) fun ys m3 h5 h6 hys hyl => ?_
  · simp [stepD]
    exact ⟨s, g, w, rfl, hs, hsl, by omega, by omega, fun x m4 hx hxl h7 h8 => hK _ _ h7 h8 ⟨x, rfl, hxl, hx⟩⟩
  obtain ⟨ws, rfl, hws⟩ := words_of hys
  simp at hyl h6
  have hne : ws ≠ [] := fun e => by rw [e] at hyl; simp at hyl; omega
  have hcard : ws.length ≤ 60 := by omega
  refine hn1 _ _ ?_
  refine sSeq_of fun next2 hn2 => ?_
  have key : ∀ (us : List (List Nat)) (x5 x6 : Option Sl) m4, Ws s w us → us ≠ [] → us.length ≤ 60 → m3 ≤ m4 → m4 ≤ m3 + 1000 → next2 [some (.val dice), some (.val (GR s g)), some (.val (.int most)), some (.val (.int w)), some (.val (.lst (TD us))), x5, x6, none] m4 := by
    intro us x5 x6 m4 hus hune huc h7 h8
    refine hn2 _ _ ?_
    simp [-goD]
    refine goD_map (fun x : List Nat => D.tup [.str x, .bl true]) (fun x hx m K hK => by simpa [stepD] using ⟨by omega, hK⟩) ?_
    refine dictP_str2 (kf := fun x => x) (vf := fun _ => .bl true) fun vs hvs => ?_
    rw [List.map_id'] at *
    refine sorted_words hus hune huc hw1 (by omega) fun ts hts => ?_
    refine draw_of (by omega) (by omega) (by omega) fun a m5 ha h9 h10 => ?_
    simp
    have := h w a ts m5 (hts a (by omega)) hw2 (by omega) (by omega)
    exact ⟨by omega, this⟩
  simp
  refine draw_of (by omega) (by omega) (by omega) fun r3 m4 hr3 h7 h8 => ?_
  simp
  by_cases c : r3 = 0
  · rw [if_pos c]
    refine sSeq_of fun next3 hn3 => ?_
    simp
    refine hn3 _ _ ?_
    refine sSeq_of fun next4 hn4 => ?_
    simp
    refine forD_inv (fun pre env m => m = m4 ∧ ∃ (us : List (List Nat)) (x6 : Option Sl), env = [some (.val dice), some (.val (GR s g)), some (.val (.int most)), some (.val (.int w)), some (.val (.lst (TD ws))), some (.val (.lst (TD us))), x6, none] ∧ Ws s w us ∧ us.length ≤ pre.length) ?_ ?_ ?_
    · rintro pre x post env m next eU ⟨rfl, us, x6, rfl, hus, hul⟩ hnext
      have hxl := hws.len x (by rw [eU]; simp)
      have hxm := hws.mem x (by rw [eU]; simp)
      have hpl : pre.length + 1 ≤ 60 := by
        have := congrArg List.length eU
        simp at this
        omega
      have hus2 := hus.snoc hxl hxm
      simp
      refine ⟨by omega, by omega, g, w, us ++ [x], by simp, hus2.len, by omega, hg, by omega, by simp; omega, ?_⟩
      cases cb : apartB g w (us ++ [x]) with
      | true =>
        simp
        refine ⟨by omega, ?_⟩
        exact hnext _ _ ⟨rfl, us ++ [x], some (.val (.str x)), by simp, hus2, by simp; omega⟩
      | false =>
        simp
        refine ⟨by omega, ?_⟩
        exact hnext _ _ ⟨rfl, us, _, rfl, hus, by simp; omega⟩
    · rintro env m ⟨rfl, us, x6, rfl, hus, hul⟩
      refine hn4 _ _ ?_
      simp
      by_cases cu : us = []
      · subst cu
        simp
        exact key ws _ _ _ hws hne hcard h7 (by omega)
      · simp [cu]
        exact key us _ _ _ hus cu (by omega) h7 (by omega)
    · exact ⟨rfl, [], none, rfl, Ws.nil, by simp⟩
  · rw [if_neg c]
    exact key ws none none m4 hws hne hcard h7 (by omega)
theorem nodup_two {α : Type} {l : List α} {x y : α} (hx : x ∈ l) (hy : y ∈ l) (h : x ≠ y) : 2 ≤ l.length := by
  match l, hx, hy with
  | [z], hx, hy => simp at hx hy; subst hx; subst hy; exact absurd rfl h
  | _ :: _ :: _, _, _ => simp
theorem filter_two {α : Type} {l : List α} {p : α → Bool} {x y : α} (hx : x ∈ l) (hy : y ∈ l) (h : x ≠ y) (px : p x = false) (py : p y = false) : (l.filter p).length + 2 ≤ l.length := by
  have h1 : (l.filter p).length + (l.filter fun z => !p z).length = l.length := by
    induction l with
    | nil => rfl
    | cons z l ih =>
      clear hx hy
      have ih' : (l.filter p).length + (l.filter fun z => !p z).length = l.length := by
        clear ih
        induction l with
        | nil => rfl
        | cons z l ih => cases hz : p z <;> simp [hz] <;> omega
      cases hz : p z <;> simp [hz] <;> omega
  have h2 := nodup_two (l := l.filter fun z => !p z) (List.mem_filter.mpr ⟨hx, by simp [px]⟩) (List.mem_filter.mpr ⟨hy, by simp [py]⟩) h
  omega
structure Wd (s : List Nat) (w lo hi : Nat) (ws : List (List Nat)) : Prop where
  len : ∀ x ∈ ws, x.length = w
  mem : ∀ x ∈ ws, ∀ c ∈ x, c ∈ s
  inc : ws.Pairwise (· < ·)
  lo : lo ≤ ws.length
  hi : ws.length ≤ hi
theorem Wd.rule {s : List Nat} {w lo hi a : Nat} {ws : List (List Nat)} (h : Wd s w lo hi ws) (h1 : 1 ≤ lo) (h2 : hi ≤ 60) (hw : 1 ≤ w) (hw2 : w ≤ 1000) (ha : a ≤ w) : RuleOk s w a ws :=
  ⟨fun e => by have := h.lo; rw [e] at this; simp at this; omega, h.len, h.mem, h.inc, hw, hw2, ha, by have := h.hi; omega⟩
theorem Wd.ws {s : List Nat} {w lo hi : Nat} {ws : List (List Nat)} (h : Wd s w lo hi ws) : Ws s w ws := ⟨h.len, h.mem⟩
theorem Wd.nd {s : List Nat} {w lo hi : Nat} {ws : List (List Nat)} (h : Wd s w lo hi ws) : ws.Nodup := h.inc.imp fun {x y} hxy e => by
  subst e
  exact absurd hxy (Std.lt_irrefl)
theorem Wd.cut {s : List Nat} {w lo hi k : Nat} {ws : List (List Nat)} (h : Wd s w (lo + 1) hi ws) : Wd s w lo hi (ws.take k ++ ws.drop (k + 1)) := by
  have hsub : (ws.take k ++ ws.drop (k + 1)).Sublist ws := by
    have h1 : (ws.drop (k + 1)).Sublist (ws.drop k) := by rw [← List.drop_drop]; exact List.drop_sublist 1 _
    have := List.Sublist.append (List.Sublist.refl (ws.take k)) h1
    rwa [List.take_append_drop] at this
  have hlo := h.lo
  have hhi := h.hi
  exact ⟨fun x hx => h.len x (hsub.mem hx), fun x hx => h.mem x (hsub.mem hx), h.inc.sublist hsub, by simp; omega, by have := hsub.length_le; omega⟩
/-- the words, made longer by each sign -/
def longer (f : List Nat → Nat → List Nat) (s : List Nat) (ws : List (List Nat)) : List (List Nat) := ws.flatMap fun w => s.map (f w)
theorem longer_len (f : List Nat → Nat → List Nat) (s : List Nat) : ∀ ws : List (List Nat), (longer f s ws).length = ws.length * s.length
  | [] => by simp [longer]
  | w :: ws => by
    have := longer_len f s ws
    unfold longer at this ⊢
    rw [List.flatMap_cons, List.length_append, this, List.length_map, List.length_cons, Nat.succ_mul]; omega
theorem longer_nd {f : List Nat → Nat → List Nat} (hf : ∀ w c w' c', f w c = f w' c' → w = w' ∧ c = c') {s : List Nat} {ws : List (List Nat)} (hs : s.Nodup) (hw : ws.Nodup) : (longer f s ws).Nodup := by
  unfold longer
  rw [List.nodup_iff_pairwise_ne, List.pairwise_flatMap]
  constructor
  · intro w _
    rw [List.pairwise_map]
    exact (List.nodup_iff_pairwise_ne.mp hs).imp fun h e => h (hf _ _ _ _ e).2
  · refine (List.nodup_iff_pairwise_ne.mp hw).imp fun h x hx y hy e => ?_
    obtain ⟨c, _, rfl⟩ := List.mem_map.mp hx
    obtain ⟨c', _, rfl⟩ := List.mem_map.mp hy
    exact h (hf _ _ _ _ e).1
theorem longer_sorted {f : List Nat → Nat → List Nat} (hf : ∀ w c w' c', f w c = f w' c' → w = w' ∧ c = c') (hl : ∀ w c, (f w c).length = w.length + 1) (hm : ∀ w c x, x ∈ f w c → x ∈ w ∨ x = c) {s : List Nat} {w lo hi : Nat} {us : List (List Nat)} (hus : ∀ x ∈ us, x.length = w) (hum : ∀ x ∈ us, ∀ c ∈ x, c ∈ s) (hun : us.Nodup) (h1 : lo ≤ us.length) (h2 : us.length ≤ hi) (hs : s.Nodup) {ts : List (List Nat)} (hp : ts.Perm (longer f s us)) (hso : sortedS (ts.map fun s => (⟨s.toArray⟩ : Str)) = true) : Wd s (w + 1) (lo * s.length) (hi * s.length) ts := by
  have hnd : ts.Nodup := hp.nodup_iff.mpr (longer_nd hf hs hun)
  have hmem : ∀ x ∈ ts, ∃ v ∈ us, ∃ c ∈ s, x = f v c := fun x hx => by
    have := hp.mem_iff.mp hx
    unfold longer at this
    obtain ⟨v, hv, hx2⟩ := List.mem_flatMap.mp this
    obtain ⟨c, hc, rfl⟩ := List.mem_map.mp hx2
    exact ⟨v, hv, c, hc, rfl⟩
  refine ⟨fun x hx => ?_, fun x hx c hc => ?_, ?_, ?_, ?_⟩
  · obtain ⟨v, hv, c, _, rfl⟩ := hmem x hx
    rw [hl, hus v hv]
  · obtain ⟨v, hv, c', hc', rfl⟩ := hmem x hx
    rcases hm _ _ _ hc with h | h
    · exact hum v hv c h
    · rw [h]; exact hc'
  · have h1 := sortedS_le hso
    have h2 := List.nodup_iff_pairwise_ne.mp hnd
    exact (h1.and h2).imp fun {x y} ⟨p, q⟩ => by
      rcases Std.lt_trichotomy x y with r | r | r
      · exact r
      · exact absurd r q
      · exact absurd r p
  · rw [hp.length_eq, longer_len]; exact Nat.mul_le_mul_right _ h1
  · rw [hp.length_eq, longer_len]; exact Nat.mul_le_mul_right _ h2
theorem snoc_inj : ∀ (w : List Nat) (c : Nat) (w' : List Nat) (c' : Nat), w ++ [c] = w' ++ [c'] → w = w' ∧ c = c' := fun w c w' c' h => by
  have := List.append_inj' h rfl
  simpa using this
theorem cons_inj : ∀ (w : List Nat) (c : Nat) (w' : List Nat) (c' : Nat), c :: w = c' :: w' → w = w' ∧ c = c' := fun w c w' c' h => by
  injection h with h1 h2
  exact ⟨h2, h1⟩
def cutW (s : List Nat) (o : List (List Nat)) : List (List Nat) := (wordsOf s 4).filter fun w => decide ((2 : Int) ∈ cutsL s 2 o w)
theorem reps_two {x y : Nat} : reps [x, y] 2 = decide (x = y) := by
  rw [Bool.eq_iff_iff, decide_eq_true_iff, reps_iff]
  constructor
  · rintro ⟨p, h1, h2, h3, h4⟩
    have := h4 0 (by simp; omega)
    have e : p = 1 := by omega
    subst e
    simpa using this
  · rintro rfl
    refine ⟨1, by omega, by omega, by simp, fun i hi => ?_⟩
    simp at hi
    have : i = 0 := by omega
    subst this
    rfl
theorem own_two {a b : Nat} (hne : a ≠ b) : ownW [a, b] 2 = [[a, b], [b, a]] := by
  have e : wordsOf [a, b] (2 * 2 - 2) = [[a, a], [a, b], [b, a], [b, b]] := rfl
  unfold ownW
  rw [e]
  have h1 : (decide (a = b)) = false := decide_eq_false hne
  have h2 : (decide (b = a)) = false := decide_eq_false fun e => hne e.symm
  simp [reps_two, hne, hne.symm]
theorem ord_two {a b : Nat} (hsm : Small [a, b] 2) {o : List (List Nat)} (hne : a ≠ b) (ho : o = [[a, b], [b, a]] ∨ o = [[b, a], [a, b]]) : Ord [a, b] 2 o := by
  refine ⟨hsm, ?_⟩
  rw [own_two hne]
  rcases ho with rfl | rfl
  · exact List.Perm.refl _
  · exact List.Perm.swap ..
theorem win_four {s : List Nat} {x u v y : Nat} : winAt s 2 [x, u, v, y] 2 = [u, v] := by
  refine ext_getD (by rw [winAt_len]; rfl) fun k hk => ?_
  rw [winAt_len] at hk
  rw [winAt_D hk, sgAt_in (by omega) (by simp; omega)]
  have : k = 0 ∨ k = 1 := by omega
  rcases this with rfl | rfl <;> rfl
theorem cut_first {a b u v : Nat} {o : List (List Nat)} (ho : Ord [a, b] 2 ([u, v] :: o)) (huv : u ≠ v) {x y : Nat} (hm : ∀ c ∈ [x, u, v, y], c ∈ [a, b]) : (2 : Int) ∈ cutsL [a, b] 2 ([u, v] :: o) [x, u, v, y] := by
  have hG : GT [a, b] 2 [x, u, v, y] := ⟨ho.sm.few.ok, by omega, hm, by simp⟩
  refine (cut_iff hG ho).mpr ⟨by rw [win_four, reps_two]; exact decide_eq_false huv, fun q hq hrk => ?_⟩
  rw [win_four] at hrk
  have e : rk ([u, v] :: o) [u, v] = 0 := by simp [rk]
  rw [e] at hrk
  have : 0 ≤ rk ([u, v] :: o) (winAt [a, b] 2 [x, u, v, y] q) := by unfold rk; omega
  omega
theorem no_cut {a b c : Nat} {o : List (List Nat)} (ho : Ord [a, b] 2 o) (hc : c ∈ [a, b]) : (2 : Int) ∉ cutsL [a, b] 2 o [c, c, c, c] := by
  have hG : GT [a, b] 2 [c, c, c, c] := ⟨ho.sm.few.ok, by omega, fun d hd => by simp at hd; subst hd; exact hc, by simp⟩
  intro h
  have := ((cut_iff hG ho).mp h).1
  rw [win_four, reps_two] at this
  simp at this
theorem cutW_ok {a b : Nat} (hsm : Small [a, b] 2) (hne : a ≠ b) {o : List (List Nat)} (h : o = [[a, b], [b, a]] ∨ o = [[b, a], [a, b]]) : Wd [a, b] 4 2 14 (cutW [a, b] o) := by
  have ho := ord_two hsm hne h
  have hin : ∀ w ∈ cutW [a, b] o, w ∈ wordsOf [a, b] 4 := fun w hw => (List.mem_filter.mp hw).1
  have hmm : ∀ w : List Nat, w.length = 4 → (∀ c ∈ w, c ∈ [a, b]) → (2 : Int) ∈ cutsL [a, b] 2 o w → w ∈ cutW [a, b] o := fun w h1 h2 h3 => List.mem_filter.mpr ⟨words_in _ _ h1 h2, by simpa using h3⟩
  refine ⟨fun w hw => (wordsOf_mem (hin w hw)).1, fun w hw => (wordsOf_mem (hin w hw)).2, (words_inc hsm.l.inc 4).filter _, ?_, ?_⟩
  · rcases h with rfl | rfl
    · refine nodup_two (x := [a, a, b, a]) (y := [b, a, b, a]) (hmm _ rfl (by simp) (cut_first ho hne (by simp))) (hmm _ rfl (by simp) (cut_first ho hne (by simp))) fun e => ?_
      injection e with e _
      exact hne e
    · refine nodup_two (x := [a, b, a, a]) (y := [b, b, a, a]) (hmm _ rfl (by simp) (cut_first ho hne.symm (by simp))) (hmm _ rfl (by simp) (cut_first ho hne.symm (by simp))) fun e => ?_
      injection e with e _
      exact hne e
  · have h1 := filter_two (l := wordsOf [a, b] 4) (p := fun w => decide ((2 : Int) ∈ cutsL [a, b] 2 o w)) (x := [a, a, a, a]) (y := [b, b, b, b]) (words_in _ _ rfl (by simp)) (words_in _ _ rfl (by simp)) (fun e => by injection e with e _; exact hne e) (decide_eq_false (no_cut ho (by simp))) (decide_eq_false (no_cut ho (by simp)))
    rw [wordsOf_len] at h1
    have h2 : ([a, b] : List Nat).length ^ 4 = 16 := rfl
    unfold cutW
    omega
end K32
namespace K32
open PySem PySem.Spec L2 DL PyProof.Rows
open K30 (RL RuleOk seenW seenW_len apartB apart_iff Fits NV low_of ne_of Ws words_of sorted_words uq_le)
/-- the grounds of this law -/
structure G4 (s : List Nat) (g : Nat) : Prop where
  l : Letters s.length s
  sz : (s.length = 2 ∧ g = 2) ∨ (s.length = 2 ∧ g = 3) ∨ (s.length = 3 ∧ g = 2) ∨ (s.length = 4 ∧ g = 2)
theorem G4.small {s : List Nat} {g : Nat} (h : G4 s g) : Small s g := ⟨h.l, by
  rcases h.sz with ⟨h1, h2⟩ | ⟨h1, h2⟩ | ⟨h1, h2⟩ | ⟨h1, h2⟩ <;> rw [h1, h2] <;> decide⟩
structure Wd0 (s : List Nat) (w lo hi : Nat) (ws : List (List Nat)) : Prop where
  len : ∀ x ∈ ws, x.length = w
  mem : ∀ x ∈ ws, ∀ c ∈ x, c ∈ s
  nd : ws.Nodup
  lo : lo ≤ ws.length
  hi : ws.length ≤ hi
theorem extA {s : List Nat} {g n : Nat} {us : List (List Nat)} {x0 x2 x3 x4 x5 x6 x7 x8 : Option D} {K : List D → Nat → Prop} (hl : ∀ u ∈ us, u.length ≤ 100) (h : K ((us.map fun w => (s.map fun c => w ++ [c]).map D.str).map D.lst) n) :
    goD (gN 9) tYesD (fFrz (oComp (iSeq (fFrz (oCl oList (aCons (f2 gIx (fVar 1) (fC (.int 0))) aNil)))) (gN 10) tYesD (f2 gAdd3 (fVar 9) (fVar 10)) [10])) [x0, some (GR s g), x2, x3, x4, x5, x6, x7, x8, none, none] (List.map D.str us) n K := by
  refine goD_map (fun w : List Nat => D.lst ((s.map fun c => w ++ [c]).map D.str)) (fun w hw m K2 hK => ?_) (by rw [List.map_map] at h; exact h)
  have := hl w hw
  simp [stepD]
  refine goD_map (fun c : Nat => D.str (w ++ [c])) (fun c hc m K3 hK3 => ?_) ?_
  · simp [stepD]
    exact ⟨by omega, hK3⟩
  · rw [List.map_map] at hK
    exact hK
theorem extB {s : List Nat} {g n : Nat} {us : List (List Nat)} {x0 x2 x3 x4 x5 x6 x7 x8 : Option D} {K : List D → Nat → Prop} (hl : ∀ u ∈ us, u.length ≤ 100) (h : K ((us.map fun w => (s.map fun c => c :: w).map D.str).map D.lst) n) :
    goD (gN 9) tYesD (fFrz (oComp (iSeq (fFrz (oCl oList (aCons (f2 gIx (fVar 1) (fC (.int 0))) aNil)))) (gN 10) tYesD (f2 gAdd3 (fVar 10) (fVar 9)) [10])) [x0, some (GR s g), x2, x3, x4, x5, x6, x7, x8, none, none] (List.map D.str us) n K := by
  refine goD_map (fun w : List Nat => D.lst ((s.map fun c => c :: w).map D.str)) (fun w hw m K2 hK => ?_) (by rw [List.map_map] at h; exact h)
  have := hl w hw
  simp [stepD]
  refine goD_map (fun c : Nat => D.str (c :: w)) (fun c hc m K3 hK3 => ?_) ?_
  · simp [stepD]
    exact ⟨by omega, hK3⟩
  · rw [List.map_map] at hK
    exact hK
theorem flat_ext {f : List Nat → Nat → List Nat} {s : List Nat} : ∀ {us : List (List Nat)}, (us.map fun w => (s.map (f w)).map D.str).flatten = (longer f s us).map D.str
  | [] => rfl
  | u :: us => by
    have := flat_ext (f := f) (s := s) (us := us)
    unfold longer at this ⊢
    rw [List.map_cons, List.flatten_cons, this, List.flatMap_cons, List.map_append]
def F__law_near_rule : FC := fun ds n Q => ∃ (s : List Nat) (g : Nat), ds = [dice, GR s g] ∧ G4 s g ∧ n + 1000000000 ≤ 1000000000000000000 ∧ ∀ (w a : Nat) (ws : List (List Nat)) m, RuleOk s w a ws → w ≤ 100 → s.length ^ (w + (2 * g - 2)) ≤ 1000000 → n ≤ m → m ≤ n + 1000000000 → Q (.val (RL ws a)) m
theorem law__law_near_rule : ∀ ds n Q, F__law_near_rule ds n Q → ds.length = 2 → rd__law_near_rule F__law_all_cuts F_draw F__law_drawn_rule F__law_drawn_word F__law_words_of { nx := fun _ m => Q (.val .non) m, rt := fun _ => Q } (startE 9 ds) n := by
  rintro ds n Q ⟨s, g, rfl, hG, hn, h⟩ _
  have hsz := s_line
  have hsm := hG.small
  have hok := hsm.few.ok
  have hs := ne_of hok
  have hgap := hsm.gap
  have hdr : ∀ (most : Nat) (m : Nat), n ≤ m → m ≤ n + 1000 → 1 ≤ most → (s.length ≤ 3 → most ≤ 4) → (¬ s.length ≤ 3 → most ≤ 3) → F__law_drawn_rule [dice, GR s g, .int most] m fun s_1 k => Q (.val s_1.view) k := fun most m h1 h2 hm1 hm2 hm3 => by
    refine ⟨s, g, most, rfl, hs, by omega, by omega, by omega, hm1, by omega, by omega, fun w a ws m2 hr hw h3 h4 => ?_⟩
    refine h w a ws m2 hr (by omega) ?_ (by omega) (by omega)
    have hp := hr.pos
    rcases hG.sz with ⟨e1, e2⟩ | ⟨e1, e2⟩ | ⟨e1, e2⟩ | ⟨e1, e2⟩ <;> rw [e1, e2]
    · exact Nat.le_trans (Nat.pow_le_pow_right (by omega) (show w + (2 * 2 - 2) ≤ 6 by omega)) (by decide)
    · exact Nat.le_trans (Nat.pow_le_pow_right (by omega) (show w + (2 * 3 - 2) ≤ 8 by omega)) (by decide)
    · exact Nat.le_trans (Nat.pow_le_pow_right (by omega) (show w + (2 * 2 - 2) ≤ 6 by omega)) (by decide)
    · exact Nat.le_trans (Nat.pow_le_pow_right (by omega) (show w + (2 * 2 - 2) ≤ 5 by omega)) (by decide)
  unfold rd__law_near_rule
  refine sSeq_of fun next0 hn0 => ?_
  simp
  have go : s.length = 2 → g = 2 → ∀ m, n ≤ m → m ≤ n + 1000 → next0 [some (.val dice), some (.val (GR s g)), none, none, none, none, none, none, none, none, none] m := by
    intro hsl hg2 m0 h01 h02
    subst hg2
    obtain ⟨a, b, rfl⟩ : ∃ a b, s = [a, b] := by
      match s, hsl with
      | [a, b], _ => exact ⟨a, b, rfl⟩
    have hne : a ≠ b := fun e => by
      have := hok.inc
      subst e
      simp at this
    have hQ : ∀ (w p : Nat) (ws : List (List Nat)) m, RuleOk [a, b] w p ws → w ≤ 6 → m0 ≤ m → m ≤ m0 + 100000000 → Q (.val (RL ws p)) m := fun w p ws m hr hw h1 h2 => by
      refine h w p ws m hr (by omega) ?_ (by omega) (by omega)
      exact Nat.le_trans (Nat.pow_le_pow_right (by simp) (show w + (2 * 2 - 2) ≤ 8 by omega)) (by simp)
    refine hn0 _ _ ?_
    refine sSeq_of fun next1 hn1 => ?_
    simp
    refine hn1 _ _ ?_
    refine sSeq_of fun next2 hn2 => ?_
    have go2 : ∀ (o : List (List Nat)) m, (o = [[a, b], [b, a]] ∨ o = [[b, a], [a, b]]) → m0 ≤ m → m ≤ m0 + 1000 → next2 [some (.val dice), some (.val (GR [a, b] 2)), some (.val (.str [a, b])), some (.val (.str [b, a])), some (.val (.lst (TD o))), none, none, none, none, none, none] m := by
      intro o m1 ho h1 h2
      have hO := ord_two hsm hne ho
      have hW := cutW_ok hsm hne ho
      refine hn2 _ _ ?_
      refine sSeq_of fun next3 hn3 => ?_
      simp
      refine ⟨[a, b], 4, rfl, by simp, by simp, by omega, ?_⟩
      simp
      refine goD_filter (fun w => decide ((2 : Int) ∈ cutsL [a, b] 2 o w)) D.str (fun w hw m K hT hF => ?_) ?_
      · obtain ⟨hwl, hwm⟩ := wordsOf_mem hw
        simp [stepD]
        refine ⟨[a, b], 2, o, w, rfl, ⟨hok, by omega, hwm, by omega⟩, hO, ?_⟩
        simp
        by_cases c : (2 : Int) ∈ cutsL [a, b] 2 o w
        · simp [c]
          exact hT (by simpa using c)
        · simp [c]
          exact hF (by simpa using c)
      have eW : (wordsOf [a, b] 4).filter (fun w => decide ((2 : Int) ∈ cutsL [a, b] 2 o w)) = cutW [a, b] o := rfl
      rw [eW]
      generalize cutW [a, b] o = ws at *
      clear eW
      refine hn3 _ _ ?_
      refine sSeq_of fun next4 hn4 => ?_
      simp
      refine draw_of (by omega) (by omega) (by omega) fun way m2 hway h3 h4 => ?_
      simp
      have hlo := hW.lo
      have hhi := hW.hi
      refine draw_of (by omega) (by omega) (by omega) fun at_ m3 hat h5 h6 => ?_
      simp
      refine hn4 _ _ ?_
      refine sSeq_of fun next5 hn5 => ?_
      have tail : ∀ (us : List (List Nat)) (x7 : Option Sl) m, RuleOk [a, b] 4 2 us → (way = 0 ∨ way = 1) → m0 ≤ m → m ≤ m0 + 100000000 → next5 [some (.val dice), some (.val (GR [a, b] 2)), some (.val (.str [a, b])), some (.val (.str [b, a])), some (.val (.lst (TD o))), some (.val (.lst (TD us))), some (.val (.int way)), x7, none, none, none] m := by
        intro us x7 m hr hw q1 q2
        have n2 : ¬ (way : Int) = 2 := by omega
        have n3 : ¬ (way : Int) = 3 := by omega
        have n4 : ¬ (way : Int) = 4 := by omega
        have n5 : ¬ 4 < (way : Int) := by omega
        refine hn5 _ _ ?_
        refine sSeq_of fun next6 hn6 => ?_
        simp [n2]
        refine hn6 _ _ ?_
        refine sSeq_of fun next7 hn7 => ?_
        simp [n3]
        refine hn7 _ _ ?_
        refine sSeq_of fun next8 hn8 => ?_
        simp [n4]
        refine hn8 _ _ ?_
        refine sSeq_of fun next9 hn9 => ?_
        simp [n5]
        refine hn9 _ _ ?_
        simp
        exact ⟨by omega, hQ 4 2 us m hr (by omega) q1 q2⟩
      simp
      by_cases w1 : (way : Int) = 1
      · rw [if_pos w1]
        have hcw : cutL (List.map D.str ws) none (some (at_ : Int)) ++ cutL (List.map D.str ws) (some ((at_ : Int) + 1)) none = TD (ws.take at_ ++ ws.drop (at_ + 1)) := by
          rw [show (at_ : Int) + 1 = ((at_ + 1 : Nat) : Int) by omega, cutL_take, cutL_drop, TD, List.map_append, List.map_take, List.map_drop]
        have hcl : (cutL (List.map D.str ws) none (some (at_ : Int))).length + (cutL (List.map D.str ws) (some ((at_ : Int) + 1)) none).length ≤ 16777216 := by
          have := congrArg List.length hcw
          rw [List.length_append] at this
          rw [this]; simp; omega
        rw [hcw]
        have hC := hW.cut (k := at_)
        exact ⟨hcl, tail _ _ _ (hC.rule (by omega) (by omega) (by omega) (by omega) (by omega)) (by omega) (by omega) (by omega)⟩
      rw [if_neg w1]
      by_cases w0 : way = 0
      · exact tail _ _ _ (hW.rule (by omega) (by omega) (by omega) (by omega) (by omega)) (by omega) (by omega) (by omega)
      refine hn5 _ _ ?_
      refine sSeq_of fun next6 hn6 => ?_
      simp [-goD]
      by_cases w2 : (way : Int) = 2
      · have n3 : ¬ (way : Int) = 3 := by omega
        have n4 : ¬ (way : Int) = 4 := by omega
        have n5 : ¬ 4 < (way : Int) := by omega
        rw [if_pos w2]
        refine ⟨[a, b], 2, 4, rfl, by simp, by simp, by omega, by omega, fun v m4 hv hvl h7 h8 => ?_⟩
        have hus : Ws [a, b] 4 (ws ++ [v]) := hW.ws.snoc hvl hv
        have e1 : List.map D.str ws ++ [D.str v] = List.map D.str (ws ++ [v]) := by simp
        refine ⟨by omega, by omega, ?_⟩
        change goD _ _ _ _ (List.map D.str ws ++ [D.str v]) _ _
        rw [e1]
        refine goD_map (fun x : List Nat => D.tup [.str x, .bl true]) (fun x hx m K hK => by simpa [stepD] using ⟨by omega, hK⟩) ?_
        refine dictP_str2 (kf := fun x => x) (vf := fun _ => .bl true) fun vs hvs => ?_
        rw [List.map_id'] at *
        refine sorted_words hus (by simp) (by simp; omega) (by omega) (by omega) fun ts hts => ?_
        refine hn6 _ _ ?_
        refine sSeq_of fun next7 hn7 => ?_
        simp [n3]
        refine hn7 _ _ ?_
        refine sSeq_of fun next8 hn8 => ?_
        simp [n4]
        refine hn8 _ _ ?_
        refine sSeq_of fun next9 hn9 => ?_
        simp [n5]
        refine hn9 _ _ ?_
        simp
        exact ⟨by omega, hQ 4 2 ts _ (hts 2 (by omega)) (by omega) (by omega) (by omega)⟩
      rw [if_neg w2]
      refine hn6 _ _ ?_
      refine sSeq_of fun next7 hn7 => ?_
      simp [-goD]
      by_cases w3 : (way : Int) = 3
      · have n4 : ¬ (way : Int) = 4 := by omega
        have n5 : ¬ 4 < (way : Int) := by omega
        rw [if_pos w3]
        refine extA (fun u hu => by rw [hW.len u hu]; omega) ⟨_, [], ⟨rfl, rfl⟩, ?_, ?_⟩
        · rw [← List.length_flatten, flat_ext (f := fun w c => w ++ [c]), List.length_map, longer_len]; simp; omega
        rw [List.nil_append, flat_ext (f := fun w c => w ++ [c])]
        refine .inl ⟨_, rfl, fun ts hp hso => ?_⟩
        have hT := longer_sorted snoc_inj (by simp) (fun w c x hx => by simpa using hx) hW.len hW.mem hW.nd hW.lo hW.hi (List.nodup_iff_pairwise_ne.mpr (hsm.l.inc.imp fun h => Nat.ne_of_lt h)) hp hso
        refine hn7 _ _ ?_
        refine sSeq_of fun next8 hn8 => ?_
        simp [n4]
        refine hn8 _ _ ?_
        refine sSeq_of fun next9 hn9 => ?_
        simp [n5]
        refine hn9 _ _ ?_
        simp
        exact ⟨by omega, hQ 5 2 ts _ (hT.rule (by simp) (by simp) (by omega) (by omega) (by omega)) (by omega) (by omega) (by omega)⟩
      rw [if_neg w3]
      refine hn7 _ _ ?_
      refine sSeq_of fun next8 hn8 => ?_
      simp [-goD]
      by_cases w4 : (way : Int) = 4
      · rw [if_pos w4]
        refine extB (fun u hu => by rw [hW.len u hu]; omega) ⟨_, [], ⟨rfl, rfl⟩, ?_, ?_⟩
        · rw [← List.length_flatten, flat_ext (f := fun w c => c :: w), List.length_map, longer_len]; simp; omega
        rw [List.nil_append, flat_ext (f := fun w c => c :: w)]
        refine .inl ⟨_, rfl, fun ts hp hso => ?_⟩
        have hT := longer_sorted cons_inj (by simp) (fun w c x hx => by rcases List.mem_cons.mp hx with h | h; exact .inr h; exact .inl h) hW.len hW.mem hW.nd hW.lo hW.hi (List.nodup_iff_pairwise_ne.mpr (hsm.l.inc.imp fun h => Nat.ne_of_lt h)) hp hso
        exact ⟨by omega, hQ 5 3 ts _ (hT.rule (by simp) (by simp) (by omega) (by omega) (by omega)) (by omega) (by omega) (by omega)⟩
      rw [if_neg w4]
      refine hn8 _ _ ?_
      refine sSeq_of fun next9 hn9 => ?_
      simp [-goD]
      rw [if_pos (by omega)]
      refine sSeq_of fun next10 hn10 => ?_
      have go10 : ∀ (w lo hi : Nat) (us : List (List Nat)) m, 1 ≤ lo → hi ≤ 28 → (w = 4 ∨ w = 5) → Wd0 [a, b] w lo hi us → m0 ≤ m → m ≤ m0 + 10000 → next10 [some (.val dice), some (.val (GR [a, b] 2)), some (.val (.str [a, b])), some (.val (.str [b, a])), some (.val (.lst (TD o))), some (.val (.lst (List.map D.str ws))), some (.val (.int way)), some (.val (.int at_)), some (.val (.lst (TD us))), none, none] m := by
        intro w lo hi us m5 hlo1 hhi1 hw hus q1 q2
        refine hn10 _ _ ?_
        refine sSeq_of fun next11 hn11 => ?_
        simp [-goD]
        refine extB (fun u hu => by rw [hus.len u hu]; omega) ⟨_, [], ⟨rfl, rfl⟩, ?_, ?_⟩
        · rw [← List.length_flatten, flat_ext (f := fun w c => c :: w), List.length_map, longer_len]
          have := hus.hi
          simp; omega
        rw [List.nil_append, flat_ext (f := fun w c => c :: w)]
        refine .inl ⟨_, rfl, fun ts hp hso => ?_⟩
        have hT := longer_sorted cons_inj (by simp) (fun w c x hx => by rcases List.mem_cons.mp hx with h | h; exact .inr h; exact .inl h) hus.len hus.mem hus.nd hus.lo hus.hi (List.nodup_iff_pairwise_ne.mpr (hsm.l.inc.imp fun h => Nat.ne_of_lt h)) hp hso
        have hT2 : Wd [a, b] (w + 1) 2 56 ts := ⟨hT.len, hT.mem, hT.inc, by have := hT.lo; simp at this; omega, by have := hT.hi; simp at this; omega⟩
        have t1 := hT2.lo
        have t2 := hT2.hi
        refine hn11 _ _ ?_
        refine sSeq_of fun next12 hn12 => ?_
        simp
        refine draw_of (by omega) (by omega) (by omega) fun k m6 hk q3 q4 => ?_
        simp
        refine hn12 _ _ ?_
        refine sSeq_of fun next13 hn13 => ?_
        simp
        refine draw_of (by omega) (by omega) (by omega) fun k2 m7 hk2 q5 q6 => ?_
        simp
        by_cases ck : k2 = 0
        · rw [if_pos ck]
          have hcw : cutL (List.map D.str ts) none (some (k : Int)) ++ cutL (List.map D.str ts) (some ((k : Int) + 1)) none = TD (ts.take k ++ ts.drop (k + 1)) := by
            rw [show (k : Int) + 1 = ((k + 1 : Nat) : Int) by omega, cutL_take, cutL_drop, TD, List.map_append, List.map_take, List.map_drop]
          have hcl : (cutL (List.map D.str ts) none (some (k : Int))).length + (cutL (List.map D.str ts) (some ((k : Int) + 1)) none).length ≤ 16777216 := by
            have := congrArg List.length hcw
            rw [List.length_append] at this
            rw [this]; simp; omega
          rw [hcw]
          have hC := hT2.cut (k := k)
          exact ⟨hcl, by omega, hQ (w + 1) 3 _ _ (hC.rule (by omega) (by omega) (by omega) (by omega) (by omega)) (by omega) (by omega) (by omega)⟩
        rw [if_neg ck]
        refine hn13 _ _ ?_
        obtain ⟨y0, ys, e0⟩ : ∃ y0 ys, ts = y0 :: ys := by
          cases ts with
          | nil => simp at t1
          | cons y0 ys => exact ⟨y0, ys, rfl⟩
        have hy0 : y0.length = w + 1 := hT2.len y0 (by rw [e0]; exact List.mem_cons_self ..)
        have e1 : atI (ts.map D.str) 0 = some (.str y0) := by rw [e0]; simp
        simp [-goD, e1, hy0]
        refine ⟨[a, b], 2, w + 1, by simp, by simp, by simp, by omega, by omega, fun v m8 hv hvl q7 q8 => ?_⟩
        have hus2 : Ws [a, b] (w + 1) (ts ++ [v]) := hT2.ws.snoc hvl hv
        have e2 : List.map D.str ts ++ [D.str v] = List.map D.str (ts ++ [v]) := by simp
        refine ⟨by omega, by omega, ?_⟩
        change goD _ _ _ _ (List.map D.str ts ++ [D.str v]) _ _
        rw [e2]
        refine goD_map (fun x : List Nat => D.tup [.str x, .bl true]) (fun x hx m K hK => by simpa [stepD] using ⟨by omega, hK⟩) ?_
        refine dictP_str2 (kf := fun x => x) (vf := fun _ => .bl true) fun vs hvs => ?_
        rw [List.map_id'] at *
        refine sorted_words hus2 (by simp) (by simp; omega) (by omega) (by omega) fun ts2 hts2 => ?_
        exact ⟨by omega, hQ (w + 1) 3 ts2 _ (hts2 3 (by omega)) (by omega) (by omega) (by omega)⟩
      simp [-goD]
      by_cases w5 : (way : Int) = 5
      · rw [if_pos w5]
        refine extA (fun u hu => by rw [hW.len u hu]; omega) ⟨_, [], ⟨rfl, rfl⟩, ?_, ?_⟩
        · rw [← List.length_flatten, flat_ext (f := fun w c => w ++ [c]), List.length_map, longer_len]; simp; omega
        rw [List.nil_append, flat_ext (f := fun w c => w ++ [c])]
        have hLl := longer_len (fun w c => w ++ [c]) [a, b] ws
        simp at hLl
        refine go10 5 4 28 (longer (fun w c => w ++ [c]) [a, b] ws) m3 (by omega) (by omega) (.inr rfl) ⟨fun x hx => ?_, fun x hx c hc => ?_, longer_nd snoc_inj (List.nodup_iff_pairwise_ne.mpr (hsm.l.inc.imp fun h => Nat.ne_of_lt h)) hW.nd, by omega, by omega⟩ (by omega) (by omega)
        · obtain ⟨v, hv, hx2⟩ := List.mem_flatMap.mp hx
          obtain ⟨c, hc, rfl⟩ := List.mem_map.mp hx2
          rw [List.length_append, hW.len v hv]; rfl
        · obtain ⟨v, hv, hx2⟩ := List.mem_flatMap.mp hx
          obtain ⟨c', hc', rfl⟩ := List.mem_map.mp hx2
          rcases List.mem_append.mp hc with h | h
          · exact hW.mem v hv c h
          · rw [List.mem_singleton.mp h]; exact hc'
      · rw [if_neg w5]
        exact go10 4 2 14 ws m3 (by omega) (by omega) (.inl rfl) ⟨hW.len, hW.mem, hW.nd, hlo, hhi⟩ (by omega) (by omega)
    simp
    refine draw_of (by omega) (by omega) (by omega) fun k m1 hk q1 q2 => ?_
    simp
    by_cases ck : k = 0
    · rw [if_pos ck]
      exact ⟨by omega, go2 [[a, b], [b, a]] m1 (.inl rfl) q1 (by omega)⟩
    · rw [if_neg ck]
      exact ⟨by omega, go2 [[b, a], [a, b]] m1 (.inr rfl) q1 (by omega)⟩
  by_cases c1 : 2 < (s.length : Int)
  · rw [if_pos c1]
    by_cases c2 : 3 < (s.length : Int)
    · rw [if_pos c2]; exact hdr 3 n (Nat.le_refl _) (by omega) (by omega) (by omega) (by omega)
    · rw [if_neg c2]; exact hdr 4 n (Nat.le_refl _) (by omega) (by omega) (by omega) (by omega)
  rw [if_neg c1]
  by_cases c3 : 2 < (g : Int)
  · rw [if_pos c3, if_neg (by omega)]
    exact hdr 4 n (Nat.le_refl _) (by omega) (by omega) (by omega) (by omega)
  rw [if_neg c3]
  refine draw_of (by omega) (by omega) (by omega) fun k m1 hk q1 q2 => ?_
  simp
  by_cases ck : k = 0
  · rw [if_pos ck, if_neg (by omega)]
    exact hdr 4 m1 q1 (by omega) (by omega) (by omega) (by omega)
  · rw [if_neg ck]
    refine go ?_ ?_ m1 q1 (by omega)
    · have := hgap.2.2.1; omega
    · omega
end K32
namespace K32
open PySem PySem.Spec L2 DL PyProof.Rows
open K30 (RL RuleOk seenW seenW_len apartB apart_iff Fits NV low_of ne_of Ws words_of sorted_words uq_le)
def blkF (F__law_exact F__law_judged_right F__law_rule_right : FC) : FS := (sSeq (sPar [10, 11] (xCons (xV (fTup (aCons (fVarU 8) (aCons (f2 gIx (fVar 9) (fC (.int 1))) aNil)))) (xCons (xV (fTup (aCons (fFrz (oCl oList (aCons (f2 gIx (fVar 9) (fC (.int 0))) aNil))) (aCons (f2 gIx (fVar 9) (fC (.int 1))) aNil)))) xNil))) (sIf (tOrD (tNotD (tTru (fCall 4 F__law_rule_right [] (aCons (fVar 1) (aCons (fVar 5) (aCons (fVar 4) (aCons (fVar 10) aNil))))))) (tOrD (tNotD (tTru (fCall 4 F__law_judged_right [] (aCons (fVar 1) (aCons (fVar 5) (aCons (fVar 4) (aCons (fVar 10) aNil))))))) (tNotD (tTru (fCall 2 F__law_exact [] (aCons (fVar 10) (aCons (fVar 11) aNil))))))) (sRet (fC (.bl false))) sNext))
theorem plTD (k : Nat) : ∀ r : List (List Nat), plains k (TD r) = true
  | [] => by simp
  | w :: r => by
    have := plTD k r
    simp only [TD] at this
    simp [this]
theorem rl_plain {ws : List (List Nat)} {a : Nat} : DL.plain 5 (.tup [.lst (TD ws), .int a]) = true := by
  show (DL.plain 4 (.lst (TD ws)) && (DL.plain 4 (.int a) && true)) = true
  have : DL.plain 4 (.lst (TD ws)) = true := plTD _ _
  rw [this]
  rfl
theorem law_blk {s : List Nat} {g w a : Nat} {ws : List (List Nat)} {a8 : Addr} {x0 x2 x3 x6 x7 x10 x11 : Option Sl} {E : DEnds} {m : Nat} (hG : OkG s g) (hsl : s.length ≤ 25) (hg2 : g ≤ 100) (hr : RuleOk s w a ws) (hfew : s.length ^ (w + (2 * g - 2)) ≤ 1000000) (hm : m + 100000000000 ≤ 1000000000000000000)
    (hnx : ∀ y10 y11 m', m ≤ m' → m' ≤ m + 100000000000 → E.nx [x0, some (.val dice), x2, x3, some (.val (GR s g)), some (.val (gnd s g)), x6, x7, some (.val (.ati a8 [.lst (TD ws)])), some (.val (RL ws a)), y10, y11] m') :
    blkF (F_exact 5) F__law_judged_right F__law_rule_right E [x0, some (.val dice), x2, x3, some (.val (GR s g)), some (.val (gnd s g)), x6, x7, some (.val (.ati a8 [.lst (TD ws)])), some (.val (RL ws a)), x10, x11] m := by
  have hsz := s_line
  have hs := ne_of hG
  have hc := hr.card
  unfold blkF
  refine sSeq_of fun next1 hn1 => ?_
  simp [RL]
  refine ⟨by omega, ?_⟩
  refine hn1 _ _ ?_
  simp
  refine ⟨s, g, w, a, ws, rfl, hG, by omega, by omega, hr, hfew, ?_⟩
  simp
  refine ⟨s, g, w, a, ws, rfl, hG, by omega, hg2, hr, by omega, fun m1 h1 h2 => ?_⟩
  simp
  refine exact_same rl_plain ?_
  simp
  exact hnx _ _ _ h1 h2
theorem law_law : ∀ ds n Q, F_law ds n Q → ds.length = 1 → rd_law F_dices F_draw (F_exact 5) F__law_judged_right F__law_letters F__law_made F__law_near_rule F_one_of F__law_rule_right { nx := fun _ m => Q (.val .non) m, rt := fun _ => Q } (startE 11 ds) n := by
  rintro ds n Q ⟨ns, rfl, hns, rfl, h⟩ _
  have hsz := s_line
  unfold rd_law
  refine sSeq_of fun next0 hn0 => ?_
  simp
  refine ⟨ns, 2, rfl, hns, by decide, by decide, fun k hk1 hk2 => ?_⟩
  simp
  refine dices_inv (c := 1000000000000) (fun env => ∃ x0 x1 x2 x3 x4 x5 x6 x7 x8 x9 x10 x11, env = [x0, x1, x2, x3, x4, x5, x6, x7, x8, x9, x10, x11]) (by omega) (by omega) ?_ ?_ ⟨_, _, _, _, _, _, _, _, _, _, _, _, rfl⟩
  · rintro env n next ⟨x0, x1, x2, x3, x4, x5, x6, x7, x8, x9, x10, x11, rfl⟩ hb hnx
    simp
    refine sSeq_of fun next1 hn1 => ?_
    simp
    refine ⟨by omega, by omega, one_of (by simp) (by simp) (by omega) fun d m1 hd h1 h2 => ?_⟩
    obtain ⟨ms, g, rfl, hms⟩ : ∃ ms g : Nat, d = .tup [.int ms, .int g] ∧ ((ms = 2 ∧ g = 2) ∨ (ms = 2 ∧ g = 3) ∨ (ms = 3 ∧ g = 2) ∨ (ms = 4 ∧ g = 2)) := by
      simp at hd
      rcases hd with rfl | rfl | rfl | rfl
      · exact ⟨2, 2, rfl, by omega⟩
      · exact ⟨2, 3, rfl, by omega⟩
      · exact ⟨3, 2, rfl, by omega⟩
      · exact ⟨4, 2, rfl, by omega⟩
    simp
    refine hn1 _ _ ?_
    refine sSeq_of fun next2 hn2 => ?_
    simp
    refine ⟨ms, rfl, by omega, by simp only [DRW, LIM]; omega, fun s m2 hs h3 h4 => ?_⟩
    simp only [DRW] at h4
    have hsl := hs.len
    have hG : G4 s g := ⟨⟨rfl, hs.low, hs.inc⟩, by omega⟩
    have hok := hG.small.few.ok
    have hgap := hok.gap
    simp
    refine ⟨by omega, hn2 _ _ ?_⟩
    refine sSeq_of fun next3 hn3 => ?_
    simp
    refine ⟨s, g, rfl, hok, ?_⟩
    simp
    refine ⟨s, g, rfl, hG, by omega, fun w a ws m3 hr1 hw1 hf1 h5 h6 => ?_⟩
    simp
    refine hn3 _ _ ?_
    obtain ⟨y0, ys, e0⟩ : ∃ y0 ys, ws = y0 :: ys := by
      cases ws with
      | nil => exact absurd rfl hr1.ne
      | cons y0 ys => exact ⟨y0, ys, rfl⟩
    have hy0 : y0.length = w := hr1.len y0 (by rw [e0]; exact List.mem_cons_self ..)
    have e1 : atI (ws.map D.str) 0 = some (.str y0) := by rw [e0]; simp
    refine sSeq_of fun next4 hn4 => ?_
    simp [RL, e1, hy0]
    refine draw_of (by omega) (by omega) (by omega) fun a2 m4 ha2 h7 h8 => ?_
    simp
    refine ⟨by omega, s, g, rfl, hG, by omega, fun w3 a3 ws3 m5 hr3 hw3 hf3 h9 h10 => ?_⟩
    simp
    refine ⟨by omega, ?_⟩
    have hr2 : RuleOk s w a2 ws := ⟨hr1.ne, hr1.len, hr1.mem, hr1.inc, hr1.pos, hr1.wle, by omega, hr1.card⟩
    obtain ⟨R, eR, hR, hRl⟩ : ∃ R : List D, [D.tup [D.lst (TD ws), D.int a], D.tup [D.lst (TD ws), D.int a2], RL ws3 a3] = R ∧ (∀ d ∈ R, ∃ w a ws, d = RL ws a ∧ RuleOk s w a ws ∧ s.length ^ (w + (2 * g - 2)) ≤ 1000000) ∧ R.length = 3 := by
      refine ⟨_, rfl, fun d hd => ?_, rfl⟩
      simp at hd
      rcases hd with rfl | rfl | rfl
      · exact ⟨w, a, ws, rfl, hr1, hf1⟩
      · exact ⟨w, a2, ws, rfl, hr2, hf1⟩
      · exact ⟨w3, a3, ws3, rfl, hr3, hf3⟩
    rw [eR]
    refine hn4 _ _ ?_
    refine sSeq_of fun next6 hn6 => ?_
    simp
    refine hn6 _ _ ?_
    simp [cutL_take1, hRl]
    refine forD_inv0 (fun pre env m => m5 ≤ m ∧ m ≤ m5 + 100000000000 * pre.length ∧ ∃ (x0 x2 x3 x6 x7 : Option Sl) (ws' : List (List Nat)) (x9 x10 x11 : Option Sl), env = [x0, some (.val dice), x2, x3, some (.val (GR s g)), some (.val (gnd s g)), x6, x7, some (.own (TD ws')), x9, x10, x11]) ?_ ?_ ?_
    · rintro pre d post env m next8 eU ⟨q1, q2, x0, x2, x3, x6, x7, ws', x9, x10, x11, rfl⟩ hnx8
      obtain ⟨w5, a5, ws5, rfl, hr5, hf5⟩ := hR d (by
        have : d ∈ R ++ R.take 1 := by rw [eU]; simp
        rcases List.mem_append.mp this with h | h
        · exact h
        · exact List.mem_of_mem_take h)
      have hpre : pre.length + 1 ≤ 4 := by
        have := congrArg List.length eU
        rw [List.length_append, List.length_take] at this
        simp at this
        omega
      have hc5 := hr5.card
      refine sSeq_of fun next9 hn9 => ?_
      simp
      refine hn9 _ _ ?_
      refine sSeq_of fun next10 hn10 => ?_
      simp [RL]
      refine ⟨by omega, ?_⟩
      refine hn10 _ _ ?_
      unfold sBlk
      intro as
      refine law_blk (x0 := labS (as 0) false x0) (a8 := as 8) (x2 := labS (as 2) false x2) (x3 := labS (as 3) false x3) (x6 := labS (as 6) false x6) (x7 := labS (as 7) false x7) (x10 := labS (as 10) false x10) (x11 := labS (as 11) false x11) hok (by omega) (by omega) hr5 hf5 (by omega) fun y10 y11 m' h17 h18 => ?_
      refine ⟨⟨by simp, by simp, by simp, by simp, by simp, by simp [RL], by simp, by simp, by simp, by simp, by simp, by simp, trivial⟩, ?_⟩
      simp [RL]
      exact hnx8 _ _ ⟨by omega, by rw [List.length_append, List.length_singleton]; exact step_le q2 h18 (Nat.le_refl _), _, _, _, _, _, _, _, _, _, rfl⟩
    · rintro env m' ⟨hm1, hm2, x0, x2, x3, x6, x7, ws', x9, x10, x11, rfl⟩
      have hln : (R ++ R.take 1).length ≤ 4 := by rw [List.length_append, List.length_take]; omega
      have hm3 : m' ≤ m5 + 400000000000 := by omega
      exact hnx _ _ ⟨_, _, _, _, _, _, _, _, _, _, _, _, rfl⟩ (by omega)
    · exact ⟨Nat.le_refl _, by simp, _, _, _, _, _, [], _, _, _, rfl⟩
  · rintro env n ⟨x0, x1, x2, x3, x4, x5, x6, x7, x8, x9, x10, x11, rfl⟩ hb
    refine hn0 _ _ ?_
    simp
    exact h _
end K32
namespace K32
open PySem PySem.Spec PyProof.Rows L2 DL
def topS (i : Nat) : Stmt := PySem.Challenge.pw_owncuts_k32_whole_rules_that_miss_nothin.main.body.getD i (.Pass ⟨0, 0, 0, 0⟩)
abbrev s_is_whole_words : Stmt := topS 7
theorem sc_is_whole_words : FnScope ["value"] ["value"] (defScope s_is_whole_words) := ⟨rfl, rfl, rfl, by decide +kernel, rfl, by decide +kernel, by decide +kernel⟩
abbrev s_is_count : Stmt := topS 9
theorem sc_is_count : FnScope ["value", "most"] ["value", "most"] (defScope s_is_count) := ⟨rfl, rfl, rfl, by decide +kernel, rfl, by decide +kernel, by decide +kernel⟩
abbrev s_is_text : Stmt := topS 10
theorem sc_is_text : FnScope ["value", "sign"] ["value"] (defScope s_is_text) := ⟨rfl, rfl, rfl, by decide +kernel, rfl, by decide +kernel, by decide +kernel⟩
abbrev s_is_word : Stmt := topS 11
theorem sc_is_word : FnScope ["value"] ["value"] (defScope s_is_word) := ⟨rfl, rfl, rfl, by decide +kernel, rfl, by decide +kernel, by decide +kernel⟩
abbrev s_is_rising : Stmt := topS 12
theorem sc_is_rising : FnScope ["things", "at"] ["things"] (defScope s_is_rising) := ⟨rfl, rfl, rfl, by decide +kernel, rfl, by decide +kernel, by decide +kernel⟩
abbrev s_has : Stmt := topS 14
theorem sc_has : FnScope ["text", "period"] ["text", "period"] (defScope s_has) := ⟨rfl, rfl, rfl, by decide +kernel, rfl, by decide +kernel, by decide +kernel⟩
abbrev s_repeats : Stmt := topS 15
theorem sc_repeats : FnScope ["word", "gap", "period"] ["word", "gap"] (defScope s_repeats) := ⟨rfl, rfl, rfl, by decide +kernel, rfl, by decide +kernel, by decide +kernel⟩
abbrev s_check_ground : Stmt := topS 18
theorem sc_check_ground : FnScope ["value"] ["value"] (defScope s_check_ground) := ⟨rfl, rfl, rfl, by decide +kernel, rfl, by decide +kernel, by decide +kernel⟩
abbrev s_is_text_of : Stmt := topS 19
theorem sc_is_text_of : FnScope ["ground", "value", "sign"] ["ground", "value"] (defScope s_is_text_of) := ⟨rfl, rfl, rfl, by decide +kernel, rfl, by decide +kernel, by decide +kernel⟩
abbrev s_sign_at : Stmt := topS 21
theorem sc_sign_at : FnScope ["ground", "text", "at"] ["ground", "text", "at"] (defScope s_sign_at) := ⟨rfl, rfl, rfl, by decide +kernel, rfl, by decide +kernel, by decide +kernel⟩
abbrev s_window_in : Stmt := topS 22
theorem sc_window_in : FnScope ["ground", "text", "place", "some", "at"] ["ground", "text", "place"] (defScope s_window_in) := ⟨rfl, rfl, rfl, by decide +kernel, rfl, by decide +kernel, by decide +kernel⟩
abbrev s_is_word_of : Stmt := topS 24
theorem sc_is_word_of : FnScope ["ground", "value"] ["ground", "value"] (defScope s_is_word_of) := ⟨rfl, rfl, rfl, by decide +kernel, rfl, by decide +kernel, by decide +kernel⟩
abbrev s_is_rule_in : Stmt := topS 26
theorem sc_is_rule_in : FnScope ["ground", "value", "words", "at", "word", "one", "other"] ["ground", "value"] (defScope s_is_rule_in) := ⟨rfl, rfl, rfl, by decide +kernel, rfl, by decide +kernel, by decide +kernel⟩
abbrev s_check_rule : Stmt := topS 27
theorem sc_check_rule : FnScope ["ground", "rule"] ["ground", "rule"] (defScope s_check_rule) := ⟨rfl, rfl, rfl, by decide +kernel, rfl, by decide +kernel, by decide +kernel⟩
abbrev s_signs_between : Stmt := topS 28
theorem sc_signs_between : FnScope ["ground", "text", "first", "behind", "blank", "at"] ["ground", "text", "first", "behind"] (defScope s_signs_between) := ⟨rfl, rfl, rfl, by decide +kernel, rfl, by decide +kernel, by decide +kernel⟩
abbrev s_seen_at : Stmt := topS 29
theorem sc_seen_at : FnScope ["ground", "text", "width", "at", "place"] ["ground", "text", "width", "at", "place"] (defScope s_seen_at) := ⟨rfl, rfl, rfl, by decide +kernel, rfl, by decide +kernel, by decide +kernel⟩
abbrev s_marked_in : Stmt := topS 30
theorem sc_marked_in : FnScope ["ground", "rule", "text", "first", "last", "words", "size", "place", "word"] ["ground", "rule", "text", "first", "last"] (defScope s_marked_in) := ⟨rfl, rfl, rfl, by decide +kernel, rfl, by decide +kernel, by decide +kernel⟩
abbrev s_near_words : Stmt := topS 31
theorem sc_near_words : FnScope ["gap", "words", "distance", "kept", "heads", "other", "one"] ["gap", "words"] (defScope s_near_words) := ⟨rfl, rfl, rfl, by decide +kernel, rfl, by decide +kernel, by decide +kernel⟩
abbrev s_missed_in : Stmt := topS 32
theorem sc_missed_in : FnScope ["ground", "words", "at", "size", "span", "known", "rows", "turn", "row", "longer", "word", "sign"] ["ground", "words", "at"] (defScope s_missed_in) := ⟨rfl, rfl, rfl, by decide +kernel, rfl, by decide +kernel, by decide +kernel⟩
abbrev s_missed : Stmt := topS 33
theorem sc_missed : FnScope ["ground", "rule", "found"] ["ground", "rule"] (defScope s_missed) := ⟨rfl, rfl, rfl, by decide +kernel, rfl, by decide +kernel, by decide +kernel⟩
abbrev s_is_missed : Stmt := topS 34
theorem sc_is_missed : FnScope ["ground", "rule", "value", "text", "place"] ["ground", "rule", "value"] (defScope s_is_missed) := ⟨rfl, rfl, rfl, by decide +kernel, rfl, by decide +kernel, by decide +kernel⟩
abbrev s_is_whole_rules : Stmt := topS 35
theorem sc_is_whole_rules : FnScope ["ground", "rule"] ["ground", "rule"] (defScope s_is_whole_rules) := ⟨rfl, rfl, rfl, by decide +kernel, rfl, by decide +kernel, by decide +kernel⟩
abbrev s__law_dice : Stmt := topS 38
theorem sc__law_dice : FnScope ["script", "at", "seed"] ["script", "at"] (defScope s__law_dice) := ⟨rfl, rfl, rfl, by decide +kernel, rfl, by decide +kernel, by decide +kernel⟩
abbrev s__law_mixed : Stmt := topS 39
theorem sc__law_mixed : FnScope ["seed", "spin", "at", "mixed"] ["seed", "spin", "at"] (defScope s__law_mixed) := ⟨rfl, rfl, rfl, by decide +kernel, rfl, by decide +kernel, by decide +kernel⟩
abbrev s__law_draw : Stmt := topS 40
theorem sc__law_draw : FnScope ["dice", "many", "found", "piece", "drawn"] ["dice", "many"] (defScope s__law_draw) := ⟨rfl, rfl, rfl, by decide +kernel, rfl, by decide +kernel, by decide +kernel⟩
abbrev s__law_one_of : Stmt := topS 41
theorem sc__law_one_of : FnScope ["dice", "some"] ["dice", "some"] (defScope s__law_one_of) := ⟨rfl, rfl, rfl, by decide +kernel, rfl, by decide +kernel, by decide +kernel⟩
abbrev s__law_exact : Stmt := topS 42
theorem sc__law_exact : FnScope ["mine", "theirs", "is_like", "a", "b", "key"] ["mine", "theirs"] (defScope s__law_exact) := ⟨rfl, rfl, rfl, by decide +kernel, rfl, by decide +kernel, by decide +kernel⟩
abbrev s__law_dices : Stmt := topS 43
theorem sc__law_dices : FnScope ["script", "few", "at"] ["script", "few"] (defScope s__law_dices) := ⟨rfl, rfl, rfl, by decide +kernel, rfl, by decide +kernel, by decide +kernel⟩
abbrev s__law_letters : Stmt := topS 44
theorem sc__law_letters : FnScope ["dice", "many", "found", "spin", "late", "sign"] ["dice", "many"] (defScope s__law_letters) := ⟨rfl, rfl, rfl, by decide +kernel, rfl, by decide +kernel, by decide +kernel⟩
abbrev s__law_repeats : Stmt := topS 45
theorem sc__law_repeats : FnScope ["word", "gap", "period"] ["word", "gap"] (defScope s__law_repeats) := ⟨rfl, rfl, rfl, by decide +kernel, rfl, by decide +kernel, by decide +kernel⟩
abbrev s__law_words_of : Stmt := topS 46
theorem sc__law_words_of : FnScope ["signs", "size", "found", "spin", "longer", "word", "sign"] ["signs", "size"] (defScope s__law_words_of) := ⟨rfl, rfl, rfl, by decide +kernel, rfl, by decide +kernel, by decide +kernel⟩
abbrev s__law_window : Stmt := topS 47
theorem sc__law_window : FnScope ["ground", "text", "place", "pad", "wide", "at"] ["ground", "text", "place"] (defScope s__law_window) := ⟨rfl, rfl, rfl, by decide +kernel, rfl, by decide +kernel, by decide +kernel⟩
abbrev s__law_places : Stmt := topS 48
theorem sc__law_places : FnScope ["ground", "text", "some", "place", "window"] ["ground", "text"] (defScope s__law_places) := ⟨rfl, rfl, rfl, by decide +kernel, rfl, by decide +kernel, by decide +kernel⟩
abbrev s__law_all_cuts : Stmt := topS 49
theorem sc__law_all_cuts : FnScope ["ground", "order", "text", "places", "found", "ranks", "rank", "place", "at", "window", "late"] ["ground", "order", "text"] (defScope s__law_all_cuts) := ⟨rfl, rfl, rfl, by decide +kernel, rfl, by decide +kernel, by decide +kernel⟩
abbrev s__law_text : Stmt := topS 50
theorem sc__law_text : FnScope ["dice", "ground", "most", "signs", "found", "size", "way", "word", "spin"] ["dice", "ground", "most"] (defScope s__law_text) := ⟨rfl, rfl, rfl, by decide +kernel, rfl, by decide +kernel, by decide +kernel⟩
abbrev s__law_made : Stmt := topS 51
theorem sc__law_made : FnScope ["ground"] ["ground"] (defScope s__law_made) := ⟨rfl, rfl, rfl, by decide +kernel, rfl, by decide +kernel, by decide +kernel⟩
abbrev s__law_other_sign : Stmt := topS 52
theorem sc__law_other_sign : FnScope ["ground", "sign"] ["ground"] (defScope s__law_other_sign) := ⟨rfl, rfl, rfl, by decide +kernel, rfl, by decide +kernel, by decide +kernel⟩
abbrev s__law_drawn_word : Stmt := topS 53
theorem sc__law_drawn_word : FnScope ["dice", "ground", "size", "spin"] ["dice", "ground", "size"] (defScope s__law_drawn_word) := ⟨rfl, rfl, rfl, by decide +kernel, rfl, by decide +kernel, by decide +kernel⟩
abbrev s__law_near_at : Stmt := topS 54
theorem sc__law_near_at : FnScope ["one", "other", "gap", "space"] ["one", "other", "gap"] (defScope s__law_near_at) := ⟨rfl, rfl, rfl, by decide +kernel, rfl, by decide +kernel, by decide +kernel⟩
abbrev s__law_seen : Stmt := topS 55
theorem sc__law_seen : FnScope ["ground", "text", "width", "at", "place", "pad", "first"] ["ground", "text", "width", "at", "place"] (defScope s__law_seen) := ⟨rfl, rfl, rfl, by decide +kernel, rfl, by decide +kernel, by decide +kernel⟩
abbrev s__law_marked : Stmt := topS 56
theorem sc__law_marked : FnScope ["ground", "rule", "text", "first", "last", "width", "place"] ["ground", "rule", "text", "first", "last"] (defScope s__law_marked) := ⟨rfl, rfl, rfl, by decide +kernel, rfl, by decide +kernel, by decide +kernel⟩
abbrev s__law_is_apart : Stmt := topS 57
theorem sc__law_is_apart : FnScope ["words", "gap", "one", "other"] ["words", "gap"] (defScope s__law_is_apart) := ⟨rfl, rfl, rfl, by decide +kernel, rfl, by decide +kernel, by decide +kernel⟩
abbrev s__law_drawn_rule : Stmt := topS 58
theorem sc__law_drawn_rule : FnScope ["dice", "ground", "most", "width", "words", "kept", "word", "spin"] ["dice", "ground", "most"] (defScope s__law_drawn_rule) := ⟨rfl, rfl, rfl, by decide +kernel, rfl, by decide +kernel, by decide +kernel⟩
abbrev s__law_misses : Stmt := topS 59
theorem sc__law_misses : FnScope ["ground", "rule", "value", "text", "place", "sign"] ["ground", "rule", "value"] (defScope s__law_misses) := ⟨rfl, rfl, rfl, by decide +kernel, rfl, by decide +kernel, by decide +kernel⟩
abbrev s__law_misses_some : Stmt := topS 60
theorem sc__law_misses_some : FnScope ["ground", "rule", "width", "span", "text", "at"] ["ground", "rule"] (defScope s__law_misses_some) := ⟨rfl, rfl, rfl, by decide +kernel, rfl, by decide +kernel, by decide +kernel⟩
abbrev s__law_near_rule : Stmt := topS 61
theorem sc__law_near_rule : FnScope ["dice", "ground", "one", "other", "order", "words", "way", "at", "late", "word", "sign"] ["dice", "ground"] (defScope s__law_near_rule) := ⟨rfl, rfl, rfl, by decide +kernel, rfl, by decide +kernel, by decide +kernel⟩
abbrev s__law_rule_right : Stmt := topS 62
theorem sc__law_rule_right : FnScope ["dice", "made", "ground", "rule", "misses", "told"] ["dice", "made", "ground", "rule"] (defScope s__law_rule_right) := ⟨rfl, rfl, rfl, by decide +kernel, rfl, by decide +kernel, by decide +kernel⟩
abbrev s__law_judged_right : Stmt := topS 63
theorem sc__law_judged_right : FnScope ["dice", "made", "ground", "rule", "text", "far", "things", "late", "place", "thing"] ["dice", "made", "ground", "rule"] (defScope s__law_judged_right) := ⟨rfl, rfl, rfl, by decide +kernel, rfl, by decide +kernel, by decide +kernel⟩
abbrev s_law : Stmt := topS 64
theorem sc_law : FnScope ["script", "dice", "signs", "gap", "ground", "made", "rule", "rules", "words", "drawn", "late", "kept"] ["script"] (defScope s_law) := ⟨rfl, rfl, rfl, by decide +kernel, rfl, by decide +kernel, by decide +kernel⟩
abbrev s_init : Stmt := inClass (topS 17) 0
theorem sc_init : FnScope ["self", "signs", "gap"] ["self", "signs", "gap"] (defScope s_init) := ⟨rfl, rfl, rfl, by decide +kernel, rfl, by decide +kernel, by decide +kernel⟩
structure Top (K : PySem.W.Frag) (mg : Str → Option Value) where
  a_is_whole_words : Addr
  d_is_whole_words : FuncData
  m_is_whole_words : mg "is_whole_words" = some (.ref a_is_whole_words)
  f_is_whole_words : Fun K "is_whole" "is_whole" s_is_whole_words a_is_whole_words d_is_whole_words
  a_is_count : Addr
  d_is_count : FuncData
  m_is_count : mg "is_count" = some (.ref a_is_count)
  f_is_count : FunD K "is_count" "is_count" (defArgs s_is_count) (defBody s_is_count) (defScope s_is_count) [V.non] [] a_is_count d_is_count
  a_is_text : Addr
  d_is_text : FuncData
  m_is_text : mg "is_text" = some (.ref a_is_text)
  f_is_text : Fun K "is_text" "is_text" s_is_text a_is_text d_is_text
  a_is_word : Addr
  d_is_word : FuncData
  m_is_word : mg "is_word" = some (.ref a_is_word)
  f_is_word : Fun K "is_word" "is_word" s_is_word a_is_word d_is_word
  a_is_rising : Addr
  d_is_rising : FuncData
  m_is_rising : mg "is_rising" = some (.ref a_is_rising)
  f_is_rising : Fun K "is_rising" "is_rising" s_is_rising a_is_rising d_is_rising
  a_has : Addr
  d_has : FuncData
  m_has : mg "has" = some (.ref a_has)
  f_has : Fun K "has" "has" s_has a_has d_has
  a_repeats : Addr
  d_repeats : FuncData
  m_repeats : mg "repeats" = some (.ref a_repeats)
  f_repeats : Fun K "repeats" "repeats" s_repeats a_repeats d_repeats
  a_check_ground : Addr
  d_check_ground : FuncData
  m_check_ground : mg "check_ground" = some (.ref a_check_ground)
  f_check_ground : Fun K "check_ground" "check_ground" s_check_ground a_check_ground d_check_ground
  a_is_text_of : Addr
  d_is_text_of : FuncData
  m_is_text_of : mg "is_text_of" = some (.ref a_is_text_of)
  f_is_text_of : Fun K "is_text_of" "is_text_of" s_is_text_of a_is_text_of d_is_text_of
  a_sign_at : Addr
  d_sign_at : FuncData
  m_sign_at : mg "sign_at" = some (.ref a_sign_at)
  f_sign_at : Fun K "sign_at" "sign_at" s_sign_at a_sign_at d_sign_at
  a_window_in : Addr
  d_window_in : FuncData
  m_window_in : mg "window_in" = some (.ref a_window_in)
  f_window_in : Fun K "window_in" "window_in" s_window_in a_window_in d_window_in
  a_is_word_of : Addr
  d_is_word_of : FuncData
  m_is_word_of : mg "is_word_of" = some (.ref a_is_word_of)
  f_is_word_of : Fun K "is_word_of" "is_word_of" s_is_word_of a_is_word_of d_is_word_of
  a_is_rule_in : Addr
  d_is_rule_in : FuncData
  m_is_rule_in : mg "is_rule_in" = some (.ref a_is_rule_in)
  f_is_rule_in : Fun K "is_rule_in" "is_rule_in" s_is_rule_in a_is_rule_in d_is_rule_in
  a_check_rule : Addr
  d_check_rule : FuncData
  m_check_rule : mg "check_rule" = some (.ref a_check_rule)
  f_check_rule : Fun K "check_rule" "check_rule" s_check_rule a_check_rule d_check_rule
  a_signs_between : Addr
  d_signs_between : FuncData
  m_signs_between : mg "signs_between" = some (.ref a_signs_between)
  f_signs_between : Fun K "signs_between" "signs_between" s_signs_between a_signs_between d_signs_between
  a_seen_at : Addr
  d_seen_at : FuncData
  m_seen_at : mg "seen_at" = some (.ref a_seen_at)
  f_seen_at : Fun K "seen_at" "seen_at" s_seen_at a_seen_at d_seen_at
  a_marked_in : Addr
  d_marked_in : FuncData
  m_marked_in : mg "marked_in" = some (.ref a_marked_in)
  f_marked_in : Fun K "marked_in" "marked_in" s_marked_in a_marked_in d_marked_in
  a_near_words : Addr
  d_near_words : FuncData
  m_near_words : mg "near_words" = some (.ref a_near_words)
  f_near_words : Fun K "near_words" "near_words" s_near_words a_near_words d_near_words
  a_missed_in : Addr
  d_missed_in : FuncData
  m_missed_in : mg "missed_in" = some (.ref a_missed_in)
  f_missed_in : Fun K "missed_in" "missed_in" s_missed_in a_missed_in d_missed_in
  a_missed : Addr
  d_missed : FuncData
  m_missed : mg "missed" = some (.ref a_missed)
  f_missed : Fun K "missed" "missed" s_missed a_missed d_missed
  a_is_missed : Addr
  d_is_missed : FuncData
  m_is_missed : mg "is_missed" = some (.ref a_is_missed)
  f_is_missed : Fun K "is_missed" "is_missed" s_is_missed a_is_missed d_is_missed
  a_is_whole_rules : Addr
  d_is_whole_rules : FuncData
  m_is_whole_rules : mg "is_whole_rules" = some (.ref a_is_whole_rules)
  f_is_whole_rules : Fun K "is_whole" "is_whole" s_is_whole_rules a_is_whole_rules d_is_whole_rules
  a__law_dice : Addr
  d__law_dice : FuncData
  m__law_dice : mg "_law_dice" = some (.ref a__law_dice)
  f__law_dice : Fun K "_law_dice" "_law_dice" s__law_dice a__law_dice d__law_dice
  a__law_mixed : Addr
  d__law_mixed : FuncData
  m__law_mixed : mg "_law_mixed" = some (.ref a__law_mixed)
  f__law_mixed : Fun K "_law_mixed" "_law_mixed" s__law_mixed a__law_mixed d__law_mixed
  a__law_draw : Addr
  d__law_draw : FuncData
  m__law_draw : mg "_law_draw" = some (.ref a__law_draw)
  f__law_draw : Fun K "_law_draw" "_law_draw" s__law_draw a__law_draw d__law_draw
  a__law_one_of : Addr
  d__law_one_of : FuncData
  m__law_one_of : mg "_law_one_of" = some (.ref a__law_one_of)
  f__law_one_of : Fun K "_law_one_of" "_law_one_of" s__law_one_of a__law_one_of d__law_one_of
  a__law_exact : Addr
  d__law_exact : FuncData
  m__law_exact : mg "_law_exact" = some (.ref a__law_exact)
  f__law_exact : Fun K "_law_exact" "_law_exact" s__law_exact a__law_exact d__law_exact
  a__law_dices : Addr
  d__law_dices : FuncData
  m__law_dices : mg "_law_dices" = some (.ref a__law_dices)
  f__law_dices : Fun K "_law_dices" "_law_dices" s__law_dices a__law_dices d__law_dices
  a__law_letters : Addr
  d__law_letters : FuncData
  m__law_letters : mg "_law_letters" = some (.ref a__law_letters)
  f__law_letters : Fun K "_law_letters" "_law_letters" s__law_letters a__law_letters d__law_letters
  a__law_repeats : Addr
  d__law_repeats : FuncData
  m__law_repeats : mg "_law_repeats" = some (.ref a__law_repeats)
  f__law_repeats : Fun K "_law_repeats" "_law_repeats" s__law_repeats a__law_repeats d__law_repeats
  a__law_words_of : Addr
  d__law_words_of : FuncData
  m__law_words_of : mg "_law_words_of" = some (.ref a__law_words_of)
  f__law_words_of : Fun K "_law_words_of" "_law_words_of" s__law_words_of a__law_words_of d__law_words_of
  a__law_window : Addr
  d__law_window : FuncData
  m__law_window : mg "_law_window" = some (.ref a__law_window)
  f__law_window : Fun K "_law_window" "_law_window" s__law_window a__law_window d__law_window
  a__law_places : Addr
  d__law_places : FuncData
  m__law_places : mg "_law_places" = some (.ref a__law_places)
  f__law_places : Fun K "_law_places" "_law_places" s__law_places a__law_places d__law_places
  a__law_all_cuts : Addr
  d__law_all_cuts : FuncData
  m__law_all_cuts : mg "_law_all_cuts" = some (.ref a__law_all_cuts)
  f__law_all_cuts : Fun K "_law_all_cuts" "_law_all_cuts" s__law_all_cuts a__law_all_cuts d__law_all_cuts
  a__law_text : Addr
  d__law_text : FuncData
  m__law_text : mg "_law_text" = some (.ref a__law_text)
  f__law_text : Fun K "_law_text" "_law_text" s__law_text a__law_text d__law_text
  a__law_made : Addr
  d__law_made : FuncData
  m__law_made : mg "_law_made" = some (.ref a__law_made)
  f__law_made : Fun K "_law_made" "_law_made" s__law_made a__law_made d__law_made
  a__law_other_sign : Addr
  d__law_other_sign : FuncData
  m__law_other_sign : mg "_law_other_sign" = some (.ref a__law_other_sign)
  f__law_other_sign : Fun K "_law_other_sign" "_law_other_sign" s__law_other_sign a__law_other_sign d__law_other_sign
  a__law_drawn_word : Addr
  d__law_drawn_word : FuncData
  m__law_drawn_word : mg "_law_drawn_word" = some (.ref a__law_drawn_word)
  f__law_drawn_word : Fun K "_law_drawn_word" "_law_drawn_word" s__law_drawn_word a__law_drawn_word d__law_drawn_word
  a__law_near_at : Addr
  d__law_near_at : FuncData
  m__law_near_at : mg "_law_near_at" = some (.ref a__law_near_at)
  f__law_near_at : Fun K "_law_near_at" "_law_near_at" s__law_near_at a__law_near_at d__law_near_at
  a__law_seen : Addr
  d__law_seen : FuncData
  m__law_seen : mg "_law_seen" = some (.ref a__law_seen)
  f__law_seen : Fun K "_law_seen" "_law_seen" s__law_seen a__law_seen d__law_seen
  a__law_marked : Addr
  d__law_marked : FuncData
  m__law_marked : mg "_law_marked" = some (.ref a__law_marked)
  f__law_marked : Fun K "_law_marked" "_law_marked" s__law_marked a__law_marked d__law_marked
  a__law_is_apart : Addr
  d__law_is_apart : FuncData
  m__law_is_apart : mg "_law_is_apart" = some (.ref a__law_is_apart)
  f__law_is_apart : Fun K "_law_is_apart" "_law_is_apart" s__law_is_apart a__law_is_apart d__law_is_apart
  a__law_drawn_rule : Addr
  d__law_drawn_rule : FuncData
  m__law_drawn_rule : mg "_law_drawn_rule" = some (.ref a__law_drawn_rule)
  f__law_drawn_rule : Fun K "_law_drawn_rule" "_law_drawn_rule" s__law_drawn_rule a__law_drawn_rule d__law_drawn_rule
  a__law_misses : Addr
  d__law_misses : FuncData
  m__law_misses : mg "_law_misses" = some (.ref a__law_misses)
  f__law_misses : Fun K "_law_misses" "_law_misses" s__law_misses a__law_misses d__law_misses
  a__law_misses_some : Addr
  d__law_misses_some : FuncData
  m__law_misses_some : mg "_law_misses_some" = some (.ref a__law_misses_some)
  f__law_misses_some : Fun K "_law_misses_some" "_law_misses_some" s__law_misses_some a__law_misses_some d__law_misses_some
  a__law_near_rule : Addr
  d__law_near_rule : FuncData
  m__law_near_rule : mg "_law_near_rule" = some (.ref a__law_near_rule)
  f__law_near_rule : Fun K "_law_near_rule" "_law_near_rule" s__law_near_rule a__law_near_rule d__law_near_rule
  a__law_rule_right : Addr
  d__law_rule_right : FuncData
  m__law_rule_right : mg "_law_rule_right" = some (.ref a__law_rule_right)
  f__law_rule_right : Fun K "_law_rule_right" "_law_rule_right" s__law_rule_right a__law_rule_right d__law_rule_right
  a__law_judged_right : Addr
  d__law_judged_right : FuncData
  m__law_judged_right : mg "_law_judged_right" = some (.ref a__law_judged_right)
  f__law_judged_right : Fun K "_law_judged_right" "_law_judged_right" s__law_judged_right a__law_judged_right d__law_judged_right
  a_law : Addr
  d_law : FuncData
  m_law : mg "law" = some (.ref a_law)
  f_law : Fun K "law" "law" s_law a_law d_law
  g_abs : mg "abs" = none
  g_all : mg "all" = none
  g_any : mg "any" = none
  g_bool : mg "bool" = none
  g_dict : mg "dict" = none
  g_enumerate : mg "enumerate" = none
  g_int : mg "int" = none
  g_isinstance : mg "isinstance" = none
  g_len : mg "len" = none
  g_list : mg "list" = none
  g_max : mg "max" = none
  g_min : mg "min" = none
  g_range : mg "range" = none
  g_sorted : mg "sorted" = none
  g_str : mg "str" = none
  g_sum : mg "sum" = none
  g_tuple : mg "tuple" = none
  g_zip : mg "zip" = none
  C_Ground : Addr
  m_Ground : mg "Ground" = some (.ref C_Ground)
  F_Ground : GndF K C_Ground
  a_init : Addr
  d_init : FuncData
  f_init : Fun K "__init__" "Ground.__init__" s_init a_init d_init
  mk_Ground : Mk K C_Ground a_init
  bind_law : ∀ (s : Shared) (v : Value), BindsTo s d_law ⟨[v], []⟩ [("script", v)]
section
variable {κ : Kit} {P : Program} {w : World} {K : PySem.W.Frag} {mg : Str → Option Value} {base : Heap}
theorem b_is_whole_words (T : Top K mg) : Binds K T.d_is_whole_words ["value"] [] := T.f_is_whole_words.binds fun _ _ _ _ _ _ us hl => match us, hl with | [_], _ => rfl
theorem b_is_count_0 (T : Top K mg) : ∃ ds, Vals [] ds ∧ Binds K T.d_is_count ["value", "most"] ds := T.f_is_count.binds1 (ps := ["value", "most"]) 2 1 (by simp) rfl fun T kV doc pm an cdv ct us its hl hi => match us, its, hl, hi with | [_, _], [_], _, _ => ⟨_, rfl, rfl⟩
theorem b_is_count_1 (T : Top K mg) : ∃ ds, Vals [V.non] ds ∧ Binds K T.d_is_count ["value", "most"] ds := T.f_is_count.binds1 (ps := ["value", "most"]) 1 0 (by simp) rfl fun T kV doc pm an cdv ct us its hl hi => match us, its, hl, hi with | [_], [_], _, _ => ⟨_, rfl, rfl⟩
theorem b_is_text (T : Top K mg) : Binds K T.d_is_text ["value"] [] := T.f_is_text.binds fun _ _ _ _ _ _ us hl => match us, hl with | [_], _ => rfl
theorem b_is_word (T : Top K mg) : Binds K T.d_is_word ["value"] [] := T.f_is_word.binds fun _ _ _ _ _ _ us hl => match us, hl with | [_], _ => rfl
theorem b_is_rising (T : Top K mg) : Binds K T.d_is_rising ["things"] [] := T.f_is_rising.binds fun _ _ _ _ _ _ us hl => match us, hl with | [_], _ => rfl
theorem b_has (T : Top K mg) : Binds K T.d_has ["text", "period"] [] := T.f_has.binds fun _ _ _ _ _ _ us hl => match us, hl with | [_, _], _ => rfl
theorem b_repeats (T : Top K mg) : Binds K T.d_repeats ["word", "gap"] [] := T.f_repeats.binds fun _ _ _ _ _ _ us hl => match us, hl with | [_, _], _ => rfl
theorem b_check_ground (T : Top K mg) : Binds K T.d_check_ground ["value"] [] := T.f_check_ground.binds fun _ _ _ _ _ _ us hl => match us, hl with | [_], _ => rfl
theorem b_is_text_of (T : Top K mg) : Binds K T.d_is_text_of ["ground", "value"] [] := T.f_is_text_of.binds fun _ _ _ _ _ _ us hl => match us, hl with | [_, _], _ => rfl
theorem b_sign_at (T : Top K mg) : Binds K T.d_sign_at ["ground", "text", "at"] [] := T.f_sign_at.binds fun _ _ _ _ _ _ us hl => match us, hl with | [_, _, _], _ => rfl
theorem b_window_in (T : Top K mg) : Binds K T.d_window_in ["ground", "text", "place"] [] := T.f_window_in.binds fun _ _ _ _ _ _ us hl => match us, hl with | [_, _, _], _ => rfl
theorem b_is_word_of (T : Top K mg) : Binds K T.d_is_word_of ["ground", "value"] [] := T.f_is_word_of.binds fun _ _ _ _ _ _ us hl => match us, hl with | [_, _], _ => rfl
theorem b_is_rule_in (T : Top K mg) : Binds K T.d_is_rule_in ["ground", "value"] [] := T.f_is_rule_in.binds fun _ _ _ _ _ _ us hl => match us, hl with | [_, _], _ => rfl
theorem b_check_rule (T : Top K mg) : Binds K T.d_check_rule ["ground", "rule"] [] := T.f_check_rule.binds fun _ _ _ _ _ _ us hl => match us, hl with | [_, _], _ => rfl
theorem b_signs_between (T : Top K mg) : Binds K T.d_signs_between ["ground", "text", "first", "behind"] [] := T.f_signs_between.binds fun _ _ _ _ _ _ us hl => match us, hl with | [_, _, _, _], _ => rfl
theorem b_seen_at (T : Top K mg) : Binds K T.d_seen_at ["ground", "text", "width", "at", "place"] [] := T.f_seen_at.binds fun _ _ _ _ _ _ us hl => match us, hl with | [_, _, _, _, _], _ => rfl
theorem b_marked_in (T : Top K mg) : Binds K T.d_marked_in ["ground", "rule", "text", "first", "last"] [] := T.f_marked_in.binds fun _ _ _ _ _ _ us hl => match us, hl with | [_, _, _, _, _], _ => rfl
theorem b_near_words (T : Top K mg) : Binds K T.d_near_words ["gap", "words"] [] := T.f_near_words.binds fun _ _ _ _ _ _ us hl => match us, hl with | [_, _], _ => rfl
theorem b_missed_in (T : Top K mg) : Binds K T.d_missed_in ["ground", "words", "at"] [] := T.f_missed_in.binds fun _ _ _ _ _ _ us hl => match us, hl with | [_, _, _], _ => rfl
theorem b_missed (T : Top K mg) : Binds K T.d_missed ["ground", "rule"] [] := T.f_missed.binds fun _ _ _ _ _ _ us hl => match us, hl with | [_, _], _ => rfl
theorem b_is_missed (T : Top K mg) : Binds K T.d_is_missed ["ground", "rule", "value"] [] := T.f_is_missed.binds fun _ _ _ _ _ _ us hl => match us, hl with | [_, _, _], _ => rfl
theorem b_is_whole_rules (T : Top K mg) : Binds K T.d_is_whole_rules ["ground", "rule"] [] := T.f_is_whole_rules.binds fun _ _ _ _ _ _ us hl => match us, hl with | [_, _], _ => rfl
theorem b__law_dice (T : Top K mg) : Binds K T.d__law_dice ["script", "at"] [] := T.f__law_dice.binds fun _ _ _ _ _ _ us hl => match us, hl with | [_, _], _ => rfl
theorem b__law_mixed (T : Top K mg) : Binds K T.d__law_mixed ["seed", "spin", "at"] [] := T.f__law_mixed.binds fun _ _ _ _ _ _ us hl => match us, hl with | [_, _, _], _ => rfl
theorem b__law_draw (T : Top K mg) : Binds K T.d__law_draw ["dice", "many"] [] := T.f__law_draw.binds fun _ _ _ _ _ _ us hl => match us, hl with | [_, _], _ => rfl
theorem b__law_one_of (T : Top K mg) : Binds K T.d__law_one_of ["dice", "some"] [] := T.f__law_one_of.binds fun _ _ _ _ _ _ us hl => match us, hl with | [_, _], _ => rfl
theorem b__law_exact (T : Top K mg) : Binds K T.d__law_exact ["mine", "theirs"] [] := T.f__law_exact.binds fun _ _ _ _ _ _ us hl => match us, hl with | [_, _], _ => rfl
theorem b__law_dices (T : Top K mg) : Binds K T.d__law_dices ["script", "few"] [] := T.f__law_dices.binds fun _ _ _ _ _ _ us hl => match us, hl with | [_, _], _ => rfl
theorem b__law_letters (T : Top K mg) : Binds K T.d__law_letters ["dice", "many"] [] := T.f__law_letters.binds fun _ _ _ _ _ _ us hl => match us, hl with | [_, _], _ => rfl
theorem b__law_repeats (T : Top K mg) : Binds K T.d__law_repeats ["word", "gap"] [] := T.f__law_repeats.binds fun _ _ _ _ _ _ us hl => match us, hl with | [_, _], _ => rfl
theorem b__law_words_of (T : Top K mg) : Binds K T.d__law_words_of ["signs", "size"] [] := T.f__law_words_of.binds fun _ _ _ _ _ _ us hl => match us, hl with | [_, _], _ => rfl
theorem b__law_window (T : Top K mg) : Binds K T.d__law_window ["ground", "text", "place"] [] := T.f__law_window.binds fun _ _ _ _ _ _ us hl => match us, hl with | [_, _, _], _ => rfl
theorem b__law_places (T : Top K mg) : Binds K T.d__law_places ["ground", "text"] [] := T.f__law_places.binds fun _ _ _ _ _ _ us hl => match us, hl with | [_, _], _ => rfl
theorem b__law_all_cuts (T : Top K mg) : Binds K T.d__law_all_cuts ["ground", "order", "text"] [] := T.f__law_all_cuts.binds fun _ _ _ _ _ _ us hl => match us, hl with | [_, _, _], _ => rfl
theorem b__law_text (T : Top K mg) : Binds K T.d__law_text ["dice", "ground", "most"] [] := T.f__law_text.binds fun _ _ _ _ _ _ us hl => match us, hl with | [_, _, _], _ => rfl
theorem b__law_made (T : Top K mg) : Binds K T.d__law_made ["ground"] [] := T.f__law_made.binds fun _ _ _ _ _ _ us hl => match us, hl with | [_], _ => rfl
theorem b__law_other_sign (T : Top K mg) : Binds K T.d__law_other_sign ["ground"] [] := T.f__law_other_sign.binds fun _ _ _ _ _ _ us hl => match us, hl with | [_], _ => rfl
theorem b__law_drawn_word (T : Top K mg) : Binds K T.d__law_drawn_word ["dice", "ground", "size"] [] := T.f__law_drawn_word.binds fun _ _ _ _ _ _ us hl => match us, hl with | [_, _, _], _ => rfl
theorem b__law_near_at (T : Top K mg) : Binds K T.d__law_near_at ["one", "other", "gap"] [] := T.f__law_near_at.binds fun _ _ _ _ _ _ us hl => match us, hl with | [_, _, _], _ => rfl
theorem b__law_seen (T : Top K mg) : Binds K T.d__law_seen ["ground", "text", "width", "at", "place"] [] := T.f__law_seen.binds fun _ _ _ _ _ _ us hl => match us, hl with | [_, _, _, _, _], _ => rfl
theorem b__law_marked (T : Top K mg) : Binds K T.d__law_marked ["ground", "rule", "text", "first", "last"] [] := T.f__law_marked.binds fun _ _ _ _ _ _ us hl => match us, hl with | [_, _, _, _, _], _ => rfl
theorem b__law_is_apart (T : Top K mg) : Binds K T.d__law_is_apart ["words", "gap"] [] := T.f__law_is_apart.binds fun _ _ _ _ _ _ us hl => match us, hl with | [_, _], _ => rfl
theorem b__law_drawn_rule (T : Top K mg) : Binds K T.d__law_drawn_rule ["dice", "ground", "most"] [] := T.f__law_drawn_rule.binds fun _ _ _ _ _ _ us hl => match us, hl with | [_, _, _], _ => rfl
theorem b__law_misses (T : Top K mg) : Binds K T.d__law_misses ["ground", "rule", "value"] [] := T.f__law_misses.binds fun _ _ _ _ _ _ us hl => match us, hl with | [_, _, _], _ => rfl
theorem b__law_misses_some (T : Top K mg) : Binds K T.d__law_misses_some ["ground", "rule"] [] := T.f__law_misses_some.binds fun _ _ _ _ _ _ us hl => match us, hl with | [_, _], _ => rfl
theorem b__law_near_rule (T : Top K mg) : Binds K T.d__law_near_rule ["dice", "ground"] [] := T.f__law_near_rule.binds fun _ _ _ _ _ _ us hl => match us, hl with | [_, _], _ => rfl
theorem b__law_rule_right (T : Top K mg) : Binds K T.d__law_rule_right ["dice", "made", "ground", "rule"] [] := T.f__law_rule_right.binds fun _ _ _ _ _ _ us hl => match us, hl with | [_, _, _, _], _ => rfl
theorem b__law_judged_right (T : Top K mg) : Binds K T.d__law_judged_right ["dice", "made", "ground", "rule"] [] := T.f__law_judged_right.binds fun _ _ _ _ _ _ us hl => match us, hl with | [_, _, _, _], _ => rfl
theorem b_law (T : Top K mg) : Binds K T.d_law ["script"] [] := T.f_law.binds fun _ _ _ _ _ _ us hl => match us, hl with | [_], _ => rfl
theorem ok_is_whole_words (T : Top K mg) {F : FC} (hF : ∀ ds n Q, F ds n Q → ds.length = 1 → rd_is_whole_words { nx := fun _ m => Q (.val .non) m, rt := fun _ => Q } (startE 0 ds) n) (hk : κ.K = K) : FnOk P w K mg base CX0 (0 + 1) T.a_is_whole_words T.d_is_whole_words ["value"] (spD κ 1 F) := by
  subst hk
  refine fn_dl T.f_is_whole_words sc_is_whole_words (fun cdv A outer s H E hr => ?_) hF
  exact (ds_one (d1_ret (de_and (e_isi .int T.g_isinstance T.g_int (v 0)) (de_one (de_not (e_isi .bool T.g_isinstance T.g_bool (v 0)))))))
theorem cal_is_whole_words {k : Nat} {F : FC} (T : Top K mg) (h : FnOk P w K mg base CX0 k T.a_is_whole_words T.d_is_whole_words ["value"] (spD κ 1 F)) : Cal κ P w K mg base "is_whole_words" k 1 F [] := ⟨_, _, _, [], [], h, T.m_is_whole_words, T.f_is_whole_words.kp, b_is_whole_words T, .nil, fun _ _ => .nil⟩
theorem ok_is_count (T : Top K mg) {F_is_whole_words : FC} (c_is_whole_words : Cal κ P w K mg base "is_whole_words" 1 1 F_is_whole_words []) {F : FC} (hF : ∀ ds n Q, F ds n Q → ds.length = 2 → rd_is_count F_is_whole_words { nx := fun _ m => Q (.val .non) m, rt := fun _ => Q } (startE 0 ds) n) (hk : κ.K = K) : FnOk P w K mg base CX0 (1 + 1) T.a_is_count T.d_is_count ["value", "most"] (spD κ 2 F) := by
  subst hk
  refine fn_dlD T.f_is_count sc_is_count (fun cdv A outer s H E hr => ?_) hF
  exact (ds_one (d1_ret (de_and (DX.de (dx_call c_is_whole_words hr (da_cons (v 0) da_nil))) (de_and (e_ge (v 0) de_int) (de_one (de_or (e_isN (v 1) de_non) (de_one (e_le (v 0) (v 1)))))))))
theorem cal_is_count_0 {k : Nat} {F : FC} (T : Top K mg) (h : FnOk P w K mg base CX0 k T.a_is_count T.d_is_count ["value", "most"] (spD κ 2 F)) : Cal κ P w K mg base "is_count" k 2 F [] := by
  obtain ⟨ds, h1, h2⟩ := b_is_count_0 T
  exact ⟨_, _, _, [], ds, h, T.m_is_count, T.f_is_count.kp, h2, h1, fun _ _ => .nil⟩
theorem cal_is_count_1 {k : Nat} {F : FC} (T : Top K mg) (h : FnOk P w K mg base CX0 k T.a_is_count T.d_is_count ["value", "most"] (spD κ 2 F)) : Cal κ P w K mg base "is_count" k 2 F [.non] := by
  obtain ⟨ds, h1, h2⟩ := b_is_count_1 T
  exact ⟨_, _, _, [V.non], ds, h, T.m_is_count, T.f_is_count.kp, h2, h1, fun _ _ => .cons .non (.nil)⟩
theorem ok_is_text (T : Top K mg) {F : FC} (hF : ∀ ds n Q, F ds n Q → ds.length = 1 → rd_is_text { nx := fun _ m => Q (.val .non) m, rt := fun _ => Q } (startE 1 ds) n) (hk : κ.K = K) : FnOk P w K mg base CX0 (0 + 1) T.a_is_text T.d_is_text ["value"] (spD κ 1 F) := by
  subst hk
  refine fn_dl T.f_is_text sc_is_text (fun cdv A outer s H E hr => ?_) hF
  exact (ds_one (d1_ret (de_and (e_isi .str T.g_isinstance T.g_str (v 0)) (de_one (e_all T.g_all (DO.fr (o_comp [("sign", 1)] sc_is_text.nd (i_name 0) (fun _ _ _ _ _ => (G_n 1 sc_is_text.nd)) (fun _ _ _ _ _ => dts_nil) (fun _ _ _ _ _ => (e_chain cr_le cr_le (c_str [97]) (v 1) (c_str [122]))))))))))
theorem cal_is_text {k : Nat} {F : FC} (T : Top K mg) (h : FnOk P w K mg base CX0 k T.a_is_text T.d_is_text ["value"] (spD κ 1 F)) : Cal κ P w K mg base "is_text" k 1 F [] := ⟨_, _, _, [], [], h, T.m_is_text, T.f_is_text.kp, b_is_text T, .nil, fun _ _ => .nil⟩
theorem ok_is_word (T : Top K mg) {F_is_text : FC} (c_is_text : Cal κ P w K mg base "is_text" 1 1 F_is_text []) {F : FC} (hF : ∀ ds n Q, F ds n Q → ds.length = 1 → rd_is_word F_is_text { nx := fun _ m => Q (.val .non) m, rt := fun _ => Q } (startE 0 ds) n) (hk : κ.K = K) : FnOk P w K mg base CX0 (1 + 1) T.a_is_word T.d_is_word ["value"] (spD κ 1 F) := by
  subst hk
  refine fn_dl T.f_is_word sc_is_word (fun cdv A outer s H E hr => ?_) hF
  exact (ds_one (d1_ret (de_and (DX.de (dx_call c_is_text hr (da_cons (v 0) da_nil))) (de_one (e_ne hr (v 0) (c_str []))))))
theorem cal_is_word {k : Nat} {F : FC} (T : Top K mg) (h : FnOk P w K mg base CX0 k T.a_is_word T.d_is_word ["value"] (spD κ 1 F)) : Cal κ P w K mg base "is_word" k 1 F [] := ⟨_, _, _, [], [], h, T.m_is_word, T.f_is_word.kp, b_is_word T, .nil, fun _ _ => .nil⟩
theorem ok_is_rising (T : Top K mg) {F : FC} (hF : ∀ ds n Q, F ds n Q → ds.length = 1 → rd_is_rising { nx := fun _ m => Q (.val .non) m, rt := fun _ => Q } (startE 1 ds) n) (hk : κ.K = K) : FnOk P w K mg base CX0 (0 + 1) T.a_is_rising T.d_is_rising ["things"] (spD κ 1 F) := by
  subst hk
  refine fn_dl T.f_is_rising sc_is_rising (fun cdv A outer s H E hr => ?_) hF
  exact (ds_one (d1_ret (e_all T.g_all (DO.fr (o_comp [("at", 1)] sc_is_rising.nd (i_r2 T.g_range de_int (e_len T.g_len (v 0))) (fun _ _ _ _ _ => (G_n 1 sc_is_rising.nd)) (fun _ _ _ _ _ => dts_nil) (fun _ _ _ _ _ => (e_lt (e_ix hr (v 0) (e_sub (v 1) de_int)) (e_ix hr (v 0) (v 1)))))))))
theorem cal_is_rising {k : Nat} {F : FC} (T : Top K mg) (h : FnOk P w K mg base CX0 k T.a_is_rising T.d_is_rising ["things"] (spD κ 1 F)) : Cal κ P w K mg base "is_rising" k 1 F [] := ⟨_, _, _, [], [], h, T.m_is_rising, T.f_is_rising.kp, b_is_rising T, .nil, fun _ _ => .nil⟩
theorem ok_has (T : Top K mg) {F : FC} (hF : ∀ ds n Q, F ds n Q → ds.length = 2 → rd_has { nx := fun _ m => Q (.val .non) m, rt := fun _ => Q } (startE 0 ds) n) (hk : κ.K = K) : FnOk P w K mg base CX0 (0 + 1) T.a_has T.d_has ["text", "period"] (spD κ 2 F) := by
  subst hk
  refine fn_dl T.f_has sc_has (fun cdv A outer s H E hr => ?_) hF
  exact (ds_one (d1_ret (de_and (e_lt (v 1) (e_len T.g_len (v 0))) (de_one (e_eq hr (e_sl (v 0) (dp_some (v 1)) dp_none) (e_sl (v 0) dp_none (dp_some (e_sub (e_len T.g_len (v 0)) (v 1)))))))))
theorem cal_has {k : Nat} {F : FC} (T : Top K mg) (h : FnOk P w K mg base CX0 k T.a_has T.d_has ["text", "period"] (spD κ 2 F)) : Cal κ P w K mg base "has" k 2 F [] := ⟨_, _, _, [], [], h, T.m_has, T.f_has.kp, b_has T, .nil, fun _ _ => .nil⟩
theorem ok_repeats (T : Top K mg) {F_has : FC} (c_has : Cal κ P w K mg base "has" 1 2 F_has []) {F : FC} (hF : ∀ ds n Q, F ds n Q → ds.length = 2 → rd_repeats F_has { nx := fun _ m => Q (.val .non) m, rt := fun _ => Q } (startE 1 ds) n) (hk : κ.K = K) : FnOk P w K mg base CX0 (1 + 1) T.a_repeats T.d_repeats ["word", "gap"] (spD κ 2 F) := by
  subst hk
  refine fn_dl T.f_repeats sc_repeats (fun cdv A outer s H E hr => ?_) hF
  exact (ds_one (d1_ret (e_any T.g_any (DO.fr (o_comp [("period", 2)] sc_repeats.nd (i_r2 T.g_range de_int (e_min T.g_min (da_cons (v 1) (da_cons (e_len T.g_len (v 0)) da_nil)))) (fun _ _ _ _ _ => (G_n 2 sc_repeats.nd)) (fun _ _ _ _ _ => dts_nil) (fun _ _ _ _ _ => (DX.de (dx_call c_has hr (da_cons (v 0) (da_cons (v 2) da_nil))))))))))
theorem cal_repeats {k : Nat} {F : FC} (T : Top K mg) (h : FnOk P w K mg base CX0 k T.a_repeats T.d_repeats ["word", "gap"] (spD κ 2 F)) : Cal κ P w K mg base "repeats" k 2 F [] := ⟨_, _, _, [], [], h, T.m_repeats, T.f_repeats.kp, b_repeats T, .nil, fun _ _ => .nil⟩
theorem ok_check_ground (T : Top K mg) {cv : CV} (hG : HasGnd κ T.C_Ground cv) {F : FC} (hF : ∀ ds n Q, F ds n Q → ds.length = 1 → rd_check_ground { nx := fun _ m => Q (.val .non) m, rt := fun _ => Q } (startE 0 ds) n) (hk : κ.K = K) : FnOk P w K mg base CX0 (0 + 1) T.a_check_ground T.d_check_ground ["value"] (spD κ 1 F) := by
  subst hk
  refine fn_dl T.f_check_ground sc_check_ground (fun cdv A outer s H E hr => ?_) hF
  exact (ds_one (d1_if (dt_not (dt_val (e_isG hG T.F_Ground T.g_isinstance T.m_Ground (v 0)))) (ds_one d1_never) ds_nil))
theorem cal_check_ground {k : Nat} {F : FC} (T : Top K mg) (h : FnOk P w K mg base CX0 k T.a_check_ground T.d_check_ground ["value"] (spD κ 1 F)) : Cal κ P w K mg base "check_ground" k 1 F [] := ⟨_, _, _, [], [], h, T.m_check_ground, T.f_check_ground.kp, b_check_ground T, .nil, fun _ _ => .nil⟩
theorem ok_is_text_of (T : Top K mg) {cv : CV} (hG : HasGnd κ T.C_Ground cv) {F : FC} (hF : ∀ ds n Q, F ds n Q → ds.length = 2 → rd_is_text_of { nx := fun _ m => Q (.val .non) m, rt := fun _ => Q } (startE 1 ds) n) (hk : κ.K = K) : FnOk P w K mg base CX0 (0 + 1) T.a_is_text_of T.d_is_text_of ["ground", "value"] (spD κ 2 F) := by
  subst hk
  refine fn_dl T.f_is_text_of sc_is_text_of (fun cdv A outer s H E hr => ?_) hF
  exact (ds_one (d1_ret (de_and (e_isi .str T.g_isinstance T.g_str (v 1)) (de_one (e_all T.g_all (DO.fr (o_comp [("sign", 2)] sc_is_text_of.nd (i_name 1) (fun _ _ _ _ _ => (G_n 2 sc_is_text_of.nd)) (fun _ _ _ _ _ => dts_nil) (fun _ _ _ _ _ => (e_in hr (v 2) (e_row hG T.F_Ground (v 0)))))))))))
theorem cal_is_text_of {k : Nat} {F : FC} (T : Top K mg) (h : FnOk P w K mg base CX0 k T.a_is_text_of T.d_is_text_of ["ground", "value"] (spD κ 2 F)) : Cal κ P w K mg base "is_text_of" k 2 F [] := ⟨_, _, _, [], [], h, T.m_is_text_of, T.f_is_text_of.kp, b_is_text_of T, .nil, fun _ _ => .nil⟩
theorem ok_sign_at (T : Top K mg) {cv : CV} (hG : HasGnd κ T.C_Ground cv) {F : FC} (hF : ∀ ds n Q, F ds n Q → ds.length = 3 → rd_sign_at { nx := fun _ m => Q (.val .non) m, rt := fun _ => Q } (startE 0 ds) n) (hk : κ.K = K) : FnOk P w K mg base CX0 (0 + 1) T.a_sign_at T.d_sign_at ["ground", "text", "at"] (spD κ 3 F) := by
  subst hk
  refine fn_dl T.f_sign_at sc_sign_at (fun cdv A outer s H E hr => ?_) hF
  exact (ds_one (d1_ret (de_if (t_chain cr_le cr_lt de_int (v 2) (e_len T.g_len (v 1))) (e_ix hr (v 1) (v 2)) (e_ix hr (e_row hG T.F_Ground (v 0)) de_int))))
theorem cal_sign_at {k : Nat} {F : FC} (T : Top K mg) (h : FnOk P w K mg base CX0 k T.a_sign_at T.d_sign_at ["ground", "text", "at"] (spD κ 3 F)) : Cal κ P w K mg base "sign_at" k 3 F [] := ⟨_, _, _, [], [], h, T.m_sign_at, T.f_sign_at.kp, b_sign_at T, .nil, fun _ _ => .nil⟩
theorem ok_window_in (T : Top K mg) {F_sign_at : FC} (c_sign_at : Cal κ P w K mg base "sign_at" 1 3 F_sign_at []) {cv : CV} (hG : HasGnd κ T.C_Ground cv) {F : FC} (hF : ∀ ds n Q, F ds n Q → ds.length = 3 → rd_window_in F_sign_at { nx := fun _ m => Q (.val .non) m, rt := fun _ => Q } (startE 2 ds) n) (hk : κ.K = K) : FnOk P w K mg base CX0 (1 + 1) T.a_window_in T.d_window_in ["ground", "text", "place"] (spD κ 3 F) := by
  subst hk
  refine fn_dl T.f_window_in sc_window_in (fun cdv A outer s H E hr => ?_) hF
  exact (ds_cons (S_asg 3 sc_window_in.nd (e_rngV hG.rg T.g_range (e_add (e_sub (v 2) (e_least hG T.F_Ground (v 0))) de_int) (e_sub (e_add (v 2) (e_least hG T.F_Ground (v 0))) de_int))) (ds_one (d1_ret (de_join (c_str []) (DO.fr (o_comp [("at", 4)] sc_window_in.nd (i_rngN hG.rg 3) (fun _ _ _ _ _ => (G_n 4 sc_window_in.nd)) (fun _ _ _ _ _ => dts_nil) (fun _ _ _ _ _ => (DX.de (dx_call c_sign_at hr (da_cons (v 0) (da_cons (v 1) (da_cons (v 4) da_nil))))))))))))
theorem cal_window_in {k : Nat} {F : FC} (T : Top K mg) (h : FnOk P w K mg base CX0 k T.a_window_in T.d_window_in ["ground", "text", "place"] (spD κ 3 F)) : Cal κ P w K mg base "window_in" k 3 F [] := ⟨_, _, _, [], [], h, T.m_window_in, T.f_window_in.kp, b_window_in T, .nil, fun _ _ => .nil⟩
theorem ok_is_word_of (T : Top K mg) {F_is_text_of : FC} {F_is_word : FC} (c_is_text_of : Cal κ P w K mg base "is_text_of" 1 2 F_is_text_of []) (c_is_word : Cal κ P w K mg base "is_word" 2 1 F_is_word []) {F : FC} (hF : ∀ ds n Q, F ds n Q → ds.length = 2 → rd_is_word_of F_is_text_of F_is_word { nx := fun _ m => Q (.val .non) m, rt := fun _ => Q } (startE 0 ds) n) (hk : κ.K = K) : FnOk P w K mg base CX0 (2 + 1) T.a_is_word_of T.d_is_word_of ["ground", "value"] (spD κ 2 F) := by
  subst hk
  refine fn_dl T.f_is_word_of sc_is_word_of (fun cdv A outer s H E hr => ?_) hF
  exact (ds_one (d1_ret (de_and (DX.de (dx_call c_is_word hr (da_cons (v 1) da_nil))) (de_one (DX.de (dx_call c_is_text_of hr (da_cons (v 0) (da_cons (v 1) da_nil))))))))
theorem cal_is_word_of {k : Nat} {F : FC} (T : Top K mg) (h : FnOk P w K mg base CX0 k T.a_is_word_of T.d_is_word_of ["ground", "value"] (spD κ 2 F)) : Cal κ P w K mg base "is_word_of" k 2 F [] := ⟨_, _, _, [], [], h, T.m_is_word_of, T.f_is_word_of.kp, b_is_word_of T, .nil, fun _ _ => .nil⟩
theorem ok_is_rule_in (T : Top K mg) {F_is_count : FC} {F_is_word_of : FC} (c_is_count_1 : Cal κ P w K mg base "is_count" 2 2 F_is_count [.non]) (c_is_word_of : Cal κ P w K mg base "is_word_of" 3 2 F_is_word_of []) {F : FC} (hF : ∀ ds n Q, F ds n Q → ds.length = 2 → rd_is_rule_in F_is_count F_is_word_of { nx := fun _ m => Q (.val .non) m, rt := fun _ => Q } (startE 5 ds) n) (hk : κ.K = K) : FnOk P w K mg base CX0 (3 + 1) T.a_is_rule_in T.d_is_rule_in ["ground", "value"] (spD κ 2 F) := by
  subst hk
  refine fn_dl T.f_is_rule_in sc_is_rule_in (fun cdv A outer s H E hr => ?_) hF
  exact (ds_cons (d1_if (DW.dt (dw_or (dt_not (dt_val (e_isi .tuple T.g_isinstance T.g_tuple (v 1)))) (dw_or (t_ne hr (e_len T.g_len (v 1)) de_int) (dw_or (dt_not (dt_val (e_isi .list T.g_isinstance T.g_list (e_ix hr (v 1) de_int)))) (dw_or1 (t_eq hr (e_ix hr (v 1) de_int) (DO.fr (do_lst da_nil)))))))) (ds_one (d1_ret de_bl)) ds_nil) (ds_cons (d1_unp (v 1) (N_t (sds_cons (N_n 2 sc_is_rule_in.nd) (sds_cons (N_n 3 sc_is_rule_in.nd) sds_nil)))) (ds_cons (d1_if (dt_not (dt_val (e_all T.g_all (DO.fr (o_comp [("word", 4)] sc_is_rule_in.nd (i_name 2) (fun _ _ _ _ _ => (G_n 4 sc_is_rule_in.nd)) (fun _ _ _ _ _ => dts_nil) (fun _ _ _ _ _ => (DX.de (dx_call c_is_word_of hr (da_cons (v 0) (da_cons (v 4) da_nil)))))))))) (ds_one (d1_ret de_bl)) ds_nil) (ds_cons (d1_if (dt_not (dt_val (e_all T.g_all (DO.fr (o_comp [("one", 5), ("other", 6)] sc_is_rule_in.nd (i_zip T.g_zip (v 2) (e_sl (v 2) (dp_some de_int) dp_none)) (fun _ _ _ _ _ => (G_t (dgs_cons (G_n 5 sc_is_rule_in.nd) (dgs_cons (G_n 6 sc_is_rule_in.nd) dgs_nil)))) (fun _ _ _ _ _ => dts_nil) (fun _ _ _ _ _ => (de_and (e_lt (v 5) (v 6)) (de_one (e_eq hr (e_len T.g_len (v 5)) (e_len T.g_len (v 6))))))))))) (ds_one (d1_ret de_bl)) ds_nil) (ds_one (d1_ret (de_and (DX.de (dx_call c_is_count_1 hr (da_cons (v 3) da_nil))) (de_one (e_le (v 3) (e_len T.g_len (e_ix hr (v 2) de_int)))))))))))
theorem cal_is_rule_in {k : Nat} {F : FC} (T : Top K mg) (h : FnOk P w K mg base CX0 k T.a_is_rule_in T.d_is_rule_in ["ground", "value"] (spD κ 2 F)) : Cal κ P w K mg base "is_rule_in" k 2 F [] := ⟨_, _, _, [], [], h, T.m_is_rule_in, T.f_is_rule_in.kp, b_is_rule_in T, .nil, fun _ _ => .nil⟩
theorem ok_check_rule (T : Top K mg) {F_check_ground : FC} {F_is_rule_in : FC} (c_check_ground : Cal κ P w K mg base "check_ground" 1 1 F_check_ground []) (c_is_rule_in : Cal κ P w K mg base "is_rule_in" 4 2 F_is_rule_in []) {F : FC} (hF : ∀ ds n Q, F ds n Q → ds.length = 2 → rd_check_rule F_check_ground F_is_rule_in { nx := fun _ m => Q (.val .non) m, rt := fun _ => Q } (startE 0 ds) n) (hk : κ.K = K) : FnOk P w K mg base CX0 (4 + 1) T.a_check_rule T.d_check_rule ["ground", "rule"] (spD κ 2 F) := by
  subst hk
  refine fn_dl T.f_check_rule sc_check_rule (fun cdv A outer s H E hr => ?_) hF
  exact (ds_cons (d1_expr (DX.de (dx_call c_check_ground hr (da_cons (v 0) da_nil)))) (ds_one (d1_if (dt_not (dt_tru (DX.de (dx_call c_is_rule_in hr (da_cons (v 0) (da_cons (v 1) da_nil)))))) (ds_one d1_never) ds_nil)))
theorem cal_check_rule {k : Nat} {F : FC} (T : Top K mg) (h : FnOk P w K mg base CX0 k T.a_check_rule T.d_check_rule ["ground", "rule"] (spD κ 2 F)) : Cal κ P w K mg base "check_rule" k 2 F [] := ⟨_, _, _, [], [], h, T.m_check_rule, T.f_check_rule.kp, b_check_rule T, .nil, fun _ _ => .nil⟩
theorem ok_signs_between (T : Top K mg) {cv : CV} (hG : HasGnd κ T.C_Ground cv) {F : FC} (hF : ∀ ds n Q, F ds n Q → ds.length = 4 → rd_signs_between { nx := fun _ m => Q (.val .non) m, rt := fun _ => Q } (startE 2 ds) n) (hk : κ.K = K) : FnOk P w K mg base CX0 (0 + 1) T.a_signs_between T.d_signs_between ["ground", "text", "first", "behind"] (spD κ 4 F) := by
  subst hk
  refine fn_dl T.f_signs_between sc_signs_between (fun cdv A outer s H E hr => ?_) hF
  exact (ds_cons (S_asg 4 sc_signs_between.nd (e_ix hr (e_row hG T.F_Ground (v 0)) de_int)) (ds_one (d1_ret (de_join (c_str []) (DO.fr (o_comp [("at", 5)] sc_signs_between.nd (i_r2 T.g_range (v 2) (v 3)) (fun _ _ _ _ _ => (G_n 5 sc_signs_between.nd)) (fun _ _ _ _ _ => dts_nil) (fun _ _ _ _ _ => (de_if (t_chain cr_le cr_lt de_int (v 5) (e_len T.g_len (v 1))) (e_ix hr (v 1) (v 5)) (v 4)))))))))
theorem cal_signs_between {k : Nat} {F : FC} (T : Top K mg) (h : FnOk P w K mg base CX0 k T.a_signs_between T.d_signs_between ["ground", "text", "first", "behind"] (spD κ 4 F)) : Cal κ P w K mg base "signs_between" k 4 F [] := ⟨_, _, _, [], [], h, T.m_signs_between, T.f_signs_between.kp, b_signs_between T, .nil, fun _ _ => .nil⟩
theorem ok_seen_at (T : Top K mg) {F_signs_between : FC} (c_signs_between : Cal κ P w K mg base "signs_between" 1 4 F_signs_between []) {F : FC} (hF : ∀ ds n Q, F ds n Q → ds.length = 5 → rd_seen_at F_signs_between { nx := fun _ m => Q (.val .non) m, rt := fun _ => Q } (startE 0 ds) n) (hk : κ.K = K) : FnOk P w K mg base CX0 (1 + 1) T.a_seen_at T.d_seen_at ["ground", "text", "width", "at", "place"] (spD κ 5 F) := by
  subst hk
  refine fn_dl T.f_seen_at sc_seen_at (fun cdv A outer s H E hr => ?_) hF
  exact (ds_one (d1_ret (DX.de (dx_call c_signs_between hr (da_cons (v 0) (da_cons (v 1) (da_cons (e_sub (v 4) (v 3)) (da_cons (e_add (e_sub (v 4) (v 3)) (v 2)) da_nil))))))))
theorem cal_seen_at {k : Nat} {F : FC} (T : Top K mg) (h : FnOk P w K mg base CX0 k T.a_seen_at T.d_seen_at ["ground", "text", "width", "at", "place"] (spD κ 5 F)) : Cal κ P w K mg base "seen_at" k 5 F [] := ⟨_, _, _, [], [], h, T.m_seen_at, T.f_seen_at.kp, b_seen_at T, .nil, fun _ _ => .nil⟩
theorem ok_marked_in (T : Top K mg) {F_seen_at : FC} (c_seen_at : Cal κ P w K mg base "seen_at" 2 5 F_seen_at []) {F : FC} (hF : ∀ ds n Q, F ds n Q → ds.length = 5 → rd_marked_in F_seen_at { nx := fun _ m => Q (.val .non) m, rt := fun _ => Q } (startE 4 ds) n) (hk : κ.K = K) : FnOk P w K mg base CX0 (2 + 1) T.a_marked_in T.d_marked_in ["ground", "rule", "text", "first", "last"] (spD κ 5 F) := by
  subst hk
  refine fn_dl T.f_marked_in sc_marked_in (fun cdv A outer s H E hr => ?_) hF
  exact (ds_cons (S_asg 5 sc_marked_in.nd (E_dictP T.g_dict (DO.fr (o_comp [("word", 8)] sc_marked_in.nd (i_seq (e_ix hr (v 1) de_int)) (fun _ _ _ _ _ => (G_n 8 sc_marked_in.nd)) (fun _ _ _ _ _ => dts_nil) (fun _ _ _ _ _ => (de_tup (da_cons (v 8) (da_cons de_bl da_nil)))))))) (ds_cons (S_asg 6 sc_marked_in.nd (e_len T.g_len (e_ix hr (e_ix hr (v 1) de_int) de_int))) (ds_one (d1_retO (o_comp [("place", 7)] sc_marked_in.nd (i_r2 T.g_range (v 3) (e_add (v 4) de_int)) (fun _ _ _ _ _ => (G_n 7 sc_marked_in.nd)) (fun _ _ _ _ _ => (dts_one (t_in hr (DX.de (dx_call c_seen_at hr (da_cons (v 0) (da_cons (v 2) (da_cons (v 6) (da_cons (e_ix hr (v 1) de_int) (da_cons (v 7) da_nil))))))) (v 5)))) (fun _ _ _ _ _ => (v 7)))))))
theorem cal_marked_in {k : Nat} {F : FC} (T : Top K mg) (h : FnOk P w K mg base CX0 k T.a_marked_in T.d_marked_in ["ground", "rule", "text", "first", "last"] (spD κ 5 F)) : Cal κ P w K mg base "marked_in" k 5 F [] := ⟨_, _, _, [], [], h, T.m_marked_in, T.f_marked_in.kp, b_marked_in T, .nil, fun _ _ => .nil⟩
theorem ok_near_words (T : Top K mg) {F : FC} (hF : ∀ ds n Q, F ds n Q → ds.length = 2 → rd_near_words { nx := fun _ m => Q (.val .non) m, rt := fun _ => Q } (startE 5 ds) n) (hk : κ.K = K) : FnOk P w K mg base CX0 (0 + 1) T.a_near_words T.d_near_words ["gap", "words"] (spD κ 2 F) := by
  subst hk
  refine fn_dl T.f_near_words sc_near_words (fun cdv A outer s H E hr => ?_) hF
  exact (ds_cons (S_for (i_r2 T.g_range de_int (v 0)) (N_n 2 sc_near_words.nd) (ds_cons (S_asg 3 sc_near_words.nd (e_max T.g_max (da_cons de_int (da_cons (e_sub (e_len T.g_len (e_ix hr (v 1) de_int)) (v 2)) da_nil)))) (ds_cons (S_dct 4 sc_near_words.nd) (ds_cons (S_for (i_name 1) (N_n 5 sc_near_words.nd) (ds_one (S_setD 4 hr (v 5) (e_sl (v 5) dp_none (dp_some (v 3)))))) (ds_one (S_for (i_name 1) (N_n 6 sc_near_words.nd) (ds_one (d1_if (t_in hr (e_sl (v 6) (dp_some (v 2)) dp_none) (v 4)) (ds_one (d1_retV (de_tup (da_cons (v 6) (da_cons (e_ix hr (v 4) (e_sl (v 6) (dp_some (v 2)) dp_none)) (da_cons (v 2) da_nil)))))) ds_nil)))))))) (ds_one (d1_ret de_non)))
theorem cal_near_words {k : Nat} {F : FC} (T : Top K mg) (h : FnOk P w K mg base CX0 k T.a_near_words T.d_near_words ["gap", "words"] (spD κ 2 F)) : Cal κ P w K mg base "near_words" k 2 F [] := ⟨_, _, _, [], [], h, T.m_near_words, T.f_near_words.kp, b_near_words T, .nil, fun _ _ => .nil⟩
theorem ok_missed_in (T : Top K mg) {F_repeats : FC} (c_repeats : Cal κ P w K mg base "repeats" 2 2 F_repeats []) {cv : CV} (hG : HasGnd κ T.C_Ground cv) {F : FC} (hF : ∀ ds n Q, F ds n Q → ds.length = 3 → rd_missed_in F_repeats { nx := fun _ m => Q (.val .non) m, rt := fun _ => Q } (startE 9 ds) n) (hk : κ.K = K) : FnOk P w K mg base CX0 (2 + 1) T.a_missed_in T.d_missed_in ["ground", "words", "at"] (spD κ 3 F) := by
  subst hk
  refine fn_dl T.f_missed_in sc_missed_in (fun cdv A outer s H E hr => ?_) hF
  exact (ds_cons (S_asg 3 sc_missed_in.nd (e_len T.g_len (e_ix hr (v 1) de_int))) (ds_cons (S_asg 4 sc_missed_in.nd (e_sub (e_mul de_int (e_least hG T.F_Ground (v 0))) de_int)) (ds_cons (S_asg 5 sc_missed_in.nd (E_dictP T.g_dict (DO.fr (o_comp [("word", 10)] sc_missed_in.nd (i_name 1) (fun _ _ _ _ _ => (G_n 10 sc_missed_in.nd)) (fun _ _ _ _ _ => dts_nil) (fun _ _ _ _ _ => (de_tup (da_cons (v 10) (da_cons de_bl da_nil)))))))) (ds_cons (S_asg 6 sc_missed_in.nd (DO.fr (do_lst (da_cons (c_str []) da_nil)))) (ds_cons (S_for (i_r1 T.g_range (e_add (v 3) (v 4))) (N_n 7 sc_missed_in.nd) (ds_cons (S_lc2F 9 [("row", 8), ("sign", 11)] [11] sc_missed_in.nd (i0_seq (v 6)) (fun _ _ _ _ _ => (G_n 8 sc_missed_in.nd)) (fun _ _ _ _ _ => dts_nil) (fun _ _ _ _ _ => (i0_seq (e_row hG T.F_Ground (v 0)))) (fun _ _ _ _ _ => (G_n 11 sc_missed_in.nd)) (fun _ _ _ _ _ => dts_nil) (fun _ _ _ _ _ => (e_add (v 8) (v 11)))) (ds_one (S_lcF 6 [("row", 8)] sc_missed_in.nd (i_name 9) (fun _ _ _ _ _ => (G_n 8 sc_missed_in.nd)) (fun _ _ _ _ _ => (dts_one (t_notIn hr (e_sl (v 8) (dp_some (de_neg (v 3))) dp_none) (v 5)))) (fun _ _ _ _ _ => (v 8)))))) (ds_cons (S_for (i_name 6) (N_n 8 sc_missed_in.nd) (ds_one (d1_if (dt_not (dt_tru (DX.de (dx_call c_repeats hr (da_cons (e_sl (v 8) (dp_some (v 2)) (dp_some (e_add (v 2) (v 4)))) (da_cons (e_least hG T.F_Ground (v 0)) da_nil)))))) (ds_one (d1_ret (v 8))) ds_nil))) (ds_one (d1_ret de_non))))))))
theorem cal_missed_in {k : Nat} {F : FC} (T : Top K mg) (h : FnOk P w K mg base CX0 k T.a_missed_in T.d_missed_in ["ground", "words", "at"] (spD κ 3 F)) : Cal κ P w K mg base "missed_in" k 3 F [] := ⟨_, _, _, [], [], h, T.m_missed_in, T.f_missed_in.kp, b_missed_in T, .nil, fun _ _ => .nil⟩
theorem ok_missed (T : Top K mg) {F_check_rule : FC} {F_missed_in : FC} (c_check_rule : Cal κ P w K mg base "check_rule" 5 2 F_check_rule []) (c_missed_in : Cal κ P w K mg base "missed_in" 3 3 F_missed_in []) {cv : CV} (hG : HasGnd κ T.C_Ground cv) {F : FC} (hF : ∀ ds n Q, F ds n Q → ds.length = 2 → rd_missed F_check_rule F_missed_in { nx := fun _ m => Q (.val .non) m, rt := fun _ => Q } (startE 1 ds) n) (hk : κ.K = K) : FnOk P w K mg base CX0 (5 + 1) T.a_missed T.d_missed ["ground", "rule"] (spD κ 2 F) := by
  subst hk
  refine fn_dl T.f_missed sc_missed (fun cdv A outer s H E hr => ?_) hF
  exact (ds_cons (d1_expr (DX.de (dx_call c_check_rule hr (da_cons (v 0) (da_cons (v 1) da_nil))))) (ds_cons (S_asg 2 sc_missed.nd (DX.de (dx_call c_missed_in hr (da_cons (v 0) (da_cons (e_ix hr (v 1) de_int) (da_cons (e_ix hr (v 1) de_int) da_nil)))))) (ds_one (d1_ret (de_if (t_isN (v 2) de_non) de_non (de_tup (da_cons (v 2) (da_cons (e_sub (e_add (e_ix hr (v 1) de_int) (e_least hG T.F_Ground (v 0))) de_int) da_nil))))))))
theorem cal_missed {k : Nat} {F : FC} (T : Top K mg) (h : FnOk P w K mg base CX0 k T.a_missed T.d_missed ["ground", "rule"] (spD κ 2 F)) : Cal κ P w K mg base "missed" k 2 F [] := ⟨_, _, _, [], [], h, T.m_missed, T.f_missed.kp, b_missed T, .nil, fun _ _ => .nil⟩
theorem ok_is_missed (T : Top K mg) {F_check_rule : FC} {F_is_count : FC} {F_is_text_of : FC} {F_marked_in : FC} {F_repeats : FC} {F_window_in : FC} (c_check_rule : Cal κ P w K mg base "check_rule" 5 2 F_check_rule []) (c_is_count_1 : Cal κ P w K mg base "is_count" 2 2 F_is_count [.non]) (c_is_text_of : Cal κ P w K mg base "is_text_of" 1 2 F_is_text_of []) (c_marked_in : Cal κ P w K mg base "marked_in" 3 5 F_marked_in []) (c_repeats : Cal κ P w K mg base "repeats" 2 2 F_repeats []) (c_window_in : Cal κ P w K mg base "window_in" 2 3 F_window_in []) {cv : CV} (hG : HasGnd κ T.C_Ground cv) {F : FC} (hF : ∀ ds n Q, F ds n Q → ds.length = 3 → rd_is_missed F_check_rule F_is_count F_is_text_of F_marked_in F_repeats F_window_in { nx := fun _ m => Q (.val .non) m, rt := fun _ => Q } (startE 2 ds) n) (hk : κ.K = K) : FnOk P w K mg base CX0 (5 + 1) T.a_is_missed T.d_is_missed ["ground", "rule", "value"] (spD κ 3 F) := by
  subst hk
  refine fn_dl T.f_is_missed sc_is_missed (fun cdv A outer s H E hr => ?_) hF
  exact (ds_cons (d1_expr (DX.de (dx_call c_check_rule hr (da_cons (v 0) (da_cons (v 1) da_nil))))) (ds_cons (d1_if (DW.dt (dw_or (dt_not (dt_val (e_isi .tuple T.g_isinstance T.g_tuple (v 2)))) (dw_or (t_ne hr (e_len T.g_len (v 2)) de_int) (dw_or1 (dt_not (dt_tru (DX.de (dx_call c_is_text_of hr (da_cons (v 0) (da_cons (e_ix hr (v 2) de_int) da_nil)))))))))) (ds_one (d1_ret de_bl)) ds_nil) (ds_cons (d1_unp (v 2) (N_t (sds_cons (N_n 3 sc_is_missed.nd) (sds_cons (N_n 4 sc_is_missed.nd) sds_nil)))) (ds_cons (d1_if (DW.dt (dw_or (dt_not (dt_tru (DX.de (dx_call c_is_count_1 hr (da_cons (v 4) da_nil))))) (dw_or (t_gt (v 4) (e_len T.g_len (v 3))) (dw_or1 (dt_tru (DX.de (dx_call c_repeats hr (da_cons (DX.de (dx_call c_window_in hr (da_cons (v 0) (da_cons (v 3) (da_cons (v 4) da_nil))))) (da_cons (e_least hG T.F_Ground (v 0)) da_nil))))))))) (ds_one (d1_ret de_bl)) ds_nil) (ds_one (d1_ret (e_eq hr (DX.de (dx_call c_marked_in hr (da_cons (v 0) (da_cons (v 1) (da_cons (v 3) (da_cons (e_add (e_sub (v 4) (e_least hG T.F_Ground (v 0))) de_int) (da_cons (e_sub (e_add (v 4) (e_least hG T.F_Ground (v 0))) de_int) da_nil))))))) (DO.fr (do_lst da_nil)))))))))
theorem cal_is_missed {k : Nat} {F : FC} (T : Top K mg) (h : FnOk P w K mg base CX0 k T.a_is_missed T.d_is_missed ["ground", "rule", "value"] (spD κ 3 F)) : Cal κ P w K mg base "is_missed" k 3 F [] := ⟨_, _, _, [], [], h, T.m_is_missed, T.f_is_missed.kp, b_is_missed T, .nil, fun _ _ => .nil⟩
theorem ok_is_whole_rules (T : Top K mg) {F_check_rule : FC} {F_missed_in : FC} {F_near_words : FC} (c_check_rule : Cal κ P w K mg base "check_rule" 5 2 F_check_rule []) (c_missed_in : Cal κ P w K mg base "missed_in" 3 3 F_missed_in []) (c_near_words : Cal κ P w K mg base "near_words" 1 2 F_near_words []) {cv : CV} (hG : HasGnd κ T.C_Ground cv) {F : FC} (hF : ∀ ds n Q, F ds n Q → ds.length = 2 → rd_is_whole_rules F_check_rule F_missed_in F_near_words { nx := fun _ m => Q (.val .non) m, rt := fun _ => Q } (startE 0 ds) n) (hk : κ.K = K) : FnOk P w K mg base CX0 (5 + 1) T.a_is_whole_rules T.d_is_whole_rules ["ground", "rule"] (spD κ 2 F) := by
  subst hk
  refine fn_dl T.f_is_whole_rules sc_is_whole_rules (fun cdv A outer s H E hr => ?_) hF
  exact (ds_cons (d1_expr (DX.de (dx_call c_check_rule hr (da_cons (v 0) (da_cons (v 1) da_nil))))) (ds_one (d1_ret (de_and (e_isN (DX.de (dx_call c_near_words hr (da_cons (e_least hG T.F_Ground (v 0)) (da_cons (e_ix hr (v 1) de_int) da_nil)))) de_non) (de_one (e_isN (DX.de (dx_call c_missed_in hr (da_cons (v 0) (da_cons (e_ix hr (v 1) de_int) (da_cons (e_ix hr (v 1) de_int) da_nil))))) de_non))))))
theorem cal_is_whole_rules {k : Nat} {F : FC} (T : Top K mg) (h : FnOk P w K mg base CX0 k T.a_is_whole_rules T.d_is_whole_rules ["ground", "rule"] (spD κ 2 F)) : Cal κ P w K mg base "is_whole_rules" k 2 F [] := ⟨_, _, _, [], [], h, T.m_is_whole_rules, T.f_is_whole_rules.kp, b_is_whole_rules T, .nil, fun _ _ => .nil⟩
theorem ok__law_dice (T : Top K mg) {F : FC} (hF : ∀ ds n Q, F ds n Q → ds.length = 2 → rd__law_dice { nx := fun _ m => Q (.val .non) m, rt := fun _ => Q } (startE 1 ds) n) (hk : κ.K = K) : FnOk P w K mg base CX0 (0 + 1) T.a__law_dice T.d__law_dice ["script", "at"] (spD κ 2 F) := by
  subst hk
  refine fn_dl T.f__law_dice sc__law_dice (fun cdv A outer s H E hr => ?_) hF
  exact (ds_cons (S_asg 2 sc__law_dice.nd (e_sum T.g_sum (e_sl (v 0) (dp_some (v 1)) (dp_some (e_add (v 1) de_int))))) (ds_one (d1_retO (do_lst (da_cons (e_mod (e_int T.g_int (e_max T.g_max (da_cons (e_sub (v 2) (e_pow de_int de_int)) (da_cons de_int da_nil)))) (e_pow (e_pow de_int de_int) de_int)) (da_cons (e_mod (e_int T.g_int (v 2)) de_int) (da_cons de_int (da_cons (v 1) da_nil))))))))
theorem cal__law_dice {k : Nat} {F : FC} (T : Top K mg) (h : FnOk P w K mg base CX0 k T.a__law_dice T.d__law_dice ["script", "at"] (spD κ 2 F)) : Cal κ P w K mg base "_law_dice" k 2 F [] := ⟨_, _, _, [], [], h, T.m__law_dice, T.f__law_dice.kp, b__law_dice T, .nil, fun _ _ => .nil⟩
theorem ok__law_mixed (T : Top K mg) {F : FC} (hF : ∀ ds n Q, F ds n Q → ds.length = 3 → rd__law_mixed { nx := fun _ m => Q (.val .non) m, rt := fun _ => Q } (startE 1 ds) n) (hk : κ.K = K) : FnOk P w K mg base CX0 (0 + 1) T.a__law_mixed T.d__law_mixed ["seed", "spin", "at"] (spD κ 3 F) := by
  subst hk
  refine fn_dl T.f__law_mixed sc__law_mixed (fun cdv A outer s H E hr => ?_) hF
  exact (ds_cons (S_asg 3 sc__law_mixed.nd (e_add (e_mul (v 0) de_int) (e_mul (e_mul de_int (v 1)) (v 1)))) (ds_cons (S_asg 3 sc__law_mixed.nd (e_mod (e_int T.g_int (e_add (e_add (v 3) (e_mul de_int (v 2))) (v 1))) de_int)) (ds_cons (S_asg 3 sc__law_mixed.nd (e_mod (e_int T.g_int (e_add (e_mul (v 3) (v 3)) de_int)) de_int)) (ds_one (d1_ret (e_mod (e_int T.g_int (e_mul (v 3) de_int)) de_int))))))
theorem cal__law_mixed {k : Nat} {F : FC} (T : Top K mg) (h : FnOk P w K mg base CX0 k T.a__law_mixed T.d__law_mixed ["seed", "spin", "at"] (spD κ 3 F)) : Cal κ P w K mg base "_law_mixed" k 3 F [] := ⟨_, _, _, [], [], h, T.m__law_mixed, T.f__law_mixed.kp, b__law_mixed T, .nil, fun _ _ => .nil⟩
theorem ok__law_draw (T : Top K mg) {F__law_mixed : FC} (c__law_mixed : Cal κ P w K mg base "_law_mixed" 1 3 F__law_mixed []) (hK : HasDice κ) {F : FC} (hF : ∀ ds n Q, F ds n Q → ds.length = 2 → rd__law_draw F__law_mixed { nx := fun _ m => Q (.val .non) m, rt := fun _ => Q } (startE 3 ds) n) (hk : κ.K = K) : FnOk P w K mg base CX0 (1 + 1) T.a__law_draw T.d__law_draw ["dice", "many"] (spD κ 2 F) := by
  subst hk
  refine fn_dl T.f__law_draw sc__law_draw (fun cdv A outer s H E hr => ?_) hF
  exact (ds_cons (d1_if (t_gt (e_ixB 0 0 hK ⟨_, _, rfl⟩) de_int) (ds_cons (S_asg 4 sc__law_draw.nd (e_mod (e_int T.g_int (e_ixB 0 0 hK ⟨_, _, rfl⟩)) (v 1))) (ds_cons (S_setB 0 0 hK (e_div (e_ixB 0 0 hK ⟨_, _, rfl⟩) (v 1)) ⟨_, _, rfl⟩) (ds_one (d1_ret (v 4))))) ds_nil) (ds_cons (S_asg 2 sc__law_draw.nd de_int) (ds_cons (S_for (i_r1 T.g_range (e_add de_int (e_div (de_bits (v 1)) de_int))) (N_n 3 sc__law_draw.nd) (ds_cons (S_setB 0 2 hK (e_add (e_ixB 0 2 hK ⟨_, _, rfl⟩) de_int) ⟨_, _, rfl⟩) (ds_one (S_asg 2 sc__law_draw.nd (e_add (e_mul (v 2) de_int) (DX.de (dx_call c__law_mixed hr (da_cons (e_ixB 0 1 hK ⟨_, _, rfl⟩) (da_cons (e_ixB 0 2 hK ⟨_, _, rfl⟩) (da_cons (e_ixB 0 3 hK ⟨_, _, rfl⟩) da_nil)))))))))) (ds_one (d1_ret (e_mod (e_int T.g_int (v 2)) (v 1)))))))
theorem cal__law_draw {k : Nat} {F : FC} (T : Top K mg) (h : FnOk P w K mg base CX0 k T.a__law_draw T.d__law_draw ["dice", "many"] (spD κ 2 F)) : Cal κ P w K mg base "_law_draw" k 2 F [] := ⟨_, _, _, [], [], h, T.m__law_draw, T.f__law_draw.kp, b__law_draw T, .nil, fun _ _ => .nil⟩
theorem ok__law_one_of (T : Top K mg) {F__law_draw : FC} (c__law_draw : Cal κ P w K mg base "_law_draw" 2 2 F__law_draw []) {F : FC} (hF : ∀ ds n Q, F ds n Q → ds.length = 2 → rd__law_one_of F__law_draw { nx := fun _ m => Q (.val .non) m, rt := fun _ => Q } (startE 0 ds) n) (hk : κ.K = K) : FnOk P w K mg base CX0 (2 + 1) T.a__law_one_of T.d__law_one_of ["dice", "some"] (spD κ 2 F) := by
  subst hk
  refine fn_dl T.f__law_one_of sc__law_one_of (fun cdv A outer s H E hr => ?_) hF
  exact (ds_one (d1_ret (e_ix hr (v 1) (DX.de (dx_call c__law_draw hr (da_cons (v 0) (da_cons (e_len T.g_len (v 1)) da_nil)))))))
theorem cal__law_one_of {k : Nat} {F : FC} (T : Top K mg) (h : FnOk P w K mg base CX0 k T.a__law_one_of T.d__law_one_of ["dice", "some"] (spD κ 2 F)) : Cal κ P w K mg base "_law_one_of" k 2 F [] := ⟨_, _, _, [], [], h, T.m__law_one_of, T.f__law_one_of.kp, b__law_one_of T, .nil, fun _ _ => .nil⟩
theorem ok__law_exact (T : Top K mg) {lv : Nat} (hlv : 0 ≤ lv) {F__law_exact : FC} (c__law_exact : Cal κ P w K mg base "_law_exact" lv 2 F__law_exact []) {F : FC} (hF : ∀ ds n Q, F ds n Q → ds.length = 2 → rd__law_exact F__law_exact { nx := fun _ m => Q (.val .non) m, rt := fun _ => Q } (startE 4 ds) n) (hk : κ.K = K) : FnOk P w K mg base CX0 (lv + 1) T.a__law_exact T.d__law_exact ["mine", "theirs"] (spD κ 2 F) := by
  subst hk
  refine fn_dl T.f__law_exact sc__law_exact (fun cdv A outer s H E hr => ?_) hF
  exact (ds_cons (d1_if (dt_val (e_isiT T.g_isinstance (v 0) (ty_cons .list T.g_list (ty_cons .tuple T.g_tuple dtys_nil)))) (ds_cons (S_asg 2 sc__law_exact.nd (de_and (e_eq hr (e_isi .list T.g_isinstance T.g_list (v 1)) (e_isi .list T.g_isinstance T.g_list (v 0))) (de_one (e_eq hr (e_isi .tuple T.g_isinstance T.g_tuple (v 1)) (e_isi .tuple T.g_isinstance T.g_tuple (v 0)))))) (ds_one (d1_ret (de_and (v 2) (de_and (e_eq hr (e_len T.g_len (v 0)) (e_len T.g_len (v 1))) (de_one (e_all T.g_all (DO.fr (o_comp [("a", 3), ("b", 4)] sc__law_exact.nd (i_zip T.g_zip (v 0) (v 1)) (fun _ _ _ _ _ => (G_t (dgs_cons (G_n 3 sc__law_exact.nd) (dgs_cons (G_n 4 sc__law_exact.nd) dgs_nil)))) (fun _ _ _ _ _ => dts_nil) (fun _ _ _ _ _ => (DX.de (dx_call c__law_exact hr (da_cons (v 3) (da_cons (v 4) da_nil)))))))))))))) ds_nil) (ds_cons (d1_if (dt_val (e_isi .dict T.g_isinstance T.g_dict (v 0))) (ds_cons (S_asg 2 sc__law_exact.nd (de_and (e_isi .dict T.g_isinstance T.g_dict (v 1)) (de_one (DX.de (dx_call c__law_exact hr (da_cons (DO.fr (o_list T.g_list (v 0))) (da_cons (DO.fr (o_list T.g_list (v 1))) da_nil))))))) (ds_one (d1_ret (de_and (v 2) (de_one (e_all T.g_all (DO.fr (o_comp [("key", 5)] sc__law_exact.nd (i_name 0) (fun _ _ _ _ _ => (G_n 5 sc__law_exact.nd)) (fun _ _ _ _ _ => dts_nil) (fun _ _ _ _ _ => (DX.de (dx_call c__law_exact hr (da_cons (e_ix hr (v 0) (v 5)) (da_cons (e_ix hr (v 1) (v 5)) da_nil))))))))))))) ds_nil) (ds_cons (d1_if (DW.dt (dw_or (dt_val (e_isiT T.g_isinstance (v 1) (ty_cons .list T.g_list (ty_cons .tuple T.g_tuple (ty_cons .dict T.g_dict dtys_nil))))) (dw_or1 (t_ne hr (e_isN (v 0) de_non) (e_isN (v 1) de_non))))) (ds_one (d1_ret de_bl)) ds_nil) (ds_cons (S_asg 2 sc__law_exact.nd (de_and (e_eq hr (e_isi .int T.g_isinstance T.g_int (v 0)) (e_isi .int T.g_isinstance T.g_int (v 1))) (de_one (e_eq hr (e_isi .str T.g_isinstance T.g_str (v 0)) (e_isi .str T.g_isinstance T.g_str (v 1)))))) (ds_one (d1_ret (de_and (v 2) (de_and (e_eq hr (e_isi .bool T.g_isinstance T.g_bool (v 0)) (e_isi .bool T.g_isinstance T.g_bool (v 1))) (de_one (e_eq hr (v 0) (v 1)))))))))))
theorem cal__law_exact {k : Nat} {F : FC} (T : Top K mg) (h : FnOk P w K mg base CX0 k T.a__law_exact T.d__law_exact ["mine", "theirs"] (spD κ 2 F)) : Cal κ P w K mg base "_law_exact" k 2 F [] := ⟨_, _, _, [], [], h, T.m__law_exact, T.f__law_exact.kp, b__law_exact T, .nil, fun _ _ => .nil⟩
theorem ok__law_dices (T : Top K mg) {F__law_dice : FC} (c__law_dice : Cal κ P w K mg base "_law_dice" 1 2 F__law_dice []) {F : FC} (hF : ∀ ds n Q, F ds n Q → ds.length = 2 → rd__law_dices F__law_dice { nx := fun _ m => Q (.val .non) m, rt := fun _ => Q } (startE 1 ds) n) (hk : κ.K = K) : FnOk P w K mg base CX0 (1 + 1) T.a__law_dices T.d__law_dices ["script", "few"] (spD κ 2 F) := by
  subst hk
  refine fn_dl T.f__law_dices sc__law_dices (fun cdv A outer s H E hr => ?_) hF
  exact (ds_one (d1_retO (o_comp [("at", 2)] sc__law_dices.nd (i_r1 T.g_range (e_max T.g_max (da_cons de_int (da_cons (e_min T.g_min (da_cons (v 1) (da_cons (e_len T.g_len (v 0)) da_nil))) da_nil)))) (fun _ _ _ _ _ => (G_n 2 sc__law_dices.nd)) (fun _ _ _ _ _ => dts_nil) (fun _ _ _ _ _ => (DX.de (dx_call c__law_dice hr (da_cons (v 0) (da_cons (v 2) da_nil))))))))
theorem cal__law_dices {k : Nat} {F : FC} (T : Top K mg) (h : FnOk P w K mg base CX0 k T.a__law_dices T.d__law_dices ["script", "few"] (spD κ 2 F)) : Cal κ P w K mg base "_law_dices" k 2 F [] := ⟨_, _, _, [], [], h, T.m__law_dices, T.f__law_dices.kp, b__law_dices T, .nil, fun _ _ => .nil⟩
theorem ok__law_letters (T : Top K mg) {F__law_draw : FC} (c__law_draw : Cal κ P w K mg base "_law_draw" 2 2 F__law_draw []) {F : FC} (hF : ∀ ds n Q, F ds n Q → ds.length = 2 → rd__law_letters F__law_draw { nx := fun _ m => Q (.val .non) m, rt := fun _ => Q } (startE 4 ds) n) (hk : κ.K = K) : FnOk P w K mg base CX0 (2 + 1) T.a__law_letters T.d__law_letters ["dice", "many"] (spD κ 2 F) := by
  subst hk
  refine fn_dl T.f__law_letters sc__law_letters (fun cdv A outer s H E hr => ?_) hF
  exact (ds_cons (S_asgO 2 sc__law_letters.nd (do_lst da_nil)) (ds_cons (S_for (i_r1 T.g_range (v 1)) (N_n 3 sc__law_letters.nd) (ds_cons (S_asg 4 sc__law_letters.nd (e_ix hr (c_str [97, 98, 99, 100, 101, 102, 103, 104, 105, 106, 107, 108, 109, 110, 111, 112, 113, 114, 115, 116, 117, 118, 119, 120, 121, 122]) (DX.de (dx_call c__law_draw hr (da_cons (v 0) (da_cons de_int da_nil)))))) (ds_one (S_appV 2 (de_if (t_notIn hr (v 4) (v 2)) (v 4) (e_ix hr (DO.fr (o_comp [("sign", 5)] sc__law_letters.nd (i_seq (DO.fr (o_list T.g_list (c_str [97, 98, 99, 100, 101, 102, 103, 104, 105, 106, 107, 108, 109, 110, 111, 112, 113, 114, 115, 116, 117, 118, 119, 120, 121, 122])))) (fun _ _ _ _ _ => (G_n 5 sc__law_letters.nd)) (fun _ _ _ _ _ => (dts_one (t_notIn hr (v 5) (v 2)))) (fun _ _ _ _ _ => (v 5)))) de_int)))))) (ds_one (d1_retV (de_join (c_str []) (DO.fr (o_sorted T.g_sorted (v 2))))))))
theorem cal__law_letters {k : Nat} {F : FC} (T : Top K mg) (h : FnOk P w K mg base CX0 k T.a__law_letters T.d__law_letters ["dice", "many"] (spD κ 2 F)) : Cal κ P w K mg base "_law_letters" k 2 F [] := ⟨_, _, _, [], [], h, T.m__law_letters, T.f__law_letters.kp, b__law_letters T, .nil, fun _ _ => .nil⟩
theorem ok__law_repeats (T : Top K mg) {F : FC} (hF : ∀ ds n Q, F ds n Q → ds.length = 2 → rd__law_repeats { nx := fun _ m => Q (.val .non) m, rt := fun _ => Q } (startE 1 ds) n) (hk : κ.K = K) : FnOk P w K mg base CX0 (0 + 1) T.a__law_repeats T.d__law_repeats ["word", "gap"] (spD κ 2 F) := by
  subst hk
  refine fn_dl T.f__law_repeats sc__law_repeats (fun cdv A outer s H E hr => ?_) hF
  exact (ds_one (d1_ret (e_any T.g_any (DO.fr (o_comp [("period", 2)] sc__law_repeats.nd (i_r2 T.g_range de_int (e_min T.g_min (da_cons (v 1) (da_cons (e_len T.g_len (v 0)) da_nil)))) (fun _ _ _ _ _ => (G_n 2 sc__law_repeats.nd)) (fun _ _ _ _ _ => dts_nil) (fun _ _ _ _ _ => (e_eq hr (e_sl (v 0) (dp_some (v 2)) dp_none) (e_sl (v 0) dp_none (dp_some (e_sub (e_len T.g_len (v 0)) (v 2)))))))))))
theorem cal__law_repeats {k : Nat} {F : FC} (T : Top K mg) (h : FnOk P w K mg base CX0 k T.a__law_repeats T.d__law_repeats ["word", "gap"] (spD κ 2 F)) : Cal κ P w K mg base "_law_repeats" k 2 F [] := ⟨_, _, _, [], [], h, T.m__law_repeats, T.f__law_repeats.kp, b__law_repeats T, .nil, fun _ _ => .nil⟩
theorem ok__law_words_of (T : Top K mg) {F : FC} (hF : ∀ ds n Q, F ds n Q → ds.length = 2 → rd__law_words_of { nx := fun _ m => Q (.val .non) m, rt := fun _ => Q } (startE 5 ds) n) (hk : κ.K = K) : FnOk P w K mg base CX0 (0 + 1) T.a__law_words_of T.d__law_words_of ["signs", "size"] (spD κ 2 F) := by
  subst hk
  refine fn_dl T.f__law_words_of sc__law_words_of (fun cdv A outer s H E hr => ?_) hF
  exact (ds_cons (S_asg 2 sc__law_words_of.nd (DO.fr (do_lst (da_cons (c_str []) da_nil)))) (ds_cons (S_for (i_r1 T.g_range (v 1)) (N_n 3 sc__law_words_of.nd) (ds_cons (S_asg 4 sc__law_words_of.nd (DO.fr (do_lst da_nil))) (ds_cons (S_for (i_name 2) (N_n 5 sc__law_words_of.nd) (ds_one (S_asg 4 sc__law_words_of.nd (e_add (v 4) (DO.fr (o_comp [("sign", 6)] sc__law_words_of.nd (i_seq (DO.fr (o_list T.g_list (v 0)))) (fun _ _ _ _ _ => (G_n 6 sc__law_words_of.nd)) (fun _ _ _ _ _ => dts_nil) (fun _ _ _ _ _ => (e_add (v 5) (v 6))))))))) (ds_one (S_asg 2 sc__law_words_of.nd (v 4)))))) (ds_one (d1_ret (v 2)))))
theorem cal__law_words_of {k : Nat} {F : FC} (T : Top K mg) (h : FnOk P w K mg base CX0 k T.a__law_words_of T.d__law_words_of ["signs", "size"] (spD κ 2 F)) : Cal κ P w K mg base "_law_words_of" k 2 F [] := ⟨_, _, _, [], [], h, T.m__law_words_of, T.f__law_words_of.kp, b__law_words_of T, .nil, fun _ _ => .nil⟩
theorem ok__law_window (T : Top K mg) {F : FC} (hF : ∀ ds n Q, F ds n Q → ds.length = 3 → rd__law_window { nx := fun _ m => Q (.val .non) m, rt := fun _ => Q } (startE 3 ds) n) (hk : κ.K = K) : FnOk P w K mg base CX0 (0 + 1) T.a__law_window T.d__law_window ["ground", "text", "place"] (spD κ 3 F) := by
  subst hk
  refine fn_dl T.f__law_window sc__law_window (fun cdv A outer s H E hr => ?_) hF
  exact (ds_cons (S_asg 3 sc__law_window.nd (e_mul (e_ix hr (e_ix hr (v 0) de_int) de_int) (e_mul de_int (e_ix hr (v 0) de_int)))) (ds_cons (S_par 4 5 sc__law_window.nd (dxs_cons (dx_v (e_add (e_add (v 3) (v 1)) (v 3))) (dxs_cons (dx_v (e_add (v 2) (e_mul de_int (e_ix hr (v 0) de_int)))) dxs_nil))) (ds_one (d1_ret (e_sl (v 4) (dp_some (e_add (e_sub (v 5) (e_ix hr (v 0) de_int)) de_int)) (dp_some (e_sub (e_add (v 5) (e_ix hr (v 0) de_int)) de_int)))))))
theorem cal__law_window {k : Nat} {F : FC} (T : Top K mg) (h : FnOk P w K mg base CX0 k T.a__law_window T.d__law_window ["ground", "text", "place"] (spD κ 3 F)) : Cal κ P w K mg base "_law_window" k 3 F [] := ⟨_, _, _, [], [], h, T.m__law_window, T.f__law_window.kp, b__law_window T, .nil, fun _ _ => .nil⟩
theorem ok__law_places (T : Top K mg) {F__law_repeats : FC} {F__law_window : FC} (c__law_repeats : Cal κ P w K mg base "_law_repeats" 1 2 F__law_repeats []) (c__law_window : Cal κ P w K mg base "_law_window" 1 3 F__law_window []) {F : FC} (hF : ∀ ds n Q, F ds n Q → ds.length = 2 → rd__law_places F__law_repeats F__law_window { nx := fun _ m => Q (.val .non) m, rt := fun _ => Q } (startE 3 ds) n) (hk : κ.K = K) : FnOk P w K mg base CX0 (1 + 1) T.a__law_places T.d__law_places ["ground", "text"] (spD κ 2 F) := by
  subst hk
  refine fn_dl T.f__law_places sc__law_places (fun cdv A outer s H E hr => ?_) hF
  exact (ds_cons (S_lcF 2 [("place", 3)] sc__law_places.nd (i_r2 T.g_range (e_sub de_int (e_ix hr (v 0) de_int)) (e_sub (e_add (e_len T.g_len (v 1)) (e_ix hr (v 0) de_int)) de_int)) (fun _ _ _ _ _ => (G_n 3 sc__law_places.nd)) (fun _ _ _ _ _ => dts_nil) (fun _ _ _ _ _ => (de_tup (da_cons (v 3) (da_cons (DX.de (dx_call c__law_window hr (da_cons (v 0) (da_cons (v 1) (da_cons (v 3) da_nil))))) da_nil))))) (ds_one (d1_ret (E_dictP T.g_dict (DO.fr (o_comp [("place", 3), ("window", 4)] sc__law_places.nd (i_name 2) (fun _ _ _ _ _ => (G_t (dgs_cons (G_n 3 sc__law_places.nd) (dgs_cons (G_n 4 sc__law_places.nd) dgs_nil)))) (fun _ _ _ _ _ => (dts_one (dt_not (dt_tru (DX.de (dx_call c__law_repeats hr (da_cons (v 4) (da_cons (e_ix hr (v 0) de_int) da_nil)))))))) (fun _ _ _ _ _ => (de_tup (da_cons (v 3) (da_cons (v 4) da_nil))))))))))
theorem cal__law_places {k : Nat} {F : FC} (T : Top K mg) (h : FnOk P w K mg base CX0 k T.a__law_places T.d__law_places ["ground", "text"] (spD κ 2 F)) : Cal κ P w K mg base "_law_places" k 2 F [] := ⟨_, _, _, [], [], h, T.m__law_places, T.f__law_places.kp, b__law_places T, .nil, fun _ _ => .nil⟩
theorem ok__law_all_cuts (T : Top K mg) {F__law_places : FC} (c__law_places : Cal κ P w K mg base "_law_places" 2 2 F__law_places []) {F : FC} (hF : ∀ ds n Q, F ds n Q → ds.length = 3 → rd__law_all_cuts F__law_places { nx := fun _ m => Q (.val .non) m, rt := fun _ => Q } (startE 8 ds) n) (hk : κ.K = K) : FnOk P w K mg base CX0 (2 + 1) T.a__law_all_cuts T.d__law_all_cuts ["ground", "order", "text"] (spD κ 3 F) := by
  subst hk
  refine fn_dl T.f__law_all_cuts sc__law_all_cuts (fun cdv A outer s H E hr => ?_) hF
  exact (ds_cons (S_tup (dxs_cons (dx_v (DX.de (dx_call c__law_places hr (da_cons (v 0) (da_cons (v 2) da_nil))))) (dxs_cons (dx_o (do_lst da_nil)) dxs_nil)) (X_n 3 sc__law_all_cuts.nd (X_n 4 sc__law_all_cuts.nd names_nil))) (ds_cons (S_asg 5 sc__law_all_cuts.nd (E_dictP T.g_dict (DO.fr (o_comp [("at", 8), ("window", 9)] sc__law_all_cuts.nd (i_enum T.g_enumerate (v 1)) (fun _ _ _ _ _ => (G_t (dgs_cons (G_n 8 sc__law_all_cuts.nd) (dgs_cons (G_n 9 sc__law_all_cuts.nd) dgs_nil)))) (fun _ _ _ _ _ => dts_nil) (fun _ _ _ _ _ => (de_tup (da_cons (v 9) (da_cons (v 8) da_nil)))))))) (ds_cons (S_for (i_seq (DO.fr (o_sortedA T.g_sorted (DO.fr (o_comp [("place", 7)] sc__law_all_cuts.nd (i_name 3) (fun _ _ _ _ _ => (G_n 7 sc__law_all_cuts.nd)) (fun _ _ _ _ _ => dts_nil) (fun _ _ _ _ _ => (de_tup (da_cons (e_ix hr (v 5) (e_ix hr (v 3) (v 7))) (da_cons (v 7) da_nil))))))))) (N_t (sds_cons (N_n 6 sc__law_all_cuts.nd) (sds_cons (N_n 7 sc__law_all_cuts.nd) sds_nil))) (ds_one (d1_if (dt_not (dt_val (e_any T.g_any (DO.fr (o_comp [("late", 10)] sc__law_all_cuts.nd (i_name 4) (fun _ _ _ _ _ => (G_n 10 sc__law_all_cuts.nd)) (fun _ _ _ _ _ => dts_nil) (fun _ _ _ _ _ => (e_lt (e_abs T.g_abs (e_sub (v 7) (v 10))) (e_ix hr (v 0) de_int)))))))) (ds_one (S_app 4 (v 7))) ds_nil))) (ds_one (d1_retOV (o_sortedA T.g_sorted (v 4)))))))
theorem cal__law_all_cuts {k : Nat} {F : FC} (T : Top K mg) (h : FnOk P w K mg base CX0 k T.a__law_all_cuts T.d__law_all_cuts ["ground", "order", "text"] (spD κ 3 F)) : Cal κ P w K mg base "_law_all_cuts" k 3 F [] := ⟨_, _, _, [], [], h, T.m__law_all_cuts, T.f__law_all_cuts.kp, b__law_all_cuts T, .nil, fun _ _ => .nil⟩
theorem ok__law_text (T : Top K mg) {F__law_draw : FC} {F__law_one_of : FC} (c__law_draw : Cal κ P w K mg base "_law_draw" 2 2 F__law_draw []) (c__law_one_of : Cal κ P w K mg base "_law_one_of" 3 2 F__law_one_of []) {F : FC} (hF : ∀ ds n Q, F ds n Q → ds.length = 3 → rd__law_text F__law_draw F__law_one_of { nx := fun _ m => Q (.val .non) m, rt := fun _ => Q } (startE 6 ds) n) (hk : κ.K = K) : FnOk P w K mg base CX0 (3 + 1) T.a__law_text T.d__law_text ["dice", "ground", "most"] (spD κ 3 F) := by
  subst hk
  refine fn_dl T.f__law_text sc__law_text (fun cdv A outer s H E hr => ?_) hF
  exact (ds_cons (S_tup (dxs_cons (dx_v (DO.fr (o_list T.g_list (e_ix hr (v 1) de_int)))) (dxs_cons (dx_v (c_str [])) dxs_nil)) (X_n 3 sc__law_text.nd (X_n 4 sc__law_text.nd names_nil))) (ds_cons (S_asg 5 sc__law_text.nd (DX.de (dx_call c__law_draw hr (da_cons (v 0) (da_cons (e_add (v 2) de_int) da_nil))))) (ds_cons (S_while (t_lt (e_len T.g_len (v 4)) (v 5)) (ds_cons (S_asg 6 sc__law_text.nd (DX.de (dx_call c__law_draw hr (da_cons (v 0) (da_cons de_int da_nil))))) (ds_one (d1_if (t_eq hr (v 6) de_int) (ds_cons (S_asg 7 sc__law_text.nd (de_join (c_str []) (DO.fr (o_comp [("spin", 8)] sc__law_text.nd (i_r1 T.g_range (e_add de_int (DX.de (dx_call c__law_draw hr (da_cons (v 0) (da_cons (e_ix hr (v 1) de_int) da_nil)))))) (fun _ _ _ _ _ => (G_n 8 sc__law_text.nd)) (fun _ _ _ _ _ => dts_nil) (fun _ _ _ _ _ => (DX.de (dx_call c__law_one_of hr (da_cons (v 0) (da_cons (v 3) da_nil))))))))) (ds_one (S_asg 4 sc__law_text.nd (e_add (v 4) (e_mul (v 7) (e_add de_int (DX.de (dx_call c__law_draw hr (da_cons (v 0) (da_cons de_int da_nil)))))))))) (ds_one (d1_if (t_eq hr (v 6) de_int) (ds_one (S_asg 4 sc__law_text.nd (e_add (v 4) (e_mul (e_ix hr (v 3) de_int) (e_add de_int (DX.de (dx_call c__law_draw hr (da_cons (v 0) (da_cons de_int da_nil))))))))) (ds_one (S_asg 4 sc__law_text.nd (e_add (v 4) (de_join (c_str []) (DO.fr (o_comp [("spin", 8)] sc__law_text.nd (i_r1 T.g_range (e_add de_int (DX.de (dx_call c__law_draw hr (da_cons (v 0) (da_cons de_int da_nil)))))) (fun _ _ _ _ _ => (G_n 8 sc__law_text.nd)) (fun _ _ _ _ _ => dts_nil) (fun _ _ _ _ _ => (DX.de (dx_call c__law_one_of hr (da_cons (v 0) (da_cons (v 3) da_nil))))))))))))))))) (ds_one (d1_ret (e_sl (v 4) dp_none (dp_some (v 5))))))))
theorem cal__law_text {k : Nat} {F : FC} (T : Top K mg) (h : FnOk P w K mg base CX0 k T.a__law_text T.d__law_text ["dice", "ground", "most"] (spD κ 3 F)) : Cal κ P w K mg base "_law_text" k 3 F [] := ⟨_, _, _, [], [], h, T.m__law_text, T.f__law_text.kp, b__law_text T, .nil, fun _ _ => .nil⟩
theorem b_init (T : Top K mg) : Binds K T.d_init ["self", "signs", "gap"] [] := T.f_init.binds fun _ _ _ _ _ _ us hl => match us, hl with | [_, _, _], _ => rfl
theorem ok_init (T : Top K mg) {F_is_count : FC} {F_is_rising : FC} {F_is_text : FC} (c_is_count_1 : Cal κ P w K mg base "is_count" 2 2 F_is_count [.non]) (c_is_rising : Cal κ P w K mg base "is_rising" 1 1 F_is_rising []) (c_is_text : Cal κ P w K mg base "is_text" 1 1 F_is_text []) {cv : CV} (hG : HasGnd κ T.C_Ground cv) (f1 : ∀ s g, OkG s g → ∀ n, rd_init1 F_is_count F_is_rising F_is_text [none, some (.str s), some (.int (g : Nat))] n fun b m => b = false ∧ m = n) (f2 : ∀ s g, OkG s g → ∀ n, rd_init2 F_is_count F_is_rising F_is_text [none, some (.str s), some (.int (g : Nat))] n fun b m => b = false ∧ m = n) (hk : κ.K = K) : FnOk P w K mg base CX0 3 T.a_init T.d_init ["self", "signs", "gap"] (spInitG κ T.C_Ground) := by
  subst hk
  refine T.f_init.ok sc_init (fun vs H Q E h => by obtain ⟨_, _, _, _, _, _, _, rfl, _⟩ := h; rfl) (fun cdv A outer s H vs Q E hr h => ?_)
  obtain ⟨t, p, q⟩ := init_ps (X := (cxOf CX0 P w κ.K mg base ["self", "signs", "gap"] "Ground.__init__" (defScope s_init) T.a_init cdv A outer s H E).nox) T.F_Ground rfl (DW.dt (dw_or (dt_not (dt_tru (DX.de (dx_call c_is_text hr (da_cons (v 1) da_nil))))) (dw_or (t_lt (e_len T.g_len (v 1)) de_int) (dw_or1 (dt_not (dt_tru (DX.de (dx_call c_is_rising hr (da_cons (v 1) da_nil))))))))) (DW.dt (dw_or (dt_not (dt_tru (DX.de (dx_call c_is_count_1 hr (da_cons (v 2) da_nil))))) (dw_or1 (t_lt (v 2) de_int)))) rfl (.inl rfl) (.inl rfl) (.inl rfl) f1 f2
  exact ⟨t, p, q vs H Q E h⟩
theorem ok__law_made (T : Top K mg) {cv : CV} (hG : HasGnd κ T.C_Ground cv) (hI : FnOk P w K mg base CX0 3 T.a_init T.d_init ["self", "signs", "gap"] (spInitG κ T.C_Ground)) {F : FC} (hF : ∀ ds n Q, F ds n Q → ds.length = 1 → rd__law_made { nx := fun _ m => Q (.val .non) m, rt := fun _ => Q } (startE 0 ds) n) (hk : κ.K = K) : FnOk P w K mg base CX0 (4 + 1) T.a__law_made T.d__law_made ["ground"] (spD κ 1 F) := by
  subst hk
  refine fn_dl T.f__law_made sc__law_made (fun cdv A outer s H E hr => ?_) hF
  exact (ds_one (d1_ret (e_mkG hG T.mk_Ground hI (b_init T) T.m_Ground hr (da_cons (e_ix hr (v 0) de_int) (da_cons (e_ix hr (v 0) de_int) da_nil)))))
theorem cal__law_made {k : Nat} {F : FC} (T : Top K mg) (h : FnOk P w K mg base CX0 k T.a__law_made T.d__law_made ["ground"] (spD κ 1 F)) : Cal κ P w K mg base "_law_made" k 1 F [] := ⟨_, _, _, [], [], h, T.m__law_made, T.f__law_made.kp, b__law_made T, .nil, fun _ _ => .nil⟩
theorem ok__law_other_sign (T : Top K mg) {F : FC} (hF : ∀ ds n Q, F ds n Q → ds.length = 1 → rd__law_other_sign { nx := fun _ m => Q (.val .non) m, rt := fun _ => Q } (startE 1 ds) n) (hk : κ.K = K) : FnOk P w K mg base CX0 (0 + 1) T.a__law_other_sign T.d__law_other_sign ["ground"] (spD κ 1 F) := by
  subst hk
  refine fn_dl T.f__law_other_sign sc__law_other_sign (fun cdv A outer s H E hr => ?_) hF
  exact (ds_one (d1_ret (e_ix hr (DO.fr (o_comp [("sign", 1)] sc__law_other_sign.nd (i_seq (DO.fr (o_list T.g_list (c_str [122, 121, 120, 119, 118, 117, 116, 115, 114, 113, 112, 111, 110, 109, 108, 107, 106, 105, 104, 103, 102, 101, 100, 99, 98, 97])))) (fun _ _ _ _ _ => (G_n 1 sc__law_other_sign.nd)) (fun _ _ _ _ _ => (dts_one (t_notIn hr (v 1) (e_ix hr (v 0) de_int)))) (fun _ _ _ _ _ => (v 1)))) de_int)))
theorem cal__law_other_sign {k : Nat} {F : FC} (T : Top K mg) (h : FnOk P w K mg base CX0 k T.a__law_other_sign T.d__law_other_sign ["ground"] (spD κ 1 F)) : Cal κ P w K mg base "_law_other_sign" k 1 F [] := ⟨_, _, _, [], [], h, T.m__law_other_sign, T.f__law_other_sign.kp, b__law_other_sign T, .nil, fun _ _ => .nil⟩
theorem ok__law_drawn_word (T : Top K mg) {F__law_one_of : FC} (c__law_one_of : Cal κ P w K mg base "_law_one_of" 3 2 F__law_one_of []) {F : FC} (hF : ∀ ds n Q, F ds n Q → ds.length = 3 → rd__law_drawn_word F__law_one_of { nx := fun _ m => Q (.val .non) m, rt := fun _ => Q } (startE 1 ds) n) (hk : κ.K = K) : FnOk P w K mg base CX0 (3 + 1) T.a__law_drawn_word T.d__law_drawn_word ["dice", "ground", "size"] (spD κ 3 F) := by
  subst hk
  refine fn_dl T.f__law_drawn_word sc__law_drawn_word (fun cdv A outer s H E hr => ?_) hF
  exact (ds_one (d1_ret (de_join (c_str []) (DO.fr (o_comp [("spin", 3)] sc__law_drawn_word.nd (i_r1 T.g_range (v 2)) (fun _ _ _ _ _ => (G_n 3 sc__law_drawn_word.nd)) (fun _ _ _ _ _ => dts_nil) (fun _ _ _ _ _ => (DX.de (dx_call c__law_one_of hr (da_cons (v 0) (da_cons (DO.fr (o_list T.g_list (e_ix hr (v 1) de_int))) da_nil))))))))))
theorem cal__law_drawn_word {k : Nat} {F : FC} (T : Top K mg) (h : FnOk P w K mg base CX0 k T.a__law_drawn_word T.d__law_drawn_word ["dice", "ground", "size"] (spD κ 3 F)) : Cal κ P w K mg base "_law_drawn_word" k 3 F [] := ⟨_, _, _, [], [], h, T.m__law_drawn_word, T.f__law_drawn_word.kp, b__law_drawn_word T, .nil, fun _ _ => .nil⟩
theorem ok__law_near_at (T : Top K mg) {F : FC} (hF : ∀ ds n Q, F ds n Q → ds.length = 3 → rd__law_near_at { nx := fun _ m => Q (.val .non) m, rt := fun _ => Q } (startE 1 ds) n) (hk : κ.K = K) : FnOk P w K mg base CX0 (0 + 1) T.a__law_near_at T.d__law_near_at ["one", "other", "gap"] (spD κ 3 F) := by
  subst hk
  refine fn_dl T.f__law_near_at sc__law_near_at (fun cdv A outer s H E hr => ?_) hF
  exact (ds_one (d1_retO (o_comp [("space", 3)] sc__law_near_at.nd (i_r2 T.g_range de_int (v 2)) (fun _ _ _ _ _ => (G_n 3 sc__law_near_at.nd)) (fun _ _ _ _ _ => (dts_one (t_eq hr (e_sl (v 0) (dp_some (v 3)) dp_none) (e_sl (v 1) dp_none (dp_some (e_max T.g_max (da_cons de_int (da_cons (e_sub (e_len T.g_len (v 0)) (v 3)) da_nil)))))))) (fun _ _ _ _ _ => (v 3)))))
theorem cal__law_near_at {k : Nat} {F : FC} (T : Top K mg) (h : FnOk P w K mg base CX0 k T.a__law_near_at T.d__law_near_at ["one", "other", "gap"] (spD κ 3 F)) : Cal κ P w K mg base "_law_near_at" k 3 F [] := ⟨_, _, _, [], [], h, T.m__law_near_at, T.f__law_near_at.kp, b__law_near_at T, .nil, fun _ _ => .nil⟩
theorem ok__law_seen (T : Top K mg) {F : FC} (hF : ∀ ds n Q, F ds n Q → ds.length = 5 → rd__law_seen { nx := fun _ m => Q (.val .non) m, rt := fun _ => Q } (startE 2 ds) n) (hk : κ.K = K) : FnOk P w K mg base CX0 (0 + 1) T.a__law_seen T.d__law_seen ["ground", "text", "width", "at", "place"] (spD κ 5 F) := by
  subst hk
  refine fn_dl T.f__law_seen sc__law_seen (fun cdv A outer s H E hr => ?_) hF
  exact (ds_cons (S_asg 5 sc__law_seen.nd (e_mul (e_ix hr (e_ix hr (v 0) de_int) de_int) (e_add (v 2) (e_mul de_int (e_ix hr (v 0) de_int))))) (ds_cons (S_asg 6 sc__law_seen.nd (e_add (e_sub (v 4) (v 3)) (e_len T.g_len (v 5)))) (ds_one (d1_ret (e_sl (e_add (e_add (v 5) (v 1)) (v 5)) (dp_some (v 6)) (dp_some (e_add (v 6) (v 2))))))))
theorem cal__law_seen {k : Nat} {F : FC} (T : Top K mg) (h : FnOk P w K mg base CX0 k T.a__law_seen T.d__law_seen ["ground", "text", "width", "at", "place"] (spD κ 5 F)) : Cal κ P w K mg base "_law_seen" k 5 F [] := ⟨_, _, _, [], [], h, T.m__law_seen, T.f__law_seen.kp, b__law_seen T, .nil, fun _ _ => .nil⟩
theorem ok__law_marked (T : Top K mg) {F__law_seen : FC} (c__law_seen : Cal κ P w K mg base "_law_seen" 1 5 F__law_seen []) {F : FC} (hF : ∀ ds n Q, F ds n Q → ds.length = 5 → rd__law_marked F__law_seen { nx := fun _ m => Q (.val .non) m, rt := fun _ => Q } (startE 2 ds) n) (hk : κ.K = K) : FnOk P w K mg base CX0 (1 + 1) T.a__law_marked T.d__law_marked ["ground", "rule", "text", "first", "last"] (spD κ 5 F) := by
  subst hk
  refine fn_dl T.f__law_marked sc__law_marked (fun cdv A outer s H E hr => ?_) hF
  exact (ds_cons (S_asg 5 sc__law_marked.nd (e_len T.g_len (e_ix hr (e_ix hr (v 1) de_int) de_int))) (ds_one (d1_retO (o_comp [("place", 6)] sc__law_marked.nd (i_r2 T.g_range (v 3) (e_add (v 4) de_int)) (fun _ _ _ _ _ => (G_n 6 sc__law_marked.nd)) (fun _ _ _ _ _ => (dts_one (t_in hr (DX.de (dx_call c__law_seen hr (da_cons (v 0) (da_cons (v 2) (da_cons (v 5) (da_cons (e_ix hr (v 1) de_int) (da_cons (v 6) da_nil))))))) (e_ix hr (v 1) de_int)))) (fun _ _ _ _ _ => (v 6))))))
theorem cal__law_marked {k : Nat} {F : FC} (T : Top K mg) (h : FnOk P w K mg base CX0 k T.a__law_marked T.d__law_marked ["ground", "rule", "text", "first", "last"] (spD κ 5 F)) : Cal κ P w K mg base "_law_marked" k 5 F [] := ⟨_, _, _, [], [], h, T.m__law_marked, T.f__law_marked.kp, b__law_marked T, .nil, fun _ _ => .nil⟩
theorem ok__law_is_apart (T : Top K mg) {F__law_near_at : FC} (c__law_near_at : Cal κ P w K mg base "_law_near_at" 1 3 F__law_near_at []) {F : FC} (hF : ∀ ds n Q, F ds n Q → ds.length = 2 → rd__law_is_apart F__law_near_at { nx := fun _ m => Q (.val .non) m, rt := fun _ => Q } (startE 2 ds) n) (hk : κ.K = K) : FnOk P w K mg base CX0 (1 + 1) T.a__law_is_apart T.d__law_is_apart ["words", "gap"] (spD κ 2 F) := by
  subst hk
  refine fn_dl T.f__law_is_apart sc__law_is_apart (fun cdv A outer s H E hr => ?_) hF
  exact (ds_one (d1_ret (de_not (e_any T.g_any (DO.fr (o_comp [("one", 2)] sc__law_is_apart.nd (i_name 0) (fun _ _ _ _ _ => (G_n 2 sc__law_is_apart.nd)) (fun _ _ _ _ _ => dts_nil) (fun _ _ _ _ _ => (e_any T.g_any (DO.fr (o_comp [("other", 3)] sc__law_is_apart.nd (i_name 0) (fun _ _ _ _ _ => (G_n 3 sc__law_is_apart.nd)) (fun _ _ _ _ _ => dts_nil) (fun _ _ _ _ _ => (e_ne hr (DX.de (dx_call c__law_near_at hr (da_cons (v 2) (da_cons (v 3) (da_cons (v 1) da_nil))))) (DO.fr (do_lst da_nil))))))))))))))
theorem cal__law_is_apart {k : Nat} {F : FC} (T : Top K mg) (h : FnOk P w K mg base CX0 k T.a__law_is_apart T.d__law_is_apart ["words", "gap"] (spD κ 2 F)) : Cal κ P w K mg base "_law_is_apart" k 2 F [] := ⟨_, _, _, [], [], h, T.m__law_is_apart, T.f__law_is_apart.kp, b__law_is_apart T, .nil, fun _ _ => .nil⟩
theorem ok__law_drawn_rule (T : Top K mg) {F__law_draw : FC} {F__law_drawn_word : FC} {F__law_is_apart : FC} (c__law_draw : Cal κ P w K mg base "_law_draw" 2 2 F__law_draw []) (c__law_drawn_word : Cal κ P w K mg base "_law_drawn_word" 4 3 F__law_drawn_word []) (c__law_is_apart : Cal κ P w K mg base "_law_is_apart" 2 2 F__law_is_apart []) {F : FC} (hF : ∀ ds n Q, F ds n Q → ds.length = 3 → rd__law_drawn_rule F__law_draw F__law_drawn_word F__law_is_apart { nx := fun _ m => Q (.val .non) m, rt := fun _ => Q } (startE 5 ds) n) (hk : κ.K = K) : FnOk P w K mg base CX0 (4 + 1) T.a__law_drawn_rule T.d__law_drawn_rule ["dice", "ground", "most"] (spD κ 3 F) := by
  subst hk
  refine fn_dl T.f__law_drawn_rule sc__law_drawn_rule (fun cdv A outer s H E hr => ?_) hF
  exact (ds_cons (S_asg 3 sc__law_drawn_rule.nd (e_add de_int (DX.de (dx_call c__law_draw hr (da_cons (v 0) (da_cons (v 2) da_nil)))))) (ds_cons (S_lcF 4 [("spin", 7)] sc__law_drawn_rule.nd (i_r1 T.g_range (e_add de_int (DX.de (dx_call c__law_draw hr (da_cons (v 0) (da_cons de_int da_nil)))))) (fun _ _ _ _ _ => (G_n 7 sc__law_drawn_rule.nd)) (fun _ _ _ _ _ => dts_nil) (fun _ _ _ _ _ => (DX.de (dx_call c__law_drawn_word hr (da_cons (v 0) (da_cons (v 1) (da_cons (v 3) da_nil))))))) (ds_cons (d1_if (t_eq hr (DX.de (dx_call c__law_draw hr (da_cons (v 0) (da_cons de_int da_nil)))) de_int) (ds_cons (S_asg 5 sc__law_drawn_rule.nd (DO.fr (do_lst da_nil))) (ds_cons (S_for (i_name 4) (N_n 6 sc__law_drawn_rule.nd) (ds_one (S_asg 5 sc__law_drawn_rule.nd (e_add (v 5) (e_mulL (DO.fr (do_lst (da_cons (v 6) da_nil))) (e_int T.g_int (DX.de (dx_call c__law_is_apart hr (da_cons (e_add (v 5) (DO.fr (do_lst (da_cons (v 6) da_nil)))) (da_cons (e_ix hr (v 1) de_int) da_nil)))))))))) (ds_one (S_asg 4 sc__law_drawn_rule.nd (de_if (dt_tru (v 5)) (v 5) (v 4)))))) ds_nil) (ds_one (d1_ret (de_tup (da_cons (DO.fr (o_sortedD T.g_sorted (E_dictP T.g_dict (DO.fr (o_comp [("word", 6)] sc__law_drawn_rule.nd (i_name 4) (fun _ _ _ _ _ => (G_n 6 sc__law_drawn_rule.nd)) (fun _ _ _ _ _ => dts_nil) (fun _ _ _ _ _ => (de_tup (da_cons (v 6) (da_cons de_bl da_nil))))))))) (da_cons (DX.de (dx_call c__law_draw hr (da_cons (v 0) (da_cons (e_add (v 3) de_int) da_nil)))) da_nil))))))))
theorem cal__law_drawn_rule {k : Nat} {F : FC} (T : Top K mg) (h : FnOk P w K mg base CX0 k T.a__law_drawn_rule T.d__law_drawn_rule ["dice", "ground", "most"] (spD κ 3 F)) : Cal κ P w K mg base "_law_drawn_rule" k 3 F [] := ⟨_, _, _, [], [], h, T.m__law_drawn_rule, T.f__law_drawn_rule.kp, b__law_drawn_rule T, .nil, fun _ _ => .nil⟩
theorem ok__law_misses (T : Top K mg) {F__law_marked : FC} {F__law_repeats : FC} {F__law_window : FC} (c__law_marked : Cal κ P w K mg base "_law_marked" 2 5 F__law_marked []) (c__law_repeats : Cal κ P w K mg base "_law_repeats" 1 2 F__law_repeats []) (c__law_window : Cal κ P w K mg base "_law_window" 1 3 F__law_window []) {F : FC} (hF : ∀ ds n Q, F ds n Q → ds.length = 3 → rd__law_misses F__law_marked F__law_repeats F__law_window { nx := fun _ m => Q (.val .non) m, rt := fun _ => Q } (startE 3 ds) n) (hk : κ.K = K) : FnOk P w K mg base CX0 (2 + 1) T.a__law_misses T.d__law_misses ["ground", "rule", "value"] (spD κ 3 F) := by
  subst hk
  refine fn_dl T.f__law_misses sc__law_misses (fun cdv A outer s H E hr => ?_) hF
  exact (ds_cons (d1_if (DW.dt (dw_or (dt_not (dt_val (e_isi .tuple T.g_isinstance T.g_tuple (v 2)))) (dw_or (t_ne hr (e_len T.g_len (v 2)) de_int) (dw_or (dt_not (dt_val (e_isi .str T.g_isinstance T.g_str (e_ix hr (v 2) de_int)))) (dw_or1 (dt_not (dt_val (e_all T.g_all (DO.fr (o_comp [("sign", 5)] sc__law_misses.nd (i_seq (DO.fr (o_list T.g_list (e_ix hr (v 2) de_int)))) (fun _ _ _ _ _ => (G_n 5 sc__law_misses.nd)) (fun _ _ _ _ _ => dts_nil) (fun _ _ _ _ _ => (e_in hr (v 5) (DO.fr (o_list T.g_list (e_ix hr (v 0) de_int))))))))))))))) (ds_one (d1_ret de_bl)) ds_nil) (ds_cons (d1_unp (v 2) (N_t (sds_cons (N_n 3 sc__law_misses.nd) (sds_cons (N_n 4 sc__law_misses.nd) sds_nil)))) (ds_cons (d1_if (DW.dt (dw_or (dt_not (dt_val (e_isi .int T.g_isinstance T.g_int (v 4)))) (dw_or (dt_val (e_isi .bool T.g_isinstance T.g_bool (v 4))) (dw_or1 (dt_not (t_chain cr_le cr_le de_int (v 4) (e_len T.g_len (v 3)))))))) (ds_one (d1_ret de_bl)) ds_nil) (ds_cons (d1_if (dt_tru (DX.de (dx_call c__law_repeats hr (da_cons (DX.de (dx_call c__law_window hr (da_cons (v 0) (da_cons (v 3) (da_cons (v 4) da_nil))))) (da_cons (e_ix hr (v 0) de_int) da_nil))))) (ds_one (d1_ret de_bl)) ds_nil) (ds_one (d1_ret (e_eq hr (DX.de (dx_call c__law_marked hr (da_cons (v 0) (da_cons (v 1) (da_cons (v 3) (da_cons (e_add (e_sub (v 4) (e_ix hr (v 0) de_int)) de_int) (da_cons (e_sub (e_add (v 4) (e_ix hr (v 0) de_int)) de_int) da_nil))))))) (DO.fr (do_lst da_nil)))))))))
theorem cal__law_misses {k : Nat} {F : FC} (T : Top K mg) (h : FnOk P w K mg base CX0 k T.a__law_misses T.d__law_misses ["ground", "rule", "value"] (spD κ 3 F)) : Cal κ P w K mg base "_law_misses" k 3 F [] := ⟨_, _, _, [], [], h, T.m__law_misses, T.f__law_misses.kp, b__law_misses T, .nil, fun _ _ => .nil⟩
theorem ok__law_misses_some (T : Top K mg) {F__law_repeats : FC} {F__law_words_of : FC} (c__law_repeats : Cal κ P w K mg base "_law_repeats" 1 2 F__law_repeats []) (c__law_words_of : Cal κ P w K mg base "_law_words_of" 1 2 F__law_words_of []) {F : FC} (hF : ∀ ds n Q, F ds n Q → ds.length = 2 → rd__law_misses_some F__law_repeats F__law_words_of { nx := fun _ m => Q (.val .non) m, rt := fun _ => Q } (startE 4 ds) n) (hk : κ.K = K) : FnOk P w K mg base CX0 (1 + 1) T.a__law_misses_some T.d__law_misses_some ["ground", "rule"] (spD κ 2 F) := by
  subst hk
  refine fn_dl T.f__law_misses_some sc__law_misses_some (fun cdv A outer s H E hr => ?_) hF
  exact (ds_cons (S_tup (dxs_cons (dx_v (e_len T.g_len (e_ix hr (e_ix hr (v 1) de_int) de_int))) (dxs_cons (dx_v (e_sub (e_mul de_int (e_ix hr (v 0) de_int)) de_int)) dxs_nil)) (X_n 2 sc__law_misses_some.nd (X_n 3 sc__law_misses_some.nd names_nil))) (ds_cons (S_for (i_seq (DX.de (dx_call c__law_words_of hr (da_cons (e_ix hr (v 0) de_int) (da_cons (e_add (v 2) (v 3)) da_nil))))) (N_n 4 sc__law_misses_some.nd) (ds_one (d1_if (dt_not (dt_tru (DX.de (dx_call c__law_repeats hr (da_cons (e_sl (v 4) (dp_some (e_ix hr (v 1) de_int)) (dp_some (e_add (e_ix hr (v 1) de_int) (v 3)))) (da_cons (e_ix hr (v 0) de_int) da_nil)))))) (ds_one (d1_if (dt_not (dt_val (e_any T.g_any (DO.fr (o_comp [("at", 5)] sc__law_misses_some.nd (i_r1 T.g_range (e_add (v 3) de_int)) (fun _ _ _ _ _ => (G_n 5 sc__law_misses_some.nd)) (fun _ _ _ _ _ => dts_nil) (fun _ _ _ _ _ => (e_in hr (e_sl (v 4) (dp_some (v 5)) (dp_some (e_add (v 5) (v 2)))) (e_ix hr (v 1) de_int)))))))) (ds_one (d1_ret de_bl)) ds_nil)) ds_nil))) (ds_one (d1_ret de_bl))))
theorem cal__law_misses_some {k : Nat} {F : FC} (T : Top K mg) (h : FnOk P w K mg base CX0 k T.a__law_misses_some T.d__law_misses_some ["ground", "rule"] (spD κ 2 F)) : Cal κ P w K mg base "_law_misses_some" k 2 F [] := ⟨_, _, _, [], [], h, T.m__law_misses_some, T.f__law_misses_some.kp, b__law_misses_some T, .nil, fun _ _ => .nil⟩
theorem ok__law_near_rule (T : Top K mg) {F__law_all_cuts : FC} {F__law_draw : FC} {F__law_drawn_rule : FC} {F__law_drawn_word : FC} {F__law_words_of : FC} (c__law_all_cuts : Cal κ P w K mg base "_law_all_cuts" 3 3 F__law_all_cuts []) (c__law_draw : Cal κ P w K mg base "_law_draw" 2 2 F__law_draw []) (c__law_drawn_rule : Cal κ P w K mg base "_law_drawn_rule" 5 3 F__law_drawn_rule []) (c__law_drawn_word : Cal κ P w K mg base "_law_drawn_word" 4 3 F__law_drawn_word []) (c__law_words_of : Cal κ P w K mg base "_law_words_of" 1 2 F__law_words_of []) {F : FC} (hF : ∀ ds n Q, F ds n Q → ds.length = 2 → rd__law_near_rule F__law_all_cuts F__law_draw F__law_drawn_rule F__law_drawn_word F__law_words_of { nx := fun _ m => Q (.val .non) m, rt := fun _ => Q } (startE 9 ds) n) (hk : κ.K = K) : FnOk P w K mg base CX0 (5 + 1) T.a__law_near_rule T.d__law_near_rule ["dice", "ground"] (spD κ 2 F) := by
  subst hk
  refine fn_dl T.f__law_near_rule sc__law_near_rule (fun cdv A outer s H E hr => ?_) hF
  exact (ds_cons (d1_if (DW.dt (dw_or (t_gt (e_len T.g_len (e_ix hr (v 1) de_int)) de_int) (dw_or (t_gt (e_ix hr (v 1) de_int) de_int) (dw_or1 (t_eq hr (DX.de (dx_call c__law_draw hr (da_cons (v 0) (da_cons de_int da_nil)))) de_int))))) (ds_one (d1_ret (DX.de (dx_call c__law_drawn_rule hr (da_cons (v 0) (da_cons (v 1) (da_cons (de_if (t_gt (e_len T.g_len (e_ix hr (v 1) de_int)) de_int) de_int de_int) da_nil))))))) ds_nil) (ds_cons (S_par 2 3 sc__law_near_rule.nd (dxs_cons (dx_v (e_add (e_ix hr (e_ix hr (v 1) de_int) de_int) (e_ix hr (e_ix hr (v 1) de_int) de_int))) (dxs_cons (dx_v (e_add (e_ix hr (e_ix hr (v 1) de_int) de_int) (e_ix hr (e_ix hr (v 1) de_int) de_int))) dxs_nil))) (ds_cons (S_asg 4 sc__law_near_rule.nd (de_if (t_eq hr (DX.de (dx_call c__law_draw hr (da_cons (v 0) (da_cons de_int da_nil)))) de_int) (DO.fr (do_lst (da_cons (v 2) (da_cons (v 3) da_nil)))) (DO.fr (do_lst (da_cons (v 3) (da_cons (v 2) da_nil)))))) (ds_cons (S_lcF 5 [("word", 9)] sc__law_near_rule.nd (i_seq (DX.de (dx_call c__law_words_of hr (da_cons (e_ix hr (v 1) de_int) (da_cons de_int da_nil))))) (fun _ _ _ _ _ => (G_n 9 sc__law_near_rule.nd)) (fun _ _ _ _ _ => (dts_one (t_in hr de_int (DX.de (dx_call c__law_all_cuts hr (da_cons (v 1) (da_cons (v 4) (da_cons (v 9) da_nil)))))))) (fun _ _ _ _ _ => (v 9))) (ds_cons (S_par 6 7 sc__law_near_rule.nd (dxs_cons (dx_v (DX.de (dx_call c__law_draw hr (da_cons (v 0) (da_cons de_int da_nil))))) (dxs_cons (dx_v (DX.de (dx_call c__law_draw hr (da_cons (v 0) (da_cons (e_len T.g_len (v 5)) da_nil))))) dxs_nil))) (ds_cons (d1_if (t_eq hr (v 6) de_int) (ds_one (S_asg 5 sc__law_near_rule.nd (e_add (e_sl (v 5) dp_none (dp_some (v 7))) (e_sl (v 5) (dp_some (e_add (v 7) de_int)) dp_none)))) ds_nil) (ds_cons (d1_if (t_eq hr (v 6) de_int) (ds_one (S_asg 5 sc__law_near_rule.nd (DO.fr (o_sortedD T.g_sorted (E_dictP T.g_dict (DO.fr (o_comp [("word", 9)] sc__law_near_rule.nd (i_seq (e_add (v 5) (DO.fr (do_lst (da_cons (DX.de (dx_call c__law_drawn_word hr (da_cons (v 0) (da_cons (v 1) (da_cons de_int da_nil))))) da_nil))))) (fun _ _ _ _ _ => (G_n 9 sc__law_near_rule.nd)) (fun _ _ _ _ _ => dts_nil) (fun _ _ _ _ _ => (de_tup (da_cons (v 9) (da_cons de_bl da_nil))))))))))) ds_nil) (ds_cons (d1_if (t_eq hr (v 6) de_int) (ds_one (S_asg 5 sc__law_near_rule.nd (DO.fr (o_sortedA T.g_sorted (e_sumL T.g_sum (da_cons (DO.fr (o_comp [("word", 9)] sc__law_near_rule.nd (i_name 5) (fun _ _ _ _ _ => (G_n 9 sc__law_near_rule.nd)) (fun _ _ _ _ _ => dts_nil) (fun _ _ _ _ _ => (DO.fr (o_comp [("sign", 10)] sc__law_near_rule.nd (i_seq (DO.fr (o_list T.g_list (e_ix hr (v 1) de_int)))) (fun _ _ _ _ _ => (G_n 10 sc__law_near_rule.nd)) (fun _ _ _ _ _ => dts_nil) (fun _ _ _ _ _ => (e_add (v 9) (v 10)))))))) (da_cons (DO.fr (do_lst da_nil)) da_nil))))))) ds_nil) (ds_cons (d1_if (t_eq hr (v 6) de_int) (ds_one (d1_ret (de_tup (da_cons (DO.fr (o_sortedA T.g_sorted (e_sumL T.g_sum (da_cons (DO.fr (o_comp [("word", 9)] sc__law_near_rule.nd (i_name 5) (fun _ _ _ _ _ => (G_n 9 sc__law_near_rule.nd)) (fun _ _ _ _ _ => dts_nil) (fun _ _ _ _ _ => (DO.fr (o_comp [("sign", 10)] sc__law_near_rule.nd (i_seq (DO.fr (o_list T.g_list (e_ix hr (v 1) de_int)))) (fun _ _ _ _ _ => (G_n 10 sc__law_near_rule.nd)) (fun _ _ _ _ _ => dts_nil) (fun _ _ _ _ _ => (e_add (v 10) (v 9)))))))) (da_cons (DO.fr (do_lst da_nil)) da_nil))))) (da_cons de_int da_nil))))) ds_nil) (ds_cons (d1_if (t_gt (v 6) de_int) (ds_cons (S_asg 8 sc__law_near_rule.nd (de_if (t_eq hr (v 6) de_int) (e_sumL T.g_sum (da_cons (DO.fr (o_comp [("word", 9)] sc__law_near_rule.nd (i_name 5) (fun _ _ _ _ _ => (G_n 9 sc__law_near_rule.nd)) (fun _ _ _ _ _ => dts_nil) (fun _ _ _ _ _ => (DO.fr (o_comp [("sign", 10)] sc__law_near_rule.nd (i_seq (DO.fr (o_list T.g_list (e_ix hr (v 1) de_int)))) (fun _ _ _ _ _ => (G_n 10 sc__law_near_rule.nd)) (fun _ _ _ _ _ => dts_nil) (fun _ _ _ _ _ => (e_add (v 9) (v 10)))))))) (da_cons (DO.fr (do_lst da_nil)) da_nil))) (v 5))) (ds_cons (S_asg 8 sc__law_near_rule.nd (DO.fr (o_sortedA T.g_sorted (e_sumL T.g_sum (da_cons (DO.fr (o_comp [("word", 9)] sc__law_near_rule.nd (i_name 8) (fun _ _ _ _ _ => (G_n 9 sc__law_near_rule.nd)) (fun _ _ _ _ _ => dts_nil) (fun _ _ _ _ _ => (DO.fr (o_comp [("sign", 10)] sc__law_near_rule.nd (i_seq (DO.fr (o_list T.g_list (e_ix hr (v 1) de_int)))) (fun _ _ _ _ _ => (G_n 10 sc__law_near_rule.nd)) (fun _ _ _ _ _ => dts_nil) (fun _ _ _ _ _ => (e_add (v 10) (v 9)))))))) (da_cons (DO.fr (do_lst da_nil)) da_nil)))))) (ds_cons (S_asg 7 sc__law_near_rule.nd (DX.de (dx_call c__law_draw hr (da_cons (v 0) (da_cons (e_len T.g_len (v 8)) da_nil))))) (ds_cons (d1_if (t_eq hr (DX.de (dx_call c__law_draw hr (da_cons (v 0) (da_cons de_int da_nil)))) de_int) (ds_one (d1_ret (de_tup (da_cons (e_add (e_sl (v 8) dp_none (dp_some (v 7))) (e_sl (v 8) (dp_some (e_add (v 7) de_int)) dp_none)) (da_cons de_int da_nil))))) ds_nil) (ds_one (d1_ret (de_tup (da_cons (DO.fr (o_sortedD T.g_sorted (E_dictP T.g_dict (DO.fr (o_comp [("word", 9)] sc__law_near_rule.nd (i_seq (e_add (v 8) (DO.fr (do_lst (da_cons (DX.de (dx_call c__law_drawn_word hr (da_cons (v 0) (da_cons (v 1) (da_cons (e_len T.g_len (e_ix hr (v 8) de_int)) da_nil))))) da_nil))))) (fun _ _ _ _ _ => (G_n 9 sc__law_near_rule.nd)) (fun _ _ _ _ _ => dts_nil) (fun _ _ _ _ _ => (de_tup (da_cons (v 9) (da_cons de_bl da_nil))))))))) (da_cons de_int da_nil))))))))) ds_nil) (ds_one (d1_ret (de_tup (da_cons (v 5) (da_cons de_int da_nil)))))))))))))))
theorem cal__law_near_rule {k : Nat} {F : FC} (T : Top K mg) (h : FnOk P w K mg base CX0 k T.a__law_near_rule T.d__law_near_rule ["dice", "ground"] (spD κ 2 F)) : Cal κ P w K mg base "_law_near_rule" k 2 F [] := ⟨_, _, _, [], [], h, T.m__law_near_rule, T.f__law_near_rule.kp, b__law_near_rule T, .nil, fun _ _ => .nil⟩
theorem ok__law_rule_right (T : Top K mg) {F__law_exact : FC} {F__law_is_apart : FC} {F__law_misses : FC} {F__law_misses_some : FC} {F_is_missed : FC} {F_is_whole_rules : FC} {F_missed : FC} (c__law_exact : Cal κ P w K mg base "_law_exact" 8 2 F__law_exact []) (c__law_is_apart : Cal κ P w K mg base "_law_is_apart" 2 2 F__law_is_apart []) (c__law_misses : Cal κ P w K mg base "_law_misses" 3 3 F__law_misses []) (c__law_misses_some : Cal κ P w K mg base "_law_misses_some" 2 2 F__law_misses_some []) (c_is_missed : Cal κ P w K mg base "is_missed" 6 3 F_is_missed []) (c_is_whole_rules : Cal κ P w K mg base "is_whole_rules" 6 2 F_is_whole_rules []) (c_missed : Cal κ P w K mg base "missed" 6 2 F_missed []) {F : FC} (hF : ∀ ds n Q, F ds n Q → ds.length = 4 → rd__law_rule_right F__law_exact F__law_is_apart F__law_misses F__law_misses_some F_is_missed F_is_whole_rules F_missed { nx := fun _ m => Q (.val .non) m, rt := fun _ => Q } (startE 2 ds) n) (hk : κ.K = K) : FnOk P w K mg base CX0 (8 + 1) T.a__law_rule_right T.d__law_rule_right ["dice", "made", "ground", "rule"] (spD κ 4 F) := by
  subst hk
  refine fn_dl T.f__law_rule_right sc__law_rule_right (fun cdv A outer s H E hr => ?_) hF
  exact (ds_cons (S_asg 4 sc__law_rule_right.nd (DX.de (dx_call c__law_misses_some hr (da_cons (v 2) (da_cons (v 3) da_nil))))) (ds_cons (d1_if (dt_not (dt_tru (DX.de (dx_call c__law_exact hr (da_cons (DX.de (dx_call c_is_whole_rules hr (da_cons (v 1) (da_cons (v 3) da_nil)))) (da_cons (de_and (DX.de (dx_call c__law_is_apart hr (da_cons (e_ix hr (v 3) de_int) (da_cons (e_ix hr (v 2) de_int) da_nil)))) (de_one (de_not (v 4)))) da_nil)))))) (ds_one (d1_ret de_bl)) ds_nil) (ds_cons (S_asg 5 sc__law_rule_right.nd (DX.de (dx_call c_missed hr (da_cons (v 1) (da_cons (v 3) da_nil))))) (ds_cons (d1_if (DW.dt (dw_or (t_isN (v 5) de_non) (dw_or1 (dt_not (dt_tru (v 4)))))) (ds_one (d1_ret (de_and (e_isN (v 5) de_non) (de_one (de_not (v 4)))))) ds_nil) (ds_cons (d1_if (DW.dt (dw_or (dt_not (dt_tru (DX.de (dx_call c__law_misses hr (da_cons (v 2) (da_cons (v 3) (da_cons (v 5) da_nil))))))) (dw_or1 (t_gt (e_len T.g_len (e_ix hr (v 5) de_int)) (e_sub (e_add (e_len T.g_len (e_ix hr (e_ix hr (v 3) de_int) de_int)) (e_mul de_int (e_ix hr (v 2) de_int))) de_int))))) (ds_one (d1_ret de_bl)) ds_nil) (ds_one (d1_ret (e_isB (DX.de (dx_call c_is_missed hr (da_cons (v 1) (da_cons (v 3) (da_cons (v 5) da_nil))))) de_bl))))))))
theorem cal__law_rule_right {k : Nat} {F : FC} (T : Top K mg) (h : FnOk P w K mg base CX0 k T.a__law_rule_right T.d__law_rule_right ["dice", "made", "ground", "rule"] (spD κ 4 F)) : Cal κ P w K mg base "_law_rule_right" k 4 F [] := ⟨_, _, _, [], [], h, T.m__law_rule_right, T.f__law_rule_right.kp, b__law_rule_right T, .nil, fun _ _ => .nil⟩
theorem ok__law_judged_right (T : Top K mg) {F__law_drawn_word : FC} {F__law_exact : FC} {F__law_made : FC} {F__law_misses : FC} {F__law_one_of : FC} {F__law_other_sign : FC} {F__law_text : FC} {F_is_missed : FC} (c__law_drawn_word : Cal κ P w K mg base "_law_drawn_word" 4 3 F__law_drawn_word []) (c__law_exact : Cal κ P w K mg base "_law_exact" 8 2 F__law_exact []) (c__law_made : Cal κ P w K mg base "_law_made" 5 1 F__law_made []) (c__law_misses : Cal κ P w K mg base "_law_misses" 3 3 F__law_misses []) (c__law_one_of : Cal κ P w K mg base "_law_one_of" 3 2 F__law_one_of []) (c__law_other_sign : Cal κ P w K mg base "_law_other_sign" 1 1 F__law_other_sign []) (c__law_text : Cal κ P w K mg base "_law_text" 4 3 F__law_text []) (c_is_missed : Cal κ P w K mg base "is_missed" 6 3 F_is_missed []) {F : FC} (hF : ∀ ds n Q, F ds n Q → ds.length = 4 → rd__law_judged_right F__law_drawn_word F__law_exact F__law_made F__law_misses F__law_one_of F__law_other_sign F__law_text F_is_missed { nx := fun _ m => Q (.val .non) m, rt := fun _ => Q } (startE 6 ds) n) (hk : κ.K = K) : FnOk P w K mg base CX0 (8 + 1) T.a__law_judged_right T.d__law_judged_right ["dice", "made", "ground", "rule"] (spD κ 4 F) := by
  subst hk
  refine fn_dl T.f__law_judged_right sc__law_judged_right (fun cdv A outer s H E hr => ?_) hF
  exact (ds_cons (S_tup (dxs_cons (dx_v (e_add (DX.de (dx_call c__law_text hr (da_cons (v 0) (da_cons (v 2) (da_cons de_int da_nil))))) (DX.de (dx_call c__law_drawn_word hr (da_cons (v 0) (da_cons (v 2) (da_cons de_int da_nil))))))) (dxs_cons (dx_v (DX.de (dx_call c__law_other_sign hr (da_cons (v 2) da_nil)))) dxs_nil)) (X_n 4 sc__law_judged_right.nd (X_n 5 sc__law_judged_right.nd names_nil))) (ds_cons (S_asg 6 sc__law_judged_right.nd (e_add (DO.fr (o_comp [("place", 8)] sc__law_judged_right.nd (i_r2 T.g_range (de_neg (e_ix hr (v 2) de_int)) (e_add (e_add (e_len T.g_len (v 4)) (e_ix hr (v 2) de_int)) de_int)) (fun _ _ _ _ _ => (G_n 8 sc__law_judged_right.nd)) (fun _ _ _ _ _ => dts_nil) (fun _ _ _ _ _ => (de_tup (da_cons (v 4) (da_cons (v 8) da_nil)))))) (DO.fr (do_lst (da_cons (de_tup (da_cons (v 4) (da_cons de_non da_nil))) (da_cons (de_tup (da_cons (v 4) (da_cons (c_str [49]) da_nil))) (da_cons (de_tup (da_cons (v 4) (da_cons de_bl da_nil))) (da_cons (de_tup (da_cons (v 4) (da_cons de_bl da_nil))) (da_cons (DO.fr (do_lst (da_cons (v 4) (da_cons de_int da_nil)))) (da_cons (de_tup (da_cons de_non (da_cons de_int da_nil))) da_nil)))))))))) (ds_cons (S_asg 6 sc__law_judged_right.nd (e_add (v 6) (DO.fr (do_lst (da_cons (de_tup (da_cons (v 4) da_nil)) (da_cons (de_tup (da_cons (v 4) (da_cons de_int (da_cons de_int da_nil)))) (da_cons (de_tup (da_cons (e_add (v 4) (v 5)) (da_cons de_int da_nil))) (da_cons (de_tup (da_cons (e_add (v 5) (v 4)) (da_cons de_int da_nil))) (da_cons (v 4) (da_cons de_non (da_cons de_int (da_cons (de_tup da_nil) (da_cons e_dct0 (da_cons (de_tup (da_cons (c_str []) (da_cons de_int da_nil))) (da_cons (de_tup (da_cons (e_ix hr (v 2) de_int) (da_cons de_int da_nil))) (da_cons (de_tup (da_cons (e_ix hr (v 2) de_int) (da_cons (DO.fr (do_lst (da_cons de_int da_nil))) da_nil))) da_nil)))))))))))))))) (ds_cons (S_asg 7 sc__law_judged_right.nd (DX.de (dx_call c__law_one_of hr (da_cons (v 0) (da_cons (v 6) da_nil))))) (ds_cons (d1_if (dt_not (dt_tru (DX.de (dx_call c__law_exact hr (da_cons (DX.de (dx_call c_is_missed hr (da_cons (DX.de (dx_call c__law_made hr (da_cons (v 2) da_nil))) (da_cons (v 3) (da_cons (v 7) da_nil))))) (da_cons (DX.de (dx_call c__law_misses hr (da_cons (v 2) (da_cons (v 3) (da_cons (v 7) da_nil))))) da_nil)))))) (ds_one (d1_ret de_bl)) ds_nil) (ds_one (d1_ret (e_all T.g_all (DO.fr (o_comp [("thing", 9)] sc__law_judged_right.nd (i_name 6) (fun _ _ _ _ _ => (G_n 9 sc__law_judged_right.nd)) (fun _ _ _ _ _ => dts_nil) (fun _ _ _ _ _ => (DX.de (dx_call c__law_exact hr (da_cons (DX.de (dx_call c_is_missed hr (da_cons (v 1) (da_cons (v 3) (da_cons (v 9) da_nil))))) (da_cons (DX.de (dx_call c__law_misses hr (da_cons (v 2) (da_cons (v 3) (da_cons (v 9) da_nil))))) da_nil)))))))))))))))
theorem cal__law_judged_right {k : Nat} {F : FC} (T : Top K mg) (h : FnOk P w K mg base CX0 k T.a__law_judged_right T.d__law_judged_right ["dice", "made", "ground", "rule"] (spD κ 4 F)) : Cal κ P w K mg base "_law_judged_right" k 4 F [] := ⟨_, _, _, [], [], h, T.m__law_judged_right, T.f__law_judged_right.kp, b__law_judged_right T, .nil, fun _ _ => .nil⟩
theorem ok_law (T : Top K mg) {F__law_dices : FC} {F__law_draw : FC} {F__law_exact : FC} {F__law_judged_right : FC} {F__law_letters : FC} {F__law_made : FC} {F__law_near_rule : FC} {F__law_one_of : FC} {F__law_rule_right : FC} (c__law_dices : Cal κ P w K mg base "_law_dices" 2 2 F__law_dices []) (c__law_draw : Cal κ P w K mg base "_law_draw" 2 2 F__law_draw []) (c__law_exact : Cal κ P w K mg base "_law_exact" 8 2 F__law_exact []) (c__law_judged_right : Cal κ P w K mg base "_law_judged_right" 9 4 F__law_judged_right []) (c__law_letters : Cal κ P w K mg base "_law_letters" 3 2 F__law_letters []) (c__law_made : Cal κ P w K mg base "_law_made" 5 1 F__law_made []) (c__law_near_rule : Cal κ P w K mg base "_law_near_rule" 6 2 F__law_near_rule []) (c__law_one_of : Cal κ P w K mg base "_law_one_of" 3 2 F__law_one_of []) (c__law_rule_right : Cal κ P w K mg base "_law_rule_right" 9 4 F__law_rule_right []) {F : FC} (hF : ∀ ds n Q, F ds n Q → ds.length = 1 → rd_law F__law_dices F__law_draw F__law_exact F__law_judged_right F__law_letters F__law_made F__law_near_rule F__law_one_of F__law_rule_right { nx := fun _ m => Q (.val .non) m, rt := fun _ => Q } (startE 11 ds) n) (hk : κ.K = K) : FnOk P w K mg base CX0 (9 + 1) T.a_law T.d_law ["script"] (spD κ 1 F) := by
  subst hk
  refine fn_dl T.f_law sc_law (fun cdv A outer s H E hr => ?_) hF
  exact (ds_cons (S_for (i_seq (DX.de (dx_call c__law_dices hr (da_cons (v 0) (da_cons de_int da_nil))))) (N_n 1 sc_law.nd) (ds_cons (d1_unp (DX.de (dx_call c__law_one_of hr (da_cons (v 1) (da_cons (DO.fr (do_lst (da_cons (de_tup (da_cons de_int (da_cons de_int da_nil))) (da_cons (de_tup (da_cons de_int (da_cons de_int da_nil))) (da_cons (de_tup (da_cons de_int (da_cons de_int da_nil))) (da_cons (de_tup (da_cons de_int (da_cons de_int da_nil))) (da_cons (de_tup (da_cons de_int (da_cons de_int da_nil))) da_nil))))))) da_nil)))) (N_t (sds_cons (N_n 2 sc_law.nd) (sds_cons (N_n 3 sc_law.nd) sds_nil)))) (ds_cons (S_asg 4 sc_law.nd (de_tup (da_cons (DX.de (dx_call c__law_letters hr (da_cons (v 1) (da_cons (v 2) da_nil)))) (da_cons (v 3) da_nil)))) (ds_cons (S_par 5 6 sc_law.nd (dxs_cons (dx_v (DX.de (dx_call c__law_made hr (da_cons (v 4) da_nil)))) (dxs_cons (dx_v (DX.de (dx_call c__law_near_rule hr (da_cons (v 1) (da_cons (v 4) da_nil))))) dxs_nil))) (ds_cons (S_asg 7 sc_law.nd (DO.fr (do_lst (da_cons (v 6) (da_cons (de_tup (da_cons (e_ix hr (v 6) de_int) (da_cons (DX.de (dx_call c__law_draw hr (da_cons (v 1) (da_cons (e_add (e_len T.g_len (e_ix hr (e_ix hr (v 6) de_int) de_int)) de_int) da_nil)))) da_nil))) (da_cons (DX.de (dx_call c__law_near_rule hr (da_cons (v 1) (da_cons (v 4) da_nil)))) da_nil)))))) (ds_cons (S_asgO 8 sc_law.nd (do_lst da_nil)) (ds_one (S_for (i_seq (e_add (v 7) (e_sl (v 7) dp_none (dp_some de_int)))) (N_n 9 sc_law.nd) (ds_cons (S_clr 8) (ds_cons (S_ext 8 (e_ix hr (v 9) de_int)) (ds_blkE [8] (ds_cons (S_par 10 11 sc_law.nd (dxs_cons (dx_v (de_tup (da_cons (vU 8) (da_cons (e_ix hr (v 9) de_int) da_nil)))) (dxs_cons (dx_v (de_tup (da_cons (DO.fr (o_list T.g_list (e_ix hr (v 9) de_int))) (da_cons (e_ix hr (v 9) de_int) da_nil)))) dxs_nil))) (ds_one (d1_if (DW.dt (dw_or (dt_not (dt_tru (DX.de (dx_call c__law_rule_right hr (da_cons (v 1) (da_cons (v 5) (da_cons (v 4) (da_cons (v 10) da_nil)))))))) (dw_or (dt_not (dt_tru (DX.de (dx_call c__law_judged_right hr (da_cons (v 1) (da_cons (v 5) (da_cons (v 4) (da_cons (v 10) da_nil)))))))) (dw_or1 (dt_not (dt_tru (DX.de (dx_call c__law_exact hr (da_cons (v 10) (da_cons (v 11) da_nil)))))))))) (ds_one (d1_ret de_bl)) ds_nil)))))))))))))) (ds_one (d1_ret de_bl)))
theorem cal_law {k : Nat} {F : FC} (T : Top K mg) (h : FnOk P w K mg base CX0 k T.a_law T.d_law ["script"] (spD κ 1 F)) : Cal κ P w K mg base "law" k 1 F [] := ⟨_, _, _, [], [], h, T.m_law, T.f_law.kp, b_law T, .nil, fun _ _ => .nil⟩
end
def top_mk {K : PySem.W.Frag} {h : Heap} {mg : Str → Option Value} (X : K.In h) (G : h.Ns mainGlobals mg)
    {f_is_whole_words : Addr} {od_is_whole_words an_is_whole_words : Option Addr} {sl_is_whole_words : Array (Option Value)} {oc_is_whole_words kV_is_whole_words dc_is_whole_words pm_is_whole_words cd_is_whole_words ct_is_whole_words : Value}
    (a_is_whole_words : PySem.W.nsIn K mainGlobals "is_whole_words" = some (some (.ref f_is_whole_words))) (l_is_whole_words : K.lookup f_is_whole_words = some ⟨oc_is_whole_words, od_is_whole_words, .func (PySem.W.fnOf "is_whole" "is_whole" (defArgs s_is_whole_words) (defBody s_is_whole_words) (defScope s_is_whole_words) .none kV_is_whole_words dc_is_whole_words pm_is_whole_words an_is_whole_words cd_is_whole_words ct_is_whole_words), sl_is_whole_words⟩) (c_is_whole_words : PySem.W.codeIn K cd_is_whole_words "is_whole" = true) (k_is_whole_words : PySem.W.keepIn K (.ref f_is_whole_words) = true)
    {f_is_count t_is_count : Addr} {od_is_count an_is_count tdd_is_count : Option Addr} {sl_is_count tsl_is_count : Array (Option Value)} {tn_is_count : Nat} {oc_is_count kV_is_count dc_is_count pm_is_count cd_is_count ct_is_count toc_is_count : Value}
    (a_is_count : PySem.W.nsIn K mainGlobals "is_count" = some (some (.ref f_is_count))) (l_is_count : K.lookup f_is_count = some ⟨oc_is_count, od_is_count, .func (PySem.W.fnOf "is_count" "is_count" (defArgs s_is_count) (defBody s_is_count) (defScope s_is_count) (.ref t_is_count) kV_is_count dc_is_count pm_is_count an_is_count cd_is_count ct_is_count), sl_is_count⟩) (c_is_count : PySem.W.codeIn K cd_is_count "is_count" = true) (k_is_count : PySem.W.keepIn K (.ref f_is_count) = true) (t2_is_count : K.lookup t_is_count = some ⟨toc_is_count, tdd_is_count, .seq [Value.none].toArray tn_is_count, tsl_is_count⟩)
    {f_is_text : Addr} {od_is_text an_is_text : Option Addr} {sl_is_text : Array (Option Value)} {oc_is_text kV_is_text dc_is_text pm_is_text cd_is_text ct_is_text : Value}
    (a_is_text : PySem.W.nsIn K mainGlobals "is_text" = some (some (.ref f_is_text))) (l_is_text : K.lookup f_is_text = some ⟨oc_is_text, od_is_text, .func (PySem.W.fnOf "is_text" "is_text" (defArgs s_is_text) (defBody s_is_text) (defScope s_is_text) .none kV_is_text dc_is_text pm_is_text an_is_text cd_is_text ct_is_text), sl_is_text⟩) (c_is_text : PySem.W.codeIn K cd_is_text "is_text" = true) (k_is_text : PySem.W.keepIn K (.ref f_is_text) = true)
    {f_is_word : Addr} {od_is_word an_is_word : Option Addr} {sl_is_word : Array (Option Value)} {oc_is_word kV_is_word dc_is_word pm_is_word cd_is_word ct_is_word : Value}
    (a_is_word : PySem.W.nsIn K mainGlobals "is_word" = some (some (.ref f_is_word))) (l_is_word : K.lookup f_is_word = some ⟨oc_is_word, od_is_word, .func (PySem.W.fnOf "is_word" "is_word" (defArgs s_is_word) (defBody s_is_word) (defScope s_is_word) .none kV_is_word dc_is_word pm_is_word an_is_word cd_is_word ct_is_word), sl_is_word⟩) (c_is_word : PySem.W.codeIn K cd_is_word "is_word" = true) (k_is_word : PySem.W.keepIn K (.ref f_is_word) = true)
    {f_is_rising : Addr} {od_is_rising an_is_rising : Option Addr} {sl_is_rising : Array (Option Value)} {oc_is_rising kV_is_rising dc_is_rising pm_is_rising cd_is_rising ct_is_rising : Value}
    (a_is_rising : PySem.W.nsIn K mainGlobals "is_rising" = some (some (.ref f_is_rising))) (l_is_rising : K.lookup f_is_rising = some ⟨oc_is_rising, od_is_rising, .func (PySem.W.fnOf "is_rising" "is_rising" (defArgs s_is_rising) (defBody s_is_rising) (defScope s_is_rising) .none kV_is_rising dc_is_rising pm_is_rising an_is_rising cd_is_rising ct_is_rising), sl_is_rising⟩) (c_is_rising : PySem.W.codeIn K cd_is_rising "is_rising" = true) (k_is_rising : PySem.W.keepIn K (.ref f_is_rising) = true)
    {f_has : Addr} {od_has an_has : Option Addr} {sl_has : Array (Option Value)} {oc_has kV_has dc_has pm_has cd_has ct_has : Value}
    (a_has : PySem.W.nsIn K mainGlobals "has" = some (some (.ref f_has))) (l_has : K.lookup f_has = some ⟨oc_has, od_has, .func (PySem.W.fnOf "has" "has" (defArgs s_has) (defBody s_has) (defScope s_has) .none kV_has dc_has pm_has an_has cd_has ct_has), sl_has⟩) (c_has : PySem.W.codeIn K cd_has "has" = true) (k_has : PySem.W.keepIn K (.ref f_has) = true)
    {f_repeats : Addr} {od_repeats an_repeats : Option Addr} {sl_repeats : Array (Option Value)} {oc_repeats kV_repeats dc_repeats pm_repeats cd_repeats ct_repeats : Value}
    (a_repeats : PySem.W.nsIn K mainGlobals "repeats" = some (some (.ref f_repeats))) (l_repeats : K.lookup f_repeats = some ⟨oc_repeats, od_repeats, .func (PySem.W.fnOf "repeats" "repeats" (defArgs s_repeats) (defBody s_repeats) (defScope s_repeats) .none kV_repeats dc_repeats pm_repeats an_repeats cd_repeats ct_repeats), sl_repeats⟩) (c_repeats : PySem.W.codeIn K cd_repeats "repeats" = true) (k_repeats : PySem.W.keepIn K (.ref f_repeats) = true)
    {f_check_ground : Addr} {od_check_ground an_check_ground : Option Addr} {sl_check_ground : Array (Option Value)} {oc_check_ground kV_check_ground dc_check_ground pm_check_ground cd_check_ground ct_check_ground : Value}
    (a_check_ground : PySem.W.nsIn K mainGlobals "check_ground" = some (some (.ref f_check_ground))) (l_check_ground : K.lookup f_check_ground = some ⟨oc_check_ground, od_check_ground, .func (PySem.W.fnOf "check_ground" "check_ground" (defArgs s_check_ground) (defBody s_check_ground) (defScope s_check_ground) .none kV_check_ground dc_check_ground pm_check_ground an_check_ground cd_check_ground ct_check_ground), sl_check_ground⟩) (c_check_ground : PySem.W.codeIn K cd_check_ground "check_ground" = true) (k_check_ground : PySem.W.keepIn K (.ref f_check_ground) = true)
    {f_is_text_of : Addr} {od_is_text_of an_is_text_of : Option Addr} {sl_is_text_of : Array (Option Value)} {oc_is_text_of kV_is_text_of dc_is_text_of pm_is_text_of cd_is_text_of ct_is_text_of : Value}
    (a_is_text_of : PySem.W.nsIn K mainGlobals "is_text_of" = some (some (.ref f_is_text_of))) (l_is_text_of : K.lookup f_is_text_of = some ⟨oc_is_text_of, od_is_text_of, .func (PySem.W.fnOf "is_text_of" "is_text_of" (defArgs s_is_text_of) (defBody s_is_text_of) (defScope s_is_text_of) .none kV_is_text_of dc_is_text_of pm_is_text_of an_is_text_of cd_is_text_of ct_is_text_of), sl_is_text_of⟩) (c_is_text_of : PySem.W.codeIn K cd_is_text_of "is_text_of" = true) (k_is_text_of : PySem.W.keepIn K (.ref f_is_text_of) = true)
    {f_sign_at : Addr} {od_sign_at an_sign_at : Option Addr} {sl_sign_at : Array (Option Value)} {oc_sign_at kV_sign_at dc_sign_at pm_sign_at cd_sign_at ct_sign_at : Value}
    (a_sign_at : PySem.W.nsIn K mainGlobals "sign_at" = some (some (.ref f_sign_at))) (l_sign_at : K.lookup f_sign_at = some ⟨oc_sign_at, od_sign_at, .func (PySem.W.fnOf "sign_at" "sign_at" (defArgs s_sign_at) (defBody s_sign_at) (defScope s_sign_at) .none kV_sign_at dc_sign_at pm_sign_at an_sign_at cd_sign_at ct_sign_at), sl_sign_at⟩) (c_sign_at : PySem.W.codeIn K cd_sign_at "sign_at" = true) (k_sign_at : PySem.W.keepIn K (.ref f_sign_at) = true)
    {f_window_in : Addr} {od_window_in an_window_in : Option Addr} {sl_window_in : Array (Option Value)} {oc_window_in kV_window_in dc_window_in pm_window_in cd_window_in ct_window_in : Value}
    (a_window_in : PySem.W.nsIn K mainGlobals "window_in" = some (some (.ref f_window_in))) (l_window_in : K.lookup f_window_in = some ⟨oc_window_in, od_window_in, .func (PySem.W.fnOf "window_in" "window_in" (defArgs s_window_in) (defBody s_window_in) (defScope s_window_in) .none kV_window_in dc_window_in pm_window_in an_window_in cd_window_in ct_window_in), sl_window_in⟩) (c_window_in : PySem.W.codeIn K cd_window_in "window_in" = true) (k_window_in : PySem.W.keepIn K (.ref f_window_in) = true)
    {f_is_word_of : Addr} {od_is_word_of an_is_word_of : Option Addr} {sl_is_word_of : Array (Option Value)} {oc_is_word_of kV_is_word_of dc_is_word_of pm_is_word_of cd_is_word_of ct_is_word_of : Value}
    (a_is_word_of : PySem.W.nsIn K mainGlobals "is_word_of" = some (some (.ref f_is_word_of))) (l_is_word_of : K.lookup f_is_word_of = some ⟨oc_is_word_of, od_is_word_of, .func (PySem.W.fnOf "is_word_of" "is_word_of" (defArgs s_is_word_of) (defBody s_is_word_of) (defScope s_is_word_of) .none kV_is_word_of dc_is_word_of pm_is_word_of an_is_word_of cd_is_word_of ct_is_word_of), sl_is_word_of⟩) (c_is_word_of : PySem.W.codeIn K cd_is_word_of "is_word_of" = true) (k_is_word_of : PySem.W.keepIn K (.ref f_is_word_of) = true)
    {f_is_rule_in : Addr} {od_is_rule_in an_is_rule_in : Option Addr} {sl_is_rule_in : Array (Option Value)} {oc_is_rule_in kV_is_rule_in dc_is_rule_in pm_is_rule_in cd_is_rule_in ct_is_rule_in : Value}
    (a_is_rule_in : PySem.W.nsIn K mainGlobals "is_rule_in" = some (some (.ref f_is_rule_in))) (l_is_rule_in : K.lookup f_is_rule_in = some ⟨oc_is_rule_in, od_is_rule_in, .func (PySem.W.fnOf "is_rule_in" "is_rule_in" (defArgs s_is_rule_in) (defBody s_is_rule_in) (defScope s_is_rule_in) .none kV_is_rule_in dc_is_rule_in pm_is_rule_in an_is_rule_in cd_is_rule_in ct_is_rule_in), sl_is_rule_in⟩) (c_is_rule_in : PySem.W.codeIn K cd_is_rule_in "is_rule_in" = true) (k_is_rule_in : PySem.W.keepIn K (.ref f_is_rule_in) = true)
    {f_check_rule : Addr} {od_check_rule an_check_rule : Option Addr} {sl_check_rule : Array (Option Value)} {oc_check_rule kV_check_rule dc_check_rule pm_check_rule cd_check_rule ct_check_rule : Value}
    (a_check_rule : PySem.W.nsIn K mainGlobals "check_rule" = some (some (.ref f_check_rule))) (l_check_rule : K.lookup f_check_rule = some ⟨oc_check_rule, od_check_rule, .func (PySem.W.fnOf "check_rule" "check_rule" (defArgs s_check_rule) (defBody s_check_rule) (defScope s_check_rule) .none kV_check_rule dc_check_rule pm_check_rule an_check_rule cd_check_rule ct_check_rule), sl_check_rule⟩) (c_check_rule : PySem.W.codeIn K cd_check_rule "check_rule" = true) (k_check_rule : PySem.W.keepIn K (.ref f_check_rule) = true)
    {f_signs_between : Addr} {od_signs_between an_signs_between : Option Addr} {sl_signs_between : Array (Option Value)} {oc_signs_between kV_signs_between dc_signs_between pm_signs_between cd_signs_between ct_signs_between : Value}
    (a_signs_between : PySem.W.nsIn K mainGlobals "signs_between" = some (some (.ref f_signs_between))) (l_signs_between : K.lookup f_signs_between = some ⟨oc_signs_between, od_signs_between, .func (PySem.W.fnOf "signs_between" "signs_between" (defArgs s_signs_between) (defBody s_signs_between) (defScope s_signs_between) .none kV_signs_between dc_signs_between pm_signs_between an_signs_between cd_signs_between ct_signs_between), sl_signs_between⟩) (c_signs_between : PySem.W.codeIn K cd_signs_between "signs_between" = true) (k_signs_between : PySem.W.keepIn K (.ref f_signs_between) = true)
    {f_seen_at : Addr} {od_seen_at an_seen_at : Option Addr} {sl_seen_at : Array (Option Value)} {oc_seen_at kV_seen_at dc_seen_at pm_seen_at cd_seen_at ct_seen_at : Value}
    (a_seen_at : PySem.W.nsIn K mainGlobals "seen_at" = some (some (.ref f_seen_at))) (l_seen_at : K.lookup f_seen_at = some ⟨oc_seen_at, od_seen_at, .func (PySem.W.fnOf "seen_at" "seen_at" (defArgs s_seen_at) (defBody s_seen_at) (defScope s_seen_at) .none kV_seen_at dc_seen_at pm_seen_at an_seen_at cd_seen_at ct_seen_at), sl_seen_at⟩) (c_seen_at : PySem.W.codeIn K cd_seen_at "seen_at" = true) (k_seen_at : PySem.W.keepIn K (.ref f_seen_at) = true)
    {f_marked_in : Addr} {od_marked_in an_marked_in : Option Addr} {sl_marked_in : Array (Option Value)} {oc_marked_in kV_marked_in dc_marked_in pm_marked_in cd_marked_in ct_marked_in : Value}
    (a_marked_in : PySem.W.nsIn K mainGlobals "marked_in" = some (some (.ref f_marked_in))) (l_marked_in : K.lookup f_marked_in = some ⟨oc_marked_in, od_marked_in, .func (PySem.W.fnOf "marked_in" "marked_in" (defArgs s_marked_in) (defBody s_marked_in) (defScope s_marked_in) .none kV_marked_in dc_marked_in pm_marked_in an_marked_in cd_marked_in ct_marked_in), sl_marked_in⟩) (c_marked_in : PySem.W.codeIn K cd_marked_in "marked_in" = true) (k_marked_in : PySem.W.keepIn K (.ref f_marked_in) = true)
    {f_near_words : Addr} {od_near_words an_near_words : Option Addr} {sl_near_words : Array (Option Value)} {oc_near_words kV_near_words dc_near_words pm_near_words cd_near_words ct_near_words : Value}
    (a_near_words : PySem.W.nsIn K mainGlobals "near_words" = some (some (.ref f_near_words))) (l_near_words : K.lookup f_near_words = some ⟨oc_near_words, od_near_words, .func (PySem.W.fnOf "near_words" "near_words" (defArgs s_near_words) (defBody s_near_words) (defScope s_near_words) .none kV_near_words dc_near_words pm_near_words an_near_words cd_near_words ct_near_words), sl_near_words⟩) (c_near_words : PySem.W.codeIn K cd_near_words "near_words" = true) (k_near_words : PySem.W.keepIn K (.ref f_near_words) = true)
    {f_missed_in : Addr} {od_missed_in an_missed_in : Option Addr} {sl_missed_in : Array (Option Value)} {oc_missed_in kV_missed_in dc_missed_in pm_missed_in cd_missed_in ct_missed_in : Value}
    (a_missed_in : PySem.W.nsIn K mainGlobals "missed_in" = some (some (.ref f_missed_in))) (l_missed_in : K.lookup f_missed_in = some ⟨oc_missed_in, od_missed_in, .func (PySem.W.fnOf "missed_in" "missed_in" (defArgs s_missed_in) (defBody s_missed_in) (defScope s_missed_in) .none kV_missed_in dc_missed_in pm_missed_in an_missed_in cd_missed_in ct_missed_in), sl_missed_in⟩) (c_missed_in : PySem.W.codeIn K cd_missed_in "missed_in" = true) (k_missed_in : PySem.W.keepIn K (.ref f_missed_in) = true)
    {f_missed : Addr} {od_missed an_missed : Option Addr} {sl_missed : Array (Option Value)} {oc_missed kV_missed dc_missed pm_missed cd_missed ct_missed : Value}
    (a_missed : PySem.W.nsIn K mainGlobals "missed" = some (some (.ref f_missed))) (l_missed : K.lookup f_missed = some ⟨oc_missed, od_missed, .func (PySem.W.fnOf "missed" "missed" (defArgs s_missed) (defBody s_missed) (defScope s_missed) .none kV_missed dc_missed pm_missed an_missed cd_missed ct_missed), sl_missed⟩) (c_missed : PySem.W.codeIn K cd_missed "missed" = true) (k_missed : PySem.W.keepIn K (.ref f_missed) = true)
    {f_is_missed : Addr} {od_is_missed an_is_missed : Option Addr} {sl_is_missed : Array (Option Value)} {oc_is_missed kV_is_missed dc_is_missed pm_is_missed cd_is_missed ct_is_missed : Value}
    (a_is_missed : PySem.W.nsIn K mainGlobals "is_missed" = some (some (.ref f_is_missed))) (l_is_missed : K.lookup f_is_missed = some ⟨oc_is_missed, od_is_missed, .func (PySem.W.fnOf "is_missed" "is_missed" (defArgs s_is_missed) (defBody s_is_missed) (defScope s_is_missed) .none kV_is_missed dc_is_missed pm_is_missed an_is_missed cd_is_missed ct_is_missed), sl_is_missed⟩) (c_is_missed : PySem.W.codeIn K cd_is_missed "is_missed" = true) (k_is_missed : PySem.W.keepIn K (.ref f_is_missed) = true)
    {f_is_whole_rules : Addr} {od_is_whole_rules an_is_whole_rules : Option Addr} {sl_is_whole_rules : Array (Option Value)} {oc_is_whole_rules kV_is_whole_rules dc_is_whole_rules pm_is_whole_rules cd_is_whole_rules ct_is_whole_rules : Value}
    (a_is_whole_rules : PySem.W.nsIn K mainGlobals "is_whole_rules" = some (some (.ref f_is_whole_rules))) (l_is_whole_rules : K.lookup f_is_whole_rules = some ⟨oc_is_whole_rules, od_is_whole_rules, .func (PySem.W.fnOf "is_whole" "is_whole" (defArgs s_is_whole_rules) (defBody s_is_whole_rules) (defScope s_is_whole_rules) .none kV_is_whole_rules dc_is_whole_rules pm_is_whole_rules an_is_whole_rules cd_is_whole_rules ct_is_whole_rules), sl_is_whole_rules⟩) (c_is_whole_rules : PySem.W.codeIn K cd_is_whole_rules "is_whole" = true) (k_is_whole_rules : PySem.W.keepIn K (.ref f_is_whole_rules) = true)
    {f__law_dice : Addr} {od__law_dice an__law_dice : Option Addr} {sl__law_dice : Array (Option Value)} {oc__law_dice kV__law_dice dc__law_dice pm__law_dice cd__law_dice ct__law_dice : Value}
    (a__law_dice : PySem.W.nsIn K mainGlobals "_law_dice" = some (some (.ref f__law_dice))) (l__law_dice : K.lookup f__law_dice = some ⟨oc__law_dice, od__law_dice, .func (PySem.W.fnOf "_law_dice" "_law_dice" (defArgs s__law_dice) (defBody s__law_dice) (defScope s__law_dice) .none kV__law_dice dc__law_dice pm__law_dice an__law_dice cd__law_dice ct__law_dice), sl__law_dice⟩) (c__law_dice : PySem.W.codeIn K cd__law_dice "_law_dice" = true) (k__law_dice : PySem.W.keepIn K (.ref f__law_dice) = true)
    {f__law_mixed : Addr} {od__law_mixed an__law_mixed : Option Addr} {sl__law_mixed : Array (Option Value)} {oc__law_mixed kV__law_mixed dc__law_mixed pm__law_mixed cd__law_mixed ct__law_mixed : Value}
    (a__law_mixed : PySem.W.nsIn K mainGlobals "_law_mixed" = some (some (.ref f__law_mixed))) (l__law_mixed : K.lookup f__law_mixed = some ⟨oc__law_mixed, od__law_mixed, .func (PySem.W.fnOf "_law_mixed" "_law_mixed" (defArgs s__law_mixed) (defBody s__law_mixed) (defScope s__law_mixed) .none kV__law_mixed dc__law_mixed pm__law_mixed an__law_mixed cd__law_mixed ct__law_mixed), sl__law_mixed⟩) (c__law_mixed : PySem.W.codeIn K cd__law_mixed "_law_mixed" = true) (k__law_mixed : PySem.W.keepIn K (.ref f__law_mixed) = true)
    {f__law_draw : Addr} {od__law_draw an__law_draw : Option Addr} {sl__law_draw : Array (Option Value)} {oc__law_draw kV__law_draw dc__law_draw pm__law_draw cd__law_draw ct__law_draw : Value}
    (a__law_draw : PySem.W.nsIn K mainGlobals "_law_draw" = some (some (.ref f__law_draw))) (l__law_draw : K.lookup f__law_draw = some ⟨oc__law_draw, od__law_draw, .func (PySem.W.fnOf "_law_draw" "_law_draw" (defArgs s__law_draw) (defBody s__law_draw) (defScope s__law_draw) .none kV__law_draw dc__law_draw pm__law_draw an__law_draw cd__law_draw ct__law_draw), sl__law_draw⟩) (c__law_draw : PySem.W.codeIn K cd__law_draw "_law_draw" = true) (k__law_draw : PySem.W.keepIn K (.ref f__law_draw) = true)
    {f__law_one_of : Addr} {od__law_one_of an__law_one_of : Option Addr} {sl__law_one_of : Array (Option Value)} {oc__law_one_of kV__law_one_of dc__law_one_of pm__law_one_of cd__law_one_of ct__law_one_of : Value}
    (a__law_one_of : PySem.W.nsIn K mainGlobals "_law_one_of" = some (some (.ref f__law_one_of))) (l__law_one_of : K.lookup f__law_one_of = some ⟨oc__law_one_of, od__law_one_of, .func (PySem.W.fnOf "_law_one_of" "_law_one_of" (defArgs s__law_one_of) (defBody s__law_one_of) (defScope s__law_one_of) .none kV__law_one_of dc__law_one_of pm__law_one_of an__law_one_of cd__law_one_of ct__law_one_of), sl__law_one_of⟩) (c__law_one_of : PySem.W.codeIn K cd__law_one_of "_law_one_of" = true) (k__law_one_of : PySem.W.keepIn K (.ref f__law_one_of) = true)
    {f__law_exact : Addr} {od__law_exact an__law_exact : Option Addr} {sl__law_exact : Array (Option Value)} {oc__law_exact kV__law_exact dc__law_exact pm__law_exact cd__law_exact ct__law_exact : Value}
    (a__law_exact : PySem.W.nsIn K mainGlobals "_law_exact" = some (some (.ref f__law_exact))) (l__law_exact : K.lookup f__law_exact = some ⟨oc__law_exact, od__law_exact, .func (PySem.W.fnOf "_law_exact" "_law_exact" (defArgs s__law_exact) (defBody s__law_exact) (defScope s__law_exact) .none kV__law_exact dc__law_exact pm__law_exact an__law_exact cd__law_exact ct__law_exact), sl__law_exact⟩) (c__law_exact : PySem.W.codeIn K cd__law_exact "_law_exact" = true) (k__law_exact : PySem.W.keepIn K (.ref f__law_exact) = true)
    {f__law_dices : Addr} {od__law_dices an__law_dices : Option Addr} {sl__law_dices : Array (Option Value)} {oc__law_dices kV__law_dices dc__law_dices pm__law_dices cd__law_dices ct__law_dices : Value}
    (a__law_dices : PySem.W.nsIn K mainGlobals "_law_dices" = some (some (.ref f__law_dices))) (l__law_dices : K.lookup f__law_dices = some ⟨oc__law_dices, od__law_dices, .func (PySem.W.fnOf "_law_dices" "_law_dices" (defArgs s__law_dices) (defBody s__law_dices) (defScope s__law_dices) .none kV__law_dices dc__law_dices pm__law_dices an__law_dices cd__law_dices ct__law_dices), sl__law_dices⟩) (c__law_dices : PySem.W.codeIn K cd__law_dices "_law_dices" = true) (k__law_dices : PySem.W.keepIn K (.ref f__law_dices) = true)
    {f__law_letters : Addr} {od__law_letters an__law_letters : Option Addr} {sl__law_letters : Array (Option Value)} {oc__law_letters kV__law_letters dc__law_letters pm__law_letters cd__law_letters ct__law_letters : Value}
    (a__law_letters : PySem.W.nsIn K mainGlobals "_law_letters" = some (some (.ref f__law_letters))) (l__law_letters : K.lookup f__law_letters = some ⟨oc__law_letters, od__law_letters, .func (PySem.W.fnOf "_law_letters" "_law_letters" (defArgs s__law_letters) (defBody s__law_letters) (defScope s__law_letters) .none kV__law_letters dc__law_letters pm__law_letters an__law_letters cd__law_letters ct__law_letters), sl__law_letters⟩) (c__law_letters : PySem.W.codeIn K cd__law_letters "_law_letters" = true) (k__law_letters : PySem.W.keepIn K (.ref f__law_letters) = true)
    {f__law_repeats : Addr} {od__law_repeats an__law_repeats : Option Addr} {sl__law_repeats : Array (Option Value)} {oc__law_repeats kV__law_repeats dc__law_repeats pm__law_repeats cd__law_repeats ct__law_repeats : Value}
    (a__law_repeats : PySem.W.nsIn K mainGlobals "_law_repeats" = some (some (.ref f__law_repeats))) (l__law_repeats : K.lookup f__law_repeats = some ⟨oc__law_repeats, od__law_repeats, .func (PySem.W.fnOf "_law_repeats" "_law_repeats" (defArgs s__law_repeats) (defBody s__law_repeats) (defScope s__law_repeats) .none kV__law_repeats dc__law_repeats pm__law_repeats an__law_repeats cd__law_repeats ct__law_repeats), sl__law_repeats⟩) (c__law_repeats : PySem.W.codeIn K cd__law_repeats "_law_repeats" = true) (k__law_repeats : PySem.W.keepIn K (.ref f__law_repeats) = true)
    {f__law_words_of : Addr} {od__law_words_of an__law_words_of : Option Addr} {sl__law_words_of : Array (Option Value)} {oc__law_words_of kV__law_words_of dc__law_words_of pm__law_words_of cd__law_words_of ct__law_words_of : Value}
    (a__law_words_of : PySem.W.nsIn K mainGlobals "_law_words_of" = some (some (.ref f__law_words_of))) (l__law_words_of : K.lookup f__law_words_of = some ⟨oc__law_words_of, od__law_words_of, .func (PySem.W.fnOf "_law_words_of" "_law_words_of" (defArgs s__law_words_of) (defBody s__law_words_of) (defScope s__law_words_of) .none kV__law_words_of dc__law_words_of pm__law_words_of an__law_words_of cd__law_words_of ct__law_words_of), sl__law_words_of⟩) (c__law_words_of : PySem.W.codeIn K cd__law_words_of "_law_words_of" = true) (k__law_words_of : PySem.W.keepIn K (.ref f__law_words_of) = true)
    {f__law_window : Addr} {od__law_window an__law_window : Option Addr} {sl__law_window : Array (Option Value)} {oc__law_window kV__law_window dc__law_window pm__law_window cd__law_window ct__law_window : Value}
    (a__law_window : PySem.W.nsIn K mainGlobals "_law_window" = some (some (.ref f__law_window))) (l__law_window : K.lookup f__law_window = some ⟨oc__law_window, od__law_window, .func (PySem.W.fnOf "_law_window" "_law_window" (defArgs s__law_window) (defBody s__law_window) (defScope s__law_window) .none kV__law_window dc__law_window pm__law_window an__law_window cd__law_window ct__law_window), sl__law_window⟩) (c__law_window : PySem.W.codeIn K cd__law_window "_law_window" = true) (k__law_window : PySem.W.keepIn K (.ref f__law_window) = true)
    {f__law_places : Addr} {od__law_places an__law_places : Option Addr} {sl__law_places : Array (Option Value)} {oc__law_places kV__law_places dc__law_places pm__law_places cd__law_places ct__law_places : Value}
    (a__law_places : PySem.W.nsIn K mainGlobals "_law_places" = some (some (.ref f__law_places))) (l__law_places : K.lookup f__law_places = some ⟨oc__law_places, od__law_places, .func (PySem.W.fnOf "_law_places" "_law_places" (defArgs s__law_places) (defBody s__law_places) (defScope s__law_places) .none kV__law_places dc__law_places pm__law_places an__law_places cd__law_places ct__law_places), sl__law_places⟩) (c__law_places : PySem.W.codeIn K cd__law_places "_law_places" = true) (k__law_places : PySem.W.keepIn K (.ref f__law_places) = true)
    {f__law_all_cuts : Addr} {od__law_all_cuts an__law_all_cuts : Option Addr} {sl__law_all_cuts : Array (Option Value)} {oc__law_all_cuts kV__law_all_cuts dc__law_all_cuts pm__law_all_cuts cd__law_all_cuts ct__law_all_cuts : Value}
    (a__law_all_cuts : PySem.W.nsIn K mainGlobals "_law_all_cuts" = some (some (.ref f__law_all_cuts))) (l__law_all_cuts : K.lookup f__law_all_cuts = some ⟨oc__law_all_cuts, od__law_all_cuts, .func (PySem.W.fnOf "_law_all_cuts" "_law_all_cuts" (defArgs s__law_all_cuts) (defBody s__law_all_cuts) (defScope s__law_all_cuts) .none kV__law_all_cuts dc__law_all_cuts pm__law_all_cuts an__law_all_cuts cd__law_all_cuts ct__law_all_cuts), sl__law_all_cuts⟩) (c__law_all_cuts : PySem.W.codeIn K cd__law_all_cuts "_law_all_cuts" = true) (k__law_all_cuts : PySem.W.keepIn K (.ref f__law_all_cuts) = true)
    {f__law_text : Addr} {od__law_text an__law_text : Option Addr} {sl__law_text : Array (Option Value)} {oc__law_text kV__law_text dc__law_text pm__law_text cd__law_text ct__law_text : Value}
    (a__law_text : PySem.W.nsIn K mainGlobals "_law_text" = some (some (.ref f__law_text))) (l__law_text : K.lookup f__law_text = some ⟨oc__law_text, od__law_text, .func (PySem.W.fnOf "_law_text" "_law_text" (defArgs s__law_text) (defBody s__law_text) (defScope s__law_text) .none kV__law_text dc__law_text pm__law_text an__law_text cd__law_text ct__law_text), sl__law_text⟩) (c__law_text : PySem.W.codeIn K cd__law_text "_law_text" = true) (k__law_text : PySem.W.keepIn K (.ref f__law_text) = true)
    {f__law_made : Addr} {od__law_made an__law_made : Option Addr} {sl__law_made : Array (Option Value)} {oc__law_made kV__law_made dc__law_made pm__law_made cd__law_made ct__law_made : Value}
    (a__law_made : PySem.W.nsIn K mainGlobals "_law_made" = some (some (.ref f__law_made))) (l__law_made : K.lookup f__law_made = some ⟨oc__law_made, od__law_made, .func (PySem.W.fnOf "_law_made" "_law_made" (defArgs s__law_made) (defBody s__law_made) (defScope s__law_made) .none kV__law_made dc__law_made pm__law_made an__law_made cd__law_made ct__law_made), sl__law_made⟩) (c__law_made : PySem.W.codeIn K cd__law_made "_law_made" = true) (k__law_made : PySem.W.keepIn K (.ref f__law_made) = true)
    {f__law_other_sign : Addr} {od__law_other_sign an__law_other_sign : Option Addr} {sl__law_other_sign : Array (Option Value)} {oc__law_other_sign kV__law_other_sign dc__law_other_sign pm__law_other_sign cd__law_other_sign ct__law_other_sign : Value}
    (a__law_other_sign : PySem.W.nsIn K mainGlobals "_law_other_sign" = some (some (.ref f__law_other_sign))) (l__law_other_sign : K.lookup f__law_other_sign = some ⟨oc__law_other_sign, od__law_other_sign, .func (PySem.W.fnOf "_law_other_sign" "_law_other_sign" (defArgs s__law_other_sign) (defBody s__law_other_sign) (defScope s__law_other_sign) .none kV__law_other_sign dc__law_other_sign pm__law_other_sign an__law_other_sign cd__law_other_sign ct__law_other_sign), sl__law_other_sign⟩) (c__law_other_sign : PySem.W.codeIn K cd__law_other_sign "_law_other_sign" = true) (k__law_other_sign : PySem.W.keepIn K (.ref f__law_other_sign) = true)
    {f__law_drawn_word : Addr} {od__law_drawn_word an__law_drawn_word : Option Addr} {sl__law_drawn_word : Array (Option Value)} {oc__law_drawn_word kV__law_drawn_word dc__law_drawn_word pm__law_drawn_word cd__law_drawn_word ct__law_drawn_word : Value}
    (a__law_drawn_word : PySem.W.nsIn K mainGlobals "_law_drawn_word" = some (some (.ref f__law_drawn_word))) (l__law_drawn_word : K.lookup f__law_drawn_word = some ⟨oc__law_drawn_word, od__law_drawn_word, .func (PySem.W.fnOf "_law_drawn_word" "_law_drawn_word" (defArgs s__law_drawn_word) (defBody s__law_drawn_word) (defScope s__law_drawn_word) .none kV__law_drawn_word dc__law_drawn_word pm__law_drawn_word an__law_drawn_word cd__law_drawn_word ct__law_drawn_word), sl__law_drawn_word⟩) (c__law_drawn_word : PySem.W.codeIn K cd__law_drawn_word "_law_drawn_word" = true) (k__law_drawn_word : PySem.W.keepIn K (.ref f__law_drawn_word) = true)
    {f__law_near_at : Addr} {od__law_near_at an__law_near_at : Option Addr} {sl__law_near_at : Array (Option Value)} {oc__law_near_at kV__law_near_at dc__law_near_at pm__law_near_at cd__law_near_at ct__law_near_at : Value}
    (a__law_near_at : PySem.W.nsIn K mainGlobals "_law_near_at" = some (some (.ref f__law_near_at))) (l__law_near_at : K.lookup f__law_near_at = some ⟨oc__law_near_at, od__law_near_at, .func (PySem.W.fnOf "_law_near_at" "_law_near_at" (defArgs s__law_near_at) (defBody s__law_near_at) (defScope s__law_near_at) .none kV__law_near_at dc__law_near_at pm__law_near_at an__law_near_at cd__law_near_at ct__law_near_at), sl__law_near_at⟩) (c__law_near_at : PySem.W.codeIn K cd__law_near_at "_law_near_at" = true) (k__law_near_at : PySem.W.keepIn K (.ref f__law_near_at) = true)
    {f__law_seen : Addr} {od__law_seen an__law_seen : Option Addr} {sl__law_seen : Array (Option Value)} {oc__law_seen kV__law_seen dc__law_seen pm__law_seen cd__law_seen ct__law_seen : Value}
    (a__law_seen : PySem.W.nsIn K mainGlobals "_law_seen" = some (some (.ref f__law_seen))) (l__law_seen : K.lookup f__law_seen = some ⟨oc__law_seen, od__law_seen, .func (PySem.W.fnOf "_law_seen" "_law_seen" (defArgs s__law_seen) (defBody s__law_seen) (defScope s__law_seen) .none kV__law_seen dc__law_seen pm__law_seen an__law_seen cd__law_seen ct__law_seen), sl__law_seen⟩) (c__law_seen : PySem.W.codeIn K cd__law_seen "_law_seen" = true) (k__law_seen : PySem.W.keepIn K (.ref f__law_seen) = true)
    {f__law_marked : Addr} {od__law_marked an__law_marked : Option Addr} {sl__law_marked : Array (Option Value)} {oc__law_marked kV__law_marked dc__law_marked pm__law_marked cd__law_marked ct__law_marked : Value}
    (a__law_marked : PySem.W.nsIn K mainGlobals "_law_marked" = some (some (.ref f__law_marked))) (l__law_marked : K.lookup f__law_marked = some ⟨oc__law_marked, od__law_marked, .func (PySem.W.fnOf "_law_marked" "_law_marked" (defArgs s__law_marked) (defBody s__law_marked) (defScope s__law_marked) .none kV__law_marked dc__law_marked pm__law_marked an__law_marked cd__law_marked ct__law_marked), sl__law_marked⟩) (c__law_marked : PySem.W.codeIn K cd__law_marked "_law_marked" = true) (k__law_marked : PySem.W.keepIn K (.ref f__law_marked) = true)
    {f__law_is_apart : Addr} {od__law_is_apart an__law_is_apart : Option Addr} {sl__law_is_apart : Array (Option Value)} {oc__law_is_apart kV__law_is_apart dc__law_is_apart pm__law_is_apart cd__law_is_apart ct__law_is_apart : Value}
    (a__law_is_apart : PySem.W.nsIn K mainGlobals "_law_is_apart" = some (some (.ref f__law_is_apart))) (l__law_is_apart : K.lookup f__law_is_apart = some ⟨oc__law_is_apart, od__law_is_apart, .func (PySem.W.fnOf "_law_is_apart" "_law_is_apart" (defArgs s__law_is_apart) (defBody s__law_is_apart) (defScope s__law_is_apart) .none kV__law_is_apart dc__law_is_apart pm__law_is_apart an__law_is_apart cd__law_is_apart ct__law_is_apart), sl__law_is_apart⟩) (c__law_is_apart : PySem.W.codeIn K cd__law_is_apart "_law_is_apart" = true) (k__law_is_apart : PySem.W.keepIn K (.ref f__law_is_apart) = true)
    {f__law_drawn_rule : Addr} {od__law_drawn_rule an__law_drawn_rule : Option Addr} {sl__law_drawn_rule : Array (Option Value)} {oc__law_drawn_rule kV__law_drawn_rule dc__law_drawn_rule pm__law_drawn_rule cd__law_drawn_rule ct__law_drawn_rule : Value}
    (a__law_drawn_rule : PySem.W.nsIn K mainGlobals "_law_drawn_rule" = some (some (.ref f__law_drawn_rule))) (l__law_drawn_rule : K.lookup f__law_drawn_rule = some ⟨oc__law_drawn_rule, od__law_drawn_rule, .func (PySem.W.fnOf "_law_drawn_rule" "_law_drawn_rule" (defArgs s__law_drawn_rule) (defBody s__law_drawn_rule) (defScope s__law_drawn_rule) .none kV__law_drawn_rule dc__law_drawn_rule pm__law_drawn_rule an__law_drawn_rule cd__law_drawn_rule ct__law_drawn_rule), sl__law_drawn_rule⟩) (c__law_drawn_rule : PySem.W.codeIn K cd__law_drawn_rule "_law_drawn_rule" = true) (k__law_drawn_rule : PySem.W.keepIn K (.ref f__law_drawn_rule) = true)
    {f__law_misses : Addr} {od__law_misses an__law_misses : Option Addr} {sl__law_misses : Array (Option Value)} {oc__law_misses kV__law_misses dc__law_misses pm__law_misses cd__law_misses ct__law_misses : Value}
    (a__law_misses : PySem.W.nsIn K mainGlobals "_law_misses" = some (some (.ref f__law_misses))) (l__law_misses : K.lookup f__law_misses = some ⟨oc__law_misses, od__law_misses, .func (PySem.W.fnOf "_law_misses" "_law_misses" (defArgs s__law_misses) (defBody s__law_misses) (defScope s__law_misses) .none kV__law_misses dc__law_misses pm__law_misses an__law_misses cd__law_misses ct__law_misses), sl__law_misses⟩) (c__law_misses : PySem.W.codeIn K cd__law_misses "_law_misses" = true) (k__law_misses : PySem.W.keepIn K (.ref f__law_misses) = true)
    {f__law_misses_some : Addr} {od__law_misses_some an__law_misses_some : Option Addr} {sl__law_misses_some : Array (Option Value)} {oc__law_misses_some kV__law_misses_some dc__law_misses_some pm__law_misses_some cd__law_misses_some ct__law_misses_some : Value}
    (a__law_misses_some : PySem.W.nsIn K mainGlobals "_law_misses_some" = some (some (.ref f__law_misses_some))) (l__law_misses_some : K.lookup f__law_misses_some = some ⟨oc__law_misses_some, od__law_misses_some, .func (PySem.W.fnOf "_law_misses_some" "_law_misses_some" (defArgs s__law_misses_some) (defBody s__law_misses_some) (defScope s__law_misses_some) .none kV__law_misses_some dc__law_misses_some pm__law_misses_some an__law_misses_some cd__law_misses_some ct__law_misses_some), sl__law_misses_some⟩) (c__law_misses_some : PySem.W.codeIn K cd__law_misses_some "_law_misses_some" = true) (k__law_misses_some : PySem.W.keepIn K (.ref f__law_misses_some) = true)
    {f__law_near_rule : Addr} {od__law_near_rule an__law_near_rule : Option Addr} {sl__law_near_rule : Array (Option Value)} {oc__law_near_rule kV__law_near_rule dc__law_near_rule pm__law_near_rule cd__law_near_rule ct__law_near_rule : Value}
    (a__law_near_rule : PySem.W.nsIn K mainGlobals "_law_near_rule" = some (some (.ref f__law_near_rule))) (l__law_near_rule : K.lookup f__law_near_rule = some ⟨oc__law_near_rule, od__law_near_rule, .func (PySem.W.fnOf "_law_near_rule" "_law_near_rule" (defArgs s__law_near_rule) (defBody s__law_near_rule) (defScope s__law_near_rule) .none kV__law_near_rule dc__law_near_rule pm__law_near_rule an__law_near_rule cd__law_near_rule ct__law_near_rule), sl__law_near_rule⟩) (c__law_near_rule : PySem.W.codeIn K cd__law_near_rule "_law_near_rule" = true) (k__law_near_rule : PySem.W.keepIn K (.ref f__law_near_rule) = true)
    {f__law_rule_right : Addr} {od__law_rule_right an__law_rule_right : Option Addr} {sl__law_rule_right : Array (Option Value)} {oc__law_rule_right kV__law_rule_right dc__law_rule_right pm__law_rule_right cd__law_rule_right ct__law_rule_right : Value}
    (a__law_rule_right : PySem.W.nsIn K mainGlobals "_law_rule_right" = some (some (.ref f__law_rule_right))) (l__law_rule_right : K.lookup f__law_rule_right = some ⟨oc__law_rule_right, od__law_rule_right, .func (PySem.W.fnOf "_law_rule_right" "_law_rule_right" (defArgs s__law_rule_right) (defBody s__law_rule_right) (defScope s__law_rule_right) .none kV__law_rule_right dc__law_rule_right pm__law_rule_right an__law_rule_right cd__law_rule_right ct__law_rule_right), sl__law_rule_right⟩) (c__law_rule_right : PySem.W.codeIn K cd__law_rule_right "_law_rule_right" = true) (k__law_rule_right : PySem.W.keepIn K (.ref f__law_rule_right) = true)
    {f__law_judged_right : Addr} {od__law_judged_right an__law_judged_right : Option Addr} {sl__law_judged_right : Array (Option Value)} {oc__law_judged_right kV__law_judged_right dc__law_judged_right pm__law_judged_right cd__law_judged_right ct__law_judged_right : Value}
    (a__law_judged_right : PySem.W.nsIn K mainGlobals "_law_judged_right" = some (some (.ref f__law_judged_right))) (l__law_judged_right : K.lookup f__law_judged_right = some ⟨oc__law_judged_right, od__law_judged_right, .func (PySem.W.fnOf "_law_judged_right" "_law_judged_right" (defArgs s__law_judged_right) (defBody s__law_judged_right) (defScope s__law_judged_right) .none kV__law_judged_right dc__law_judged_right pm__law_judged_right an__law_judged_right cd__law_judged_right ct__law_judged_right), sl__law_judged_right⟩) (c__law_judged_right : PySem.W.codeIn K cd__law_judged_right "_law_judged_right" = true) (k__law_judged_right : PySem.W.keepIn K (.ref f__law_judged_right) = true)
    {f_law : Addr} {od_law an_law : Option Addr} {sl_law : Array (Option Value)} {oc_law kV_law dc_law pm_law cd_law ct_law : Value}
    (a_law : PySem.W.nsIn K mainGlobals "law" = some (some (.ref f_law))) (l_law : K.lookup f_law = some ⟨oc_law, od_law, .func (PySem.W.fnOf "law" "law" (defArgs s_law) (defBody s_law) (defScope s_law) .none kV_law dc_law pm_law an_law cd_law ct_law), sl_law⟩) (c_law : PySem.W.codeIn K cd_law "law" = true) (k_law : PySem.W.keepIn K (.ref f_law) = true)
    {C_G f_init : Addr} {od_init an_init : Option Addr} {sl_init : Array (Option Value)} {oc_init kV_init dc_init pm_init cd_init ct_init : Value}
    (x_C : PySem.W.nsIn K mainGlobals "Ground" = some (some (.ref C_G))) (x_pg : PySem.W.plainGet K C_G Str.empty = true) (x_hd : PySem.W.hasDictIn K C_G = true) (x_po : PySem.W.plainOver K C_G = true) (x_sa : PySem.W.findIn K (.ref C_G) "__setattr__" = some (some (.builtin "object.__setattr__")))
    (x_nR : PySem.W.findIn K (.ref C_G) "row" = some none) (x_nL : PySem.W.findIn K (.ref C_G) "least" = some none) (x_nS : PySem.W.findIn K (.ref C_G) "span" = some none) (x_nK : PySem.W.findIn K (.ref C_G) "known" = some none)
    (x_ha : PySem.W.findIn K (.ref C_G) "__class__" = some (some (.builtin "object.__class__"))) (x_hn : PySem.W.specialIn K (.builtin "object.__class__") "__get__" = some (some (.builtin "getset_descriptor.__get__"))) (x_htk : PySem.W.takesIn K (.builtin "object.__class__") = some true) (x_hm : PySem.W.mroIn K C_G (.type "object") = some true) (x_kp : PySem.W.keepIn K (.ref C_G) = true)
    (x_iNoneType : PySem.W.kitOne K (.type "NoneType") (.ref C_G) = some false) (x_ibool : PySem.W.kitOne K (.type "bool") (.ref C_G) = some false) (x_iint : PySem.W.kitOne K (.type "int") (.ref C_G) = some false) (x_istr : PySem.W.kitOne K (.type "str") (.ref C_G) = some false) (x_ilist : PySem.W.kitOne K (.type "list") (.ref C_G) = some false) (x_ituple : PySem.W.kitOne K (.type "tuple") (.ref C_G) = some false) (x_idict : PySem.W.kitOne K (.type "dict") (.ref C_G) = some false)
    (x_mk : PySem.W.makesIn K C_G = true) (x_in : PySem.W.findIn K (.ref C_G) "__init__" = some (some (.ref f_init))) (x_fn : PySem.W.isFn K (.ref f_init) = true)
    (l_init : K.lookup f_init = some ⟨oc_init, od_init, .func (PySem.W.fnOf "__init__" "Ground.__init__" (defArgs s_init) (defBody s_init) (defScope s_init) .none kV_init dc_init pm_init an_init cd_init ct_init), sl_init⟩) (c_init : PySem.W.codeIn K cd_init "Ground.__init__" = true) (k_init : PySem.W.keepIn K (.ref f_init) = true)
    (z_abs : PySem.W.nsIn K mainGlobals "abs" = some none)
    (z_all : PySem.W.nsIn K mainGlobals "all" = some none)
    (z_any : PySem.W.nsIn K mainGlobals "any" = some none)
    (z_bool : PySem.W.nsIn K mainGlobals "bool" = some none)
    (z_dict : PySem.W.nsIn K mainGlobals "dict" = some none)
    (z_enumerate : PySem.W.nsIn K mainGlobals "enumerate" = some none)
    (z_int : PySem.W.nsIn K mainGlobals "int" = some none)
    (z_isinstance : PySem.W.nsIn K mainGlobals "isinstance" = some none)
    (z_len : PySem.W.nsIn K mainGlobals "len" = some none)
    (z_list : PySem.W.nsIn K mainGlobals "list" = some none)
    (z_max : PySem.W.nsIn K mainGlobals "max" = some none)
    (z_min : PySem.W.nsIn K mainGlobals "min" = some none)
    (z_range : PySem.W.nsIn K mainGlobals "range" = some none)
    (z_sorted : PySem.W.nsIn K mainGlobals "sorted" = some none)
    (z_str : PySem.W.nsIn K mainGlobals "str" = some none)
    (z_sum : PySem.W.nsIn K mainGlobals "sum" = some none)
    (z_tuple : PySem.W.nsIn K mainGlobals "tuple" = some none)
    (z_zip : PySem.W.nsIn K mainGlobals "zip" = some none)
    : Top K mg := ⟨f_is_whole_words, _, PySem.W.mg_of X G a_is_whole_words, fun_mk l_is_whole_words c_is_whole_words k_is_whole_words, f_is_count, PySem.W.fnOf "is_count" "is_count" (defArgs s_is_count) (defBody s_is_count) (defScope s_is_count) (.ref t_is_count) kV_is_count dc_is_count pm_is_count an_is_count cd_is_count ct_is_count, PySem.W.mg_of X G a_is_count, ⟨⟨oc_is_count, od_is_count, .ref t_is_count, kV_is_count, dc_is_count, pm_is_count, an_is_count, cd_is_count, ct_is_count, sl_is_count, rfl, l_is_count, c_is_count, .inr ⟨by simp, t_is_count, _, _, _, rfl, t2_is_count, rfl, .cons rfl (.nil)⟩, .inl rfl⟩, k_is_count⟩, f_is_text, _, PySem.W.mg_of X G a_is_text, fun_mk l_is_text c_is_text k_is_text, f_is_word, _, PySem.W.mg_of X G a_is_word, fun_mk l_is_word c_is_word k_is_word, f_is_rising, _, PySem.W.mg_of X G a_is_rising, fun_mk l_is_rising c_is_rising k_is_rising, f_has, _, PySem.W.mg_of X G a_has, fun_mk l_has c_has k_has, f_repeats, _, PySem.W.mg_of X G a_repeats, fun_mk l_repeats c_repeats k_repeats, f_check_ground, _, PySem.W.mg_of X G a_check_ground, fun_mk l_check_ground c_check_ground k_check_ground, f_is_text_of, _, PySem.W.mg_of X G a_is_text_of, fun_mk l_is_text_of c_is_text_of k_is_text_of, f_sign_at, _, PySem.W.mg_of X G a_sign_at, fun_mk l_sign_at c_sign_at k_sign_at, f_window_in, _, PySem.W.mg_of X G a_window_in, fun_mk l_window_in c_window_in k_window_in, f_is_word_of, _, PySem.W.mg_of X G a_is_word_of, fun_mk l_is_word_of c_is_word_of k_is_word_of, f_is_rule_in, _, PySem.W.mg_of X G a_is_rule_in, fun_mk l_is_rule_in c_is_rule_in k_is_rule_in, f_check_rule, _, PySem.W.mg_of X G a_check_rule, fun_mk l_check_rule c_check_rule k_check_rule, f_signs_between, _, PySem.W.mg_of X G a_signs_between, fun_mk l_signs_between c_signs_between k_signs_between, f_seen_at, _, PySem.W.mg_of X G a_seen_at, fun_mk l_seen_at c_seen_at k_seen_at, f_marked_in, _, PySem.W.mg_of X G a_marked_in, fun_mk l_marked_in c_marked_in k_marked_in, f_near_words, _, PySem.W.mg_of X G a_near_words, fun_mk l_near_words c_near_words k_near_words, f_missed_in, _, PySem.W.mg_of X G a_missed_in, fun_mk l_missed_in c_missed_in k_missed_in, f_missed, _, PySem.W.mg_of X G a_missed, fun_mk l_missed c_missed k_missed, f_is_missed, _, PySem.W.mg_of X G a_is_missed, fun_mk l_is_missed c_is_missed k_is_missed, f_is_whole_rules, _, PySem.W.mg_of X G a_is_whole_rules, fun_mk l_is_whole_rules c_is_whole_rules k_is_whole_rules, f__law_dice, _, PySem.W.mg_of X G a__law_dice, fun_mk l__law_dice c__law_dice k__law_dice, f__law_mixed, _, PySem.W.mg_of X G a__law_mixed, fun_mk l__law_mixed c__law_mixed k__law_mixed, f__law_draw, _, PySem.W.mg_of X G a__law_draw, fun_mk l__law_draw c__law_draw k__law_draw, f__law_one_of, _, PySem.W.mg_of X G a__law_one_of, fun_mk l__law_one_of c__law_one_of k__law_one_of, f__law_exact, _, PySem.W.mg_of X G a__law_exact, fun_mk l__law_exact c__law_exact k__law_exact, f__law_dices, _, PySem.W.mg_of X G a__law_dices, fun_mk l__law_dices c__law_dices k__law_dices, f__law_letters, _, PySem.W.mg_of X G a__law_letters, fun_mk l__law_letters c__law_letters k__law_letters, f__law_repeats, _, PySem.W.mg_of X G a__law_repeats, fun_mk l__law_repeats c__law_repeats k__law_repeats, f__law_words_of, _, PySem.W.mg_of X G a__law_words_of, fun_mk l__law_words_of c__law_words_of k__law_words_of, f__law_window, _, PySem.W.mg_of X G a__law_window, fun_mk l__law_window c__law_window k__law_window, f__law_places, _, PySem.W.mg_of X G a__law_places, fun_mk l__law_places c__law_places k__law_places, f__law_all_cuts, _, PySem.W.mg_of X G a__law_all_cuts, fun_mk l__law_all_cuts c__law_all_cuts k__law_all_cuts, f__law_text, _, PySem.W.mg_of X G a__law_text, fun_mk l__law_text c__law_text k__law_text, f__law_made, _, PySem.W.mg_of X G a__law_made, fun_mk l__law_made c__law_made k__law_made, f__law_other_sign, _, PySem.W.mg_of X G a__law_other_sign, fun_mk l__law_other_sign c__law_other_sign k__law_other_sign, f__law_drawn_word, _, PySem.W.mg_of X G a__law_drawn_word, fun_mk l__law_drawn_word c__law_drawn_word k__law_drawn_word, f__law_near_at, _, PySem.W.mg_of X G a__law_near_at, fun_mk l__law_near_at c__law_near_at k__law_near_at, f__law_seen, _, PySem.W.mg_of X G a__law_seen, fun_mk l__law_seen c__law_seen k__law_seen, f__law_marked, _, PySem.W.mg_of X G a__law_marked, fun_mk l__law_marked c__law_marked k__law_marked, f__law_is_apart, _, PySem.W.mg_of X G a__law_is_apart, fun_mk l__law_is_apart c__law_is_apart k__law_is_apart, f__law_drawn_rule, _, PySem.W.mg_of X G a__law_drawn_rule, fun_mk l__law_drawn_rule c__law_drawn_rule k__law_drawn_rule, f__law_misses, _, PySem.W.mg_of X G a__law_misses, fun_mk l__law_misses c__law_misses k__law_misses, f__law_misses_some, _, PySem.W.mg_of X G a__law_misses_some, fun_mk l__law_misses_some c__law_misses_some k__law_misses_some, f__law_near_rule, _, PySem.W.mg_of X G a__law_near_rule, fun_mk l__law_near_rule c__law_near_rule k__law_near_rule, f__law_rule_right, _, PySem.W.mg_of X G a__law_rule_right, fun_mk l__law_rule_right c__law_rule_right k__law_rule_right, f__law_judged_right, _, PySem.W.mg_of X G a__law_judged_right, fun_mk l__law_judged_right c__law_judged_right k__law_judged_right, f_law, _, PySem.W.mg_of X G a_law, fun_mk l_law c_law k_law, PySem.W.mg_none_of X G z_abs, PySem.W.mg_none_of X G z_all, PySem.W.mg_none_of X G z_any, PySem.W.mg_none_of X G z_bool, PySem.W.mg_none_of X G z_dict, PySem.W.mg_none_of X G z_enumerate, PySem.W.mg_none_of X G z_int, PySem.W.mg_none_of X G z_isinstance, PySem.W.mg_none_of X G z_len, PySem.W.mg_none_of X G z_list, PySem.W.mg_none_of X G z_max, PySem.W.mg_none_of X G z_min, PySem.W.mg_none_of X G z_range, PySem.W.mg_none_of X G z_sorted, PySem.W.mg_none_of X G z_str, PySem.W.mg_none_of X G z_sum, PySem.W.mg_none_of X G z_tuple, PySem.W.mg_none_of X G z_zip, C_G, PySem.W.mg_of X G x_C, ⟨⟨x_pg, x_hd, x_po, x_sa⟩, x_nR, x_nL, x_nS, x_nK, x_ha, x_hn, x_htk, x_hm, x_kp, x_iNoneType, x_ibool, x_iint, x_istr, x_ilist, x_ituple, x_idict⟩, f_init, _, fun_mk l_init c_init k_init, ⟨x_mk, x_in, x_fn, x_kp⟩, fun s v => .of_eq rfl⟩
end K32
namespace K32
open PySem PySem.Spec PyProof.Rows L2 DL
theorem all_ok {P : Program} {w : World} {K : PySem.W.Frag} {mg : Str → Option Value} {base : Heap} (T : Top K mg) : FnOk P w K mg base CX0 10 T.a_law T.d_law ["script"] (spLaw K) := by
  have hG : HasGnd (kitG K T.C_Ground cv0) T.C_Ground cv0 := kitG_has cv0_keys
  have h_is_whole_words := ok_is_whole_words (κ := (kitG K T.C_Ground cv0)) (P := P) (w := w) (base := base) T (F := F_is_whole_words) law_is_whole_words rfl
  have c_is_whole_words := cal_is_whole_words T h_is_whole_words
  have h_is_count := ok_is_count (κ := (kitG K T.C_Ground cv0)) (P := P) (w := w) (base := base) T c_is_whole_words (F := F_is_count) law_is_count rfl
  have c_is_count := cal_is_count_0 T h_is_count
  have c_is_count_1 := cal_is_count_1 T h_is_count
  have h_is_text := ok_is_text (κ := (kitG K T.C_Ground cv0)) (P := P) (w := w) (base := base) T (F := F_is_text) law_is_text rfl
  have c_is_text := cal_is_text T h_is_text
  have h_is_word := ok_is_word (κ := (kitG K T.C_Ground cv0)) (P := P) (w := w) (base := base) T c_is_text (F := F_is_word) law_is_word rfl
  have c_is_word := cal_is_word T h_is_word
  have h_is_rising := ok_is_rising (κ := (kitG K T.C_Ground cv0)) (P := P) (w := w) (base := base) T (F := F_is_rising) law_is_rising rfl
  have c_is_rising := cal_is_rising T h_is_rising
  have h_has := ok_has (κ := (kitG K T.C_Ground cv0)) (P := P) (w := w) (base := base) T (F := F_has) law_has rfl
  have c_has := cal_has T h_has
  have h_repeats := ok_repeats (κ := (kitG K T.C_Ground cv0)) (P := P) (w := w) (base := base) T c_has (F := F_repeats) law_repeats rfl
  have c_repeats := cal_repeats T h_repeats
  have h_check_ground := ok_check_ground (κ := (kitG K T.C_Ground cv0)) (P := P) (w := w) (base := base) T hG (F := F_check_ground) law_check_ground rfl
  have c_check_ground := cal_check_ground T h_check_ground
  have h_is_text_of := ok_is_text_of (κ := (kitG K T.C_Ground cv0)) (P := P) (w := w) (base := base) T hG (F := F_is_text_of) law_is_text_of rfl
  have c_is_text_of := cal_is_text_of T h_is_text_of
  have h_sign_at := ok_sign_at (κ := (kitG K T.C_Ground cv0)) (P := P) (w := w) (base := base) T hG (F := F_sign_at) law_sign_at rfl
  have c_sign_at := cal_sign_at T h_sign_at
  have h_window_in := ok_window_in (κ := (kitG K T.C_Ground cv0)) (P := P) (w := w) (base := base) T c_sign_at hG (F := F_window_in) law_window_in rfl
  have c_window_in := cal_window_in T h_window_in
  have h_is_word_of := ok_is_word_of (κ := (kitG K T.C_Ground cv0)) (P := P) (w := w) (base := base) T c_is_text_of c_is_word (F := F_is_word_of) law_is_word_of rfl
  have c_is_word_of := cal_is_word_of T h_is_word_of
  have h_is_rule_in := ok_is_rule_in (κ := (kitG K T.C_Ground cv0)) (P := P) (w := w) (base := base) T c_is_count_1 c_is_word_of (F := F_is_rule_in) law_is_rule_in rfl
  have c_is_rule_in := cal_is_rule_in T h_is_rule_in
  have h_check_rule := ok_check_rule (κ := (kitG K T.C_Ground cv0)) (P := P) (w := w) (base := base) T c_check_ground c_is_rule_in (F := F_check_rule) law_check_rule rfl
  have c_check_rule := cal_check_rule T h_check_rule
  have h_signs_between := ok_signs_between (κ := (kitG K T.C_Ground cv0)) (P := P) (w := w) (base := base) T hG (F := F_signs_between) law_signs_between rfl
  have c_signs_between := cal_signs_between T h_signs_between
  have h_seen_at := ok_seen_at (κ := (kitG K T.C_Ground cv0)) (P := P) (w := w) (base := base) T c_signs_between (F := F_seen_at) law_seen_at rfl
  have c_seen_at := cal_seen_at T h_seen_at
  have h_marked_in := ok_marked_in (κ := (kitG K T.C_Ground cv0)) (P := P) (w := w) (base := base) T c_seen_at (F := F_marked_in) law_marked_in rfl
  have c_marked_in := cal_marked_in T h_marked_in
  have h_near_words := ok_near_words (κ := (kitG K T.C_Ground cv0)) (P := P) (w := w) (base := base) T (F := F_near_words) law_near_words rfl
  have c_near_words := cal_near_words T h_near_words
  have h_missed_in := ok_missed_in (κ := (kitG K T.C_Ground cv0)) (P := P) (w := w) (base := base) T c_repeats hG (F := F_missed_in) law_missed_in rfl
  have c_missed_in := cal_missed_in T h_missed_in
  have h_missed := ok_missed (κ := (kitG K T.C_Ground cv0)) (P := P) (w := w) (base := base) T c_check_rule c_missed_in hG (F := F_missed) law_missed rfl
  have c_missed := cal_missed T h_missed
  have h_is_missed := ok_is_missed (κ := (kitG K T.C_Ground cv0)) (P := P) (w := w) (base := base) T c_check_rule c_is_count_1 c_is_text_of c_marked_in c_repeats c_window_in hG (F := F_is_missed) law_is_missed rfl
  have c_is_missed := cal_is_missed T h_is_missed
  have h_is_whole_rules := ok_is_whole_rules (κ := (kitG K T.C_Ground cv0)) (P := P) (w := w) (base := base) T c_check_rule c_missed_in c_near_words hG (F := F_is_whole_rules) law_is_whole_rules rfl
  have c_is_whole_rules := cal_is_whole_rules T h_is_whole_rules
  have h__law_dice := dice_of hG.d (ok__law_dice (κ := (kitG K T.C_Ground cv0)) (P := P) (w := w) (base := base) T pre_dice0 rfl) dice_step
  have c__law_dice := cal__law_dice T h__law_dice
  have h__law_mixed := ok__law_mixed (κ := (kitG K T.C_Ground cv0)) (P := P) (w := w) (base := base) T (F := F_mixed) pre_mixed rfl
  have c__law_mixed := cal__law_mixed T h__law_mixed
  have h__law_draw := ok__law_draw (κ := (kitG K T.C_Ground cv0)) (P := P) (w := w) (base := base) T c__law_mixed hG.d (F := F_draw) pre_draw rfl
  have c__law_draw := cal__law_draw T h__law_draw
  have h__law_one_of := ok__law_one_of (κ := (kitG K T.C_Ground cv0)) (P := P) (w := w) (base := base) T c__law_draw (F := F_one_of) pre_one_of rfl
  have c__law_one_of := cal__law_one_of T h__law_one_of
  have hx__law_exact : ∀ k : Nat, FnOk P w K mg base CX0 (k + 1) T.a__law_exact T.d__law_exact ["mine", "theirs"] (spD (kitG K T.C_Ground cv0) 2 (F_exact k)) := by
    intro k
    induction k with
    | zero => exact ok__law_exact T (Nat.zero_le _) (cal__law_exact (k := 0) T fn_none) (pre_exactF 0 F_none fun j h => nomatch h) rfl
    | succ k ih => exact ok__law_exact T (Nat.zero_le _) (cal__law_exact T ih) (pre_exactF (k + 1) (F_exact k) fun j h => by cases h; rfl) rfl
  have h__law_exact := (hx__law_exact 5).mono (k := 8) (by decide)
  have c__law_exact := cal__law_exact T h__law_exact
  have h__law_dices := ok__law_dices (κ := (kitG K T.C_Ground cv0)) (P := P) (w := w) (base := base) T c__law_dice (F := F_dices) pre_dices rfl
  have c__law_dices := cal__law_dices T h__law_dices
  have h__law_letters := ok__law_letters (κ := (kitG K T.C_Ground cv0)) (P := P) (w := w) (base := base) T c__law_draw (F := F__law_letters) law__law_letters rfl
  have c__law_letters := cal__law_letters T h__law_letters
  have h__law_repeats := ok__law_repeats (κ := (kitG K T.C_Ground cv0)) (P := P) (w := w) (base := base) T (F := F__law_repeats) law__law_repeats rfl
  have c__law_repeats := cal__law_repeats T h__law_repeats
  have h__law_words_of := ok__law_words_of (κ := (kitG K T.C_Ground cv0)) (P := P) (w := w) (base := base) T (F := F__law_words_of) law__law_words_of rfl
  have c__law_words_of := cal__law_words_of T h__law_words_of
  have h__law_window := ok__law_window (κ := (kitG K T.C_Ground cv0)) (P := P) (w := w) (base := base) T (F := F__law_window) law__law_window rfl
  have c__law_window := cal__law_window T h__law_window
  have h__law_places := ok__law_places (κ := (kitG K T.C_Ground cv0)) (P := P) (w := w) (base := base) T c__law_repeats c__law_window (F := F__law_places) law__law_places rfl
  have c__law_places := cal__law_places T h__law_places
  have h__law_all_cuts := ok__law_all_cuts (κ := (kitG K T.C_Ground cv0)) (P := P) (w := w) (base := base) T c__law_places (F := F__law_all_cuts) law__law_all_cuts rfl
  have c__law_all_cuts := cal__law_all_cuts T h__law_all_cuts
  have h__law_text := ok__law_text (κ := (kitG K T.C_Ground cv0)) (P := P) (w := w) (base := base) T c__law_draw c__law_one_of (F := F__law_text) law__law_text rfl
  have c__law_text := cal__law_text T h__law_text
  have hI := ok_init (κ := (kitG K T.C_Ground cv0)) (P := P) (w := w) (base := base) T c_is_count_1 c_is_rising c_is_text hG law_init1 law_init2 rfl
  have h__law_made := ok__law_made (κ := (kitG K T.C_Ground cv0)) (P := P) (w := w) (base := base) T hG hI (F := F__law_made) law__law_made rfl
  have c__law_made := cal__law_made T h__law_made
  have h__law_other_sign := ok__law_other_sign (κ := (kitG K T.C_Ground cv0)) (P := P) (w := w) (base := base) T (F := F__law_other_sign) law__law_other_sign rfl
  have c__law_other_sign := cal__law_other_sign T h__law_other_sign
  have h__law_drawn_word := ok__law_drawn_word (κ := (kitG K T.C_Ground cv0)) (P := P) (w := w) (base := base) T c__law_one_of (F := F__law_drawn_word) law__law_drawn_word rfl
  have c__law_drawn_word := cal__law_drawn_word T h__law_drawn_word
  have h__law_near_at := ok__law_near_at (κ := (kitG K T.C_Ground cv0)) (P := P) (w := w) (base := base) T (F := F__law_near_at) law__law_near_at rfl
  have c__law_near_at := cal__law_near_at T h__law_near_at
  have h__law_seen := ok__law_seen (κ := (kitG K T.C_Ground cv0)) (P := P) (w := w) (base := base) T (F := F__law_seen) law__law_seen rfl
  have c__law_seen := cal__law_seen T h__law_seen
  have h__law_marked := ok__law_marked (κ := (kitG K T.C_Ground cv0)) (P := P) (w := w) (base := base) T c__law_seen (F := F__law_marked) law__law_marked rfl
  have c__law_marked := cal__law_marked T h__law_marked
  have h__law_is_apart := ok__law_is_apart (κ := (kitG K T.C_Ground cv0)) (P := P) (w := w) (base := base) T c__law_near_at (F := F__law_is_apart) law__law_is_apart rfl
  have c__law_is_apart := cal__law_is_apart T h__law_is_apart
  have h__law_drawn_rule := ok__law_drawn_rule (κ := (kitG K T.C_Ground cv0)) (P := P) (w := w) (base := base) T c__law_draw c__law_drawn_word c__law_is_apart (F := F__law_drawn_rule) law__law_drawn_rule rfl
  have c__law_drawn_rule := cal__law_drawn_rule T h__law_drawn_rule
  have h__law_misses := ok__law_misses (κ := (kitG K T.C_Ground cv0)) (P := P) (w := w) (base := base) T c__law_marked c__law_repeats c__law_window (F := F__law_misses) law__law_misses rfl
  have c__law_misses := cal__law_misses T h__law_misses
  have h__law_misses_some := ok__law_misses_some (κ := (kitG K T.C_Ground cv0)) (P := P) (w := w) (base := base) T c__law_repeats c__law_words_of (F := F__law_misses_some) law__law_misses_some rfl
  have c__law_misses_some := cal__law_misses_some T h__law_misses_some
  have h__law_near_rule := ok__law_near_rule (κ := (kitG K T.C_Ground cv0)) (P := P) (w := w) (base := base) T c__law_all_cuts c__law_draw c__law_drawn_rule c__law_drawn_word c__law_words_of (F := F__law_near_rule) law__law_near_rule rfl
  have c__law_near_rule := cal__law_near_rule T h__law_near_rule
  have h__law_rule_right := ok__law_rule_right (κ := (kitG K T.C_Ground cv0)) (P := P) (w := w) (base := base) T c__law_exact c__law_is_apart c__law_misses c__law_misses_some c_is_missed c_is_whole_rules c_missed (F := F__law_rule_right) law__law_rule_right rfl
  have c__law_rule_right := cal__law_rule_right T h__law_rule_right
  have h__law_judged_right := ok__law_judged_right (κ := (kitG K T.C_Ground cv0)) (P := P) (w := w) (base := base) T c__law_drawn_word c__law_exact c__law_made c__law_misses c__law_one_of c__law_other_sign c__law_text c_is_missed (F := F__law_judged_right) law__law_judged_right rfl
  have c__law_judged_right := cal__law_judged_right T h__law_judged_right
  have h_law := ok_law (κ := (kitG K T.C_Ground cv0)) (P := P) (w := w) (base := base) T c__law_dices c__law_draw c__law_exact c__law_judged_right c__law_letters c__law_made c__law_near_rule c__law_one_of c__law_rule_right (F := F_law) law_law rfl
  have c_law := cal_law T h_law
  exact fn_law h_law rfl
theorem bind_ok {K : PySem.W.Frag} {mg : Str → Option Value} (T : Top K mg) : ∀ (s : Shared) (v : Value), BindsTo s T.d_law ⟨[v], []⟩ [("script", v)] := T.bind_law
theorem F_ok {P : Program} {w : World} {K : PySem.W.Frag} {mg : Str → Option Value} {fa : Addr} (T : Top K mg) (h : mg "law" = some (.ref fa)) : ∃ fd : FuncData, (∀ (s : Shared) (v : Value), BindsTo s fd ⟨[v], []⟩ [("script", v)]) ∧ ∀ base : Heap, K.In base → base.Ns mainGlobals mg → FnOk P w K mg base CX0 10 fa fd ["script"] (spLaw K) := by
  have e := h.symm.trans T.m_law
  cases e
  exact ⟨T.d_law, bind_ok T, fun base _ _ => all_ok T⟩
end K32
open PySem PySem.W PyProof.Rows
set_option maxHeartbeats 0 in
theorem PySem.Challenge.cw_owncuts_k32_whole_rules_that_miss_nothin_holds : PySem.Challenge.rw_owncuts_k32_whole_rules_that_miss_nothin.Holds := by
  w_on; o_law; k_head; (case hw => w_witness2)
  k_fill
  refine L2.walk_of (l := PySem.Challenge.rw_owncuts_k32_whole_rules_that_miss_nothin) (n := 63) (k := 10) (x := "script") (CX := fun _ => L2.CX0) (sp := fun w => DL.spLaw _) rfl (by decide) rfl ⟨rfl, by decide, by decide⟩ (fun w h Y => PySem.W.kIn_of Y) ?F (fun _ _ a ns hl _ hS => ⟨a, ns, rfl, hl, hS, fun _ => rfl⟩) (fun _ _ _ _ _ h => h)
  case F =>
    intro w mg fa h KX G hmg
    refine' K32.F_ok (K32.top_mk KX G ?a_is_whole_words ?l_is_whole_words ?c_is_whole_words ?k_is_whole_words ?a_is_count ?l_is_count ?c_is_count ?k_is_count ?t2_is_count ?a_is_text ?l_is_text ?c_is_text ?k_is_text ?a_is_word ?l_is_word ?c_is_word ?k_is_word ?a_is_rising ?l_is_rising ?c_is_rising ?k_is_rising ?a_has ?l_has ?c_has ?k_has ?a_repeats ?l_repeats ?c_repeats ?k_repeats ?a_check_ground ?l_check_ground ?c_check_ground ?k_check_ground ?a_is_text_of ?l_is_text_of ?c_is_text_of ?k_is_text_of ?a_sign_at ?l_sign_at ?c_sign_at ?k_sign_at ?a_window_in ?l_window_in ?c_window_in ?k_window_in ?a_is_word_of ?l_is_word_of ?c_is_word_of ?k_is_word_of ?a_is_rule_in ?l_is_rule_in ?c_is_rule_in ?k_is_rule_in ?a_check_rule ?l_check_rule ?c_check_rule ?k_check_rule ?a_signs_between ?l_signs_between ?c_signs_between ?k_signs_between ?a_seen_at ?l_seen_at ?c_seen_at ?k_seen_at ?a_marked_in ?l_marked_in ?c_marked_in ?k_marked_in ?a_near_words ?l_near_words ?c_near_words ?k_near_words ?a_missed_in ?l_missed_in ?c_missed_in ?k_missed_in ?a_missed ?l_missed ?c_missed ?k_missed ?a_is_missed ?l_is_missed ?c_is_missed ?k_is_missed ?a_is_whole_rules ?l_is_whole_rules ?c_is_whole_rules ?k_is_whole_rules ?a__law_dice ?l__law_dice ?c__law_dice ?k__law_dice ?a__law_mixed ?l__law_mixed ?c__law_mixed ?k__law_mixed ?a__law_draw ?l__law_draw ?c__law_draw ?k__law_draw ?a__law_one_of ?l__law_one_of ?c__law_one_of ?k__law_one_of ?a__law_exact ?l__law_exact ?c__law_exact ?k__law_exact ?a__law_dices ?l__law_dices ?c__law_dices ?k__law_dices ?a__law_letters ?l__law_letters ?c__law_letters ?k__law_letters ?a__law_repeats ?l__law_repeats ?c__law_repeats ?k__law_repeats ?a__law_words_of ?l__law_words_of ?c__law_words_of ?k__law_words_of ?a__law_window ?l__law_window ?c__law_window ?k__law_window ?a__law_places ?l__law_places ?c__law_places ?k__law_places ?a__law_all_cuts ?l__law_all_cuts ?c__law_all_cuts ?k__law_all_cuts ?a__law_text ?l__law_text ?c__law_text ?k__law_text ?a__law_made ?l__law_made ?c__law_made ?k__law_made ?a__law_other_sign ?l__law_other_sign ?c__law_other_sign ?k__law_other_sign ?a__law_drawn_word ?l__law_drawn_word ?c__law_drawn_word ?k__law_drawn_word ?a__law_near_at ?l__law_near_at ?c__law_near_at ?k__law_near_at ?a__law_seen ?l__law_seen ?c__law_seen ?k__law_seen ?a__law_marked ?l__law_marked ?c__law_marked ?k__law_marked ?a__law_is_apart ?l__law_is_apart ?c__law_is_apart ?k__law_is_apart ?a__law_drawn_rule ?l__law_drawn_rule ?c__law_drawn_rule ?k__law_drawn_rule ?a__law_misses ?l__law_misses ?c__law_misses ?k__law_misses ?a__law_misses_some ?l__law_misses_some ?c__law_misses_some ?k__law_misses_some ?a__law_near_rule ?l__law_near_rule ?c__law_near_rule ?k__law_near_rule ?a__law_rule_right ?l__law_rule_right ?c__law_rule_right ?k__law_rule_right ?a__law_judged_right ?l__law_judged_right ?c__law_judged_right ?k__law_judged_right ?a_law ?l_law ?c_law ?k_law ?x_C ?x_pg ?x_hd ?x_po ?x_sa ?x_nR ?x_nL ?x_nS ?x_nK ?x_ha ?x_hn ?x_htk ?x_hm ?x_kp ?x_iNoneType ?x_ibool ?x_iint ?x_istr ?x_ilist ?x_ituple ?x_idict ?x_mk ?x_in ?x_fn ?l_init ?c_init ?k_init ?z_abs ?z_all ?z_any ?z_bool ?z_dict ?z_enumerate ?z_int ?z_isinstance ?z_len ?z_list ?z_max ?z_min ?z_range ?z_sorted ?z_str ?z_sum ?z_tuple ?z_zip) hmg
    (case a_is_whole_words => k_is); (case l_is_whole_words => k_is); (case c_is_whole_words => k_is); (case k_is_whole_words => k_is); (case a_is_count => k_is); (case l_is_count => k_is); (case c_is_count => k_is); (case k_is_count => k_is); (case t2_is_count => k_is); (case a_is_text => k_is); (case l_is_text => k_is); (case c_is_text => k_is); (case k_is_text => k_is); (case a_is_word => k_is); (case l_is_word => k_is); (case c_is_word => k_is); (case k_is_word => k_is); (case a_is_rising => k_is); (case l_is_rising => k_is); (case c_is_rising => k_is); (case k_is_rising => k_is); (case a_has => k_is); (case l_has => k_is); (case c_has => k_is); (case k_has => k_is); (case a_repeats => k_is); (case l_repeats => k_is); (case c_repeats => k_is); (case k_repeats => k_is); (case a_check_ground => k_is); (case l_check_ground => k_is); (case c_check_ground => k_is); (case k_check_ground => k_is); (case a_is_text_of => k_is); (case l_is_text_of => k_is); (case c_is_text_of => k_is); (case k_is_text_of => k_is); (case a_sign_at => k_is); (case l_sign_at => k_is); (case c_sign_at => k_is); (case k_sign_at => k_is); (case a_window_in => k_is); (case l_window_in => k_is); (case c_window_in => k_is); (case k_window_in => k_is); (case a_is_word_of => k_is); (case l_is_word_of => k_is); (case c_is_word_of => k_is); (case k_is_word_of => k_is); (case a_is_rule_in => k_is); (case l_is_rule_in => k_is); (case c_is_rule_in => k_is); (case k_is_rule_in => k_is); (case a_check_rule => k_is); (case l_check_rule => k_is); (case c_check_rule => k_is); (case k_check_rule => k_is); (case a_signs_between => k_is); (case l_signs_between => k_is); (case c_signs_between => k_is); (case k_signs_between => k_is); (case a_seen_at => k_is); (case l_seen_at => k_is); (case c_seen_at => k_is); (case k_seen_at => k_is); (case a_marked_in => k_is); (case l_marked_in => k_is); (case c_marked_in => k_is); (case k_marked_in => k_is); (case a_near_words => k_is); (case l_near_words => k_is); (case c_near_words => k_is); (case k_near_words => k_is); (case a_missed_in => k_is); (case l_missed_in => k_is); (case c_missed_in => k_is); (case k_missed_in => k_is); (case a_missed => k_is); (case l_missed => k_is); (case c_missed => k_is); (case k_missed => k_is); (case a_is_missed => k_is); (case l_is_missed => k_is); (case c_is_missed => k_is); (case k_is_missed => k_is); (case a_is_whole_rules => k_is); (case l_is_whole_rules => k_is); (case c_is_whole_rules => k_is); (case k_is_whole_rules => k_is); (case a__law_dice => k_is); (case l__law_dice => k_is); (case c__law_dice => k_is); (case k__law_dice => k_is); (case a__law_mixed => k_is); (case l__law_mixed => k_is); (case c__law_mixed => k_is); (case k__law_mixed => k_is); (case a__law_draw => k_is); (case l__law_draw => k_is); (case c__law_draw => k_is); (case k__law_draw => k_is); (case a__law_one_of => k_is); (case l__law_one_of => k_is); (case c__law_one_of => k_is); (case k__law_one_of => k_is); (case a__law_exact => k_is); (case l__law_exact => k_is); (case c__law_exact => k_is); (case k__law_exact => k_is); (case a__law_dices => k_is); (case l__law_dices => k_is); (case c__law_dices => k_is); (case k__law_dices => k_is); (case a__law_letters => k_is); (case l__law_letters => k_is); (case c__law_letters => k_is); (case k__law_letters => k_is); (case a__law_repeats => k_is); (case l__law_repeats => k_is); (case c__law_repeats => k_is); (case k__law_repeats => k_is); (case a__law_words_of => k_is); (case l__law_words_of => k_is); (case c__law_words_of => k_is); (case k__law_words_of => k_is); (case a__law_window => k_is); (case l__law_window => k_is); (case c__law_window => k_is); (case k__law_window => k_is); (case a__law_places => k_is); (case l__law_places => k_is); (case c__law_places => k_is); (case k__law_places => k_is); (case a__law_all_cuts => k_is); (case l__law_all_cuts => k_is); (case c__law_all_cuts => k_is); (case k__law_all_cuts => k_is); (case a__law_text => k_is); (case l__law_text => k_is); (case c__law_text => k_is); (case k__law_text => k_is); (case a__law_made => k_is); (case l__law_made => k_is); (case c__law_made => k_is); (case k__law_made => k_is); (case a__law_other_sign => k_is); (case l__law_other_sign => k_is); (case c__law_other_sign => k_is); (case k__law_other_sign => k_is); (case a__law_drawn_word => k_is); (case l__law_drawn_word => k_is); (case c__law_drawn_word => k_is); (case k__law_drawn_word => k_is); (case a__law_near_at => k_is); (case l__law_near_at => k_is); (case c__law_near_at => k_is); (case k__law_near_at => k_is); (case a__law_seen => k_is); (case l__law_seen => k_is); (case c__law_seen => k_is); (case k__law_seen => k_is); (case a__law_marked => k_is); (case l__law_marked => k_is); (case c__law_marked => k_is); (case k__law_marked => k_is); (case a__law_is_apart => k_is); (case l__law_is_apart => k_is); (case c__law_is_apart => k_is); (case k__law_is_apart => k_is); (case a__law_drawn_rule => k_is); (case l__law_drawn_rule => k_is); (case c__law_drawn_rule => k_is); (case k__law_drawn_rule => k_is); (case a__law_misses => k_is); (case l__law_misses => k_is); (case c__law_misses => k_is); (case k__law_misses => k_is); (case a__law_misses_some => k_is); (case l__law_misses_some => k_is); (case c__law_misses_some => k_is); (case k__law_misses_some => k_is); (case a__law_near_rule => k_is); (case l__law_near_rule => k_is); (case c__law_near_rule => k_is); (case k__law_near_rule => k_is); (case a__law_rule_right => k_is); (case l__law_rule_right => k_is); (case c__law_rule_right => k_is); (case k__law_rule_right => k_is); (case a__law_judged_right => k_is); (case l__law_judged_right => k_is); (case c__law_judged_right => k_is); (case k__law_judged_right => k_is); (case a_law => k_is); (case l_law => k_is); (case c_law => k_is); (case k_law => k_is); (case x_C => k_is); (case x_pg => k_is); (case x_hd => k_is); (case x_po => k_is); (case x_sa => k_is); (case x_nR => k_is); (case x_nL => k_is); (case x_nS => k_is); (case x_nK => k_is); (case x_ha => k_is); (case x_hn => k_is); (case x_htk => k_is); (case x_hm => k_is); (case x_kp => k_is); (case x_iNoneType => kit_is); (case x_ibool => kit_is); (case x_iint => kit_is); (case x_istr => kit_is); (case x_ilist => kit_is); (case x_ituple => kit_is); (case x_idict => kit_is); (case x_mk => k_is); (case x_in => k_is); (case x_fn => k_is); (case l_init => k_is); (case c_init => k_is); (case k_init => k_is); (case z_abs => k_is); (case z_all => k_is); (case z_any => k_is); (case z_bool => k_is); (case z_dict => k_is); (case z_enumerate => k_is); (case z_int => k_is); (case z_isinstance => k_is); (case z_len => k_is); (case z_list => k_is); (case z_max => k_is); (case z_min => k_is); (case z_range => k_is); (case z_sorted => k_is); (case z_str => k_is); (case z_sum => k_is); (case z_tuple => k_is); (case z_zip => k_is)
