import PyProof.Rows.All
import Wide.All
import OpenK.AllK
import Wide.FinOn
import PySem.Challenge.RW_agohands_k62_copies_that_fit
import HandS.ForMost
import HandS.ForExc
import HandS.Wide
import HandS.TupMul
import HandS.TupAny
import HandS.IsInst
import HandS.Conv
import HandS.Flow
import KE.KeyNested
import HandS.Style
import HandS.EndBits
import HandS.WordsExc
import KE.KRevSl
import HandS.TupLen
import HandS.ForDict
import HandS.Deep
import KE.GoesMore
import KE.GoesEnum
import HandS.Text
import PyProof.StrOps2
import HandS.Zip
import PyProof.CollectIter
import HandS.Defaults
import HandS.SetFor
import PyProof.MaxThree
import PyProof.LongRange
import HandS.ExcIs
import HandS.ExcValue
import HandS.TryOnly
import PyProof.ExcBaseAll.ValueError
import HandS.SortInts
import HandS.SortRule
import HandS.TupLe
import HandS.SortKw
import KE.KMinKey
import HandS.DictTup
import HandS.SetBool
import HandS.Strs
import PyProof.EqKinds
import PyProof.NeKinds
import HandS.CallLocal
import KE.KIndexOf
import KE.DataCmp
import KE.GoesNew
set_option Elab.async false
set_option linter.all false
set_option maxRecDepth 100000
namespace TL
open PySem PySem.Spec PyProof.Rows L2

inductive T where
  | non | bl (b : Bool) | int (i : Int) | str (s : Str) | tup (xs : List T) | lst (xs : List T) | scr (xs : List T) | ref (n : Nat) | edi
  | fdt (ks : List (List Key)) (ts : List T) | fst (f : Int → Bool) | kt (d : PyData) | fv (x : Str) | ftp (xs : List T)
  deriving Inhabited

inductive Cell where
  | dead
  | lst (xs : List T)
  | dct (kvs : List (Key × T))
  | dtt (kvs : List (List Key × T))
  | dnt (kvs : List (NestedKey × T))
  | ins (c : Str) (fs : List (Str × T))
  | exc (c : Str)

abbrev AH := List Cell
abbrev Rho := List (Option T)
structure AS where
  k : Nat
  m : Nat → Addr
  G : Hp

/-- the script: a known list -/
def SqS (K : PySem.W.Frag) (H : Hp) (a : Addr) (xs : List V) : Prop :=
  Rd H a (.lst xs) ∨ ∃ its : List Value, K.lookup a = some { cls := .type "list", data := .seq its.toArray } ∧ its.length ≤ sizeLine ∧ Vals xs its
theorem SqS.sq {K : PySem.W.Frag} {H : Hp} {a : Addr} {xs : List V} (h : SqS K H a xs) : SqL K H a xs := by
  rcases h with h | ⟨its, h1, h2, h3⟩
  · exact .inl h
  · exact .inr ⟨_, its.toArray, _, h1, rfl, rfl, rfl, by rw [List.size_toArray]; exact h2, by simpa using h3⟩
mutual
def RelT (K : PySem.W.Frag) (S : AS) : T → V → Prop
  | .non, u => u = .non
  | .bl b, u => u = .bl b
  | .int i, u => u = .int i
  | .str s, u => u = .str s
  | .ref n, u => n < S.k ∧ u = .ref (S.m n)
  | .tup ts, u => ∃ a us, u = .ref a ∧ S.G a = some (.tup us) ∧ RelTs K S ts us
  | .ftp ts, u => ∃ a o us, u = .ref a ∧ S.G a = some (.frz o (.tup us)) ∧ o.dict = none ∧ RelTs K S ts us
  | .lst ts, u => ∃ a us, u = .ref a ∧ Rd S.G a (.lst us) ∧ RelTs K S ts us
  | .scr ts, u => ∃ a us, u = .ref a ∧ SqS K S.G a us ∧ RelTs K S ts us
  | .edi, u => ∃ a, u = .ref a ∧ S.G a = some (.dK [])
  | .fdt ks ts, u => ∃ a o us, u = .ref a ∧ S.G a = some (.frz o (.dT (ks.zip us))) ∧ ks.length = us.length ∧ RelTs K S ts us
  | .fst f, u => ∃ a n, u = .ref a ∧ S.G a = some (.set f n)
  | .kt d, u => ∃ a, u = .ref a ∧ ∀ H : Hp, Dp K H (.ref a) d
  | .fv x, u => ∃ a, u = .ref a ∧ PySem.W.nsIn K mainGlobals x = some (some (.ref a))
def RelTs (K : PySem.W.Frag) (S : AS) : List T → List V → Prop
  | [], us => us = []
  | t :: ts, us => ∃ u r, us = u :: r ∧ RelT K S t u ∧ RelTs K S ts r
end

mutual
def toNK : T → Option NestedKey
  | .non => some .none
  | .int i => some (.num i)
  | .bl b => some (.num (if b = true then 1 else 0))
  | .tup ts => (toNKs ts).map .tup
  | .str _ => none
  | .lst _ => none
  | .scr _ => none
  | .ref _ => none
  | .edi => none
  | .fdt _ _ => none
  | .fst _ => none
  | .kt _ => none
  | .fv _ => none
  | .ftp _ => none
def toNKs : List T → Option (List NestedKey)
  | [] => some []
  | t :: ts => match toNK t, toNKs ts with
    | some k, some ks => some (k :: ks)
    | _, _ => none
end
def nkOf (t : T) : Option NestedKey := match toNK t with
  | some k => if k.depth ≤ 8 then some k else none
  | none => none
/-- at a stands a dict of these keys (each with its tuple's place) and values -/
def DicN (a : Addr) (zs : List (NestedKey × Addr × V)) : Heap → Prop := fun h => ∃ ys : List (NestedKey × Addr × Value), Paired (fun (p : NestedKey × Addr × V) (q : NestedKey × Addr × Value) => p.1 = q.1 ∧ p.2.1 = q.2.1 ∧ RelV p.2.2 q.2.2) zs ys ∧
  ∃ o es ep, h.get? a = some o ∧ o.ExactDict ∧ o.data = .dict es ep ∧ (∀ w : World, es.toList = ys.map fun x => (⟨x.1.hash w, .ref x.2.1, x.2.2⟩ : DictEntry)) ∧ (ys.map (·.1)).Nodup
structure DntRel (K : PySem.W.Frag) (S : AS) (H : Hp) (a : Addr) (kvs : List (NestedKey × T)) (zs : List (NestedKey × Addr × V)) (kts : List T) : Prop where
  ks : zs.map (·.1) = kvs.map (·.1)
  kt : kts.map nkOf = kvs.map fun p => some p.1
  sys : (a == sysModules) = false
  len : zs.length ≤ sizeLine
  at_ : H a = some (.ext (DicN a zs))
  rk : RelTs K S kts (zs.map fun z => V.ref z.2.1)
  rv : RelTs K S (kvs.map (·.2)) (zs.map fun z => z.2.2)
def RelFs (K : PySem.W.Frag) (S : AS) (fs : List (Str × T)) (us : List (Str × V)) : Prop := fs.map (·.1) = us.map (·.1) ∧ RelTs K S (fs.map (·.2)) (us.map (·.2))
/-- an exception without attributes of its own stands at a -/
def ExcAt (a C : Addr) : Heap → Prop := fun h => ∃ o vs, h.get? a = some o ∧ o.cls = .ref C ∧ o.dict = none ∧ o.data = .fields vs
def CellRel (K : PySem.W.Frag) (mg : Str → Option Value) (S : AS) (H : Hp) (a : Addr) : Cell → Prop
  | .dead => True
  | .lst ts => ∃ us, H a = some (.lst us) ∧ RelTs K S ts us
  | .dct kvs => ∃ us : List V, kvs.length = us.length ∧ H a = some (.dK ((kvs.map (·.1)).zip us)) ∧ RelTs K S (kvs.map (·.2)) us
  | .dtt kvs => ∃ us : List V, kvs.length = us.length ∧ H a = some (.dT ((kvs.map (·.1)).zip us)) ∧ RelTs K S (kvs.map (·.2)) us
  | .dnt kvs => ∃ zs kts, DntRel K S H a kvs zs kts
  | .ins c fs => ∃ C dx us, H a = some (.ins C dx us) ∧ mg c = some (.ref C) ∧ RelFs K S fs us
  | .exc c => ∃ C, H a = some (.ext (ExcAt a C)) ∧ mg c = some (.ref C)

structure Ext (S : AS) (H : Hp) (S' : AS) (H' : Hp) : Prop where
  k : S.k ≤ S'.k
  m : ∀ n, n < S.k → S'.m n = S.m n
  g : ∀ a o, S.G a = some o → S'.G a = some o
  fr : ∀ a o, H a = some o → (∀ n, n < S.k → S.m n ≠ a) → H' a = some o
  nw : ∀ n, S.k ≤ n → n < S'.k → H (S'.m n) = none
  st : ∀ a o, H a = some o → ∃ o', H' a = some o'
  gn : ∀ a o, S'.G a = some o → S.G a = some o ∨ H a = none ∨ (∃ n, n < S.k ∧ S.m n = a) ∨ ∃ xs, H a = some (.tup xs)

structure HRel (K : PySem.W.Frag) (mg : Str → Option Value) (S : AS) (h : AH) (H : Hp) : Prop where
  k : S.k = h.length
  g : ∀ a o, S.G a = some o → H a = some o
  c : ∀ n c, h[n]? = some c → CellRel K mg S H (S.m n) c
  ng : ∀ n c, h[n]? = some c → c ≠ .dead → S.G (S.m n) = none
  lv : ∀ n, n < S.k → ∃ o, H (S.m n) = some o
  inj : ∀ i j, i < S.k → j < S.k → S.m i = S.m j → i = j

section
variable {K : PySem.W.Frag} {mg : Str → Option Value} {S S' S1 S2 : AS} {H H' H1 H2 : Hp} {h h' : AH}
theorem Ext.refl (S : AS) (H : Hp) : Ext S H S H := ⟨Nat.le_refl _, fun _ _ => rfl, fun _ _ e => e, fun _ _ e _ => e, fun n a b => absurd b (Nat.not_lt.mpr a), fun _ o e => ⟨o, e⟩, fun _ _ e => .inl e⟩
theorem Ext.trans (a : Ext S H S1 H1) (b : Ext S1 H1 S2 H2) : Ext S H S2 H2 := by
  have back : ∀ x, H1 x = none → H x = none := fun x e => by
    cases q : H x with
    | none => rfl
    | some o => obtain ⟨o', e'⟩ := a.st x o q; rw [e] at e'; cases e'
  refine ⟨Nat.le_trans a.k b.k, fun n hn => (b.m n (Nat.lt_of_lt_of_le hn a.k)).trans (a.m n hn), fun x o e => b.g x o (a.g x o e), fun x o e hn => ?_, fun n h1 h2 => ?_, fun x o e => ?_, fun x o e => ?_⟩
  · refine b.fr x o (a.fr x o e hn) fun n hk => ?_
    by_cases hs : n < S.k
    · rw [a.m n hs]; exact hn n hs
    · intro z
      have := a.nw n (Nat.le_of_not_lt hs) hk
      rw [z, e] at this; cases this
  · by_cases hs : n < S1.k
    · rw [b.m n hs]; exact a.nw n h1 hs
    · exact back _ (b.nw n (Nat.le_of_not_lt hs) h2)
  · obtain ⟨o', e'⟩ := a.st x o e
    exact b.st x o' e'
  · rcases b.gn x o e with q | q | ⟨n, hn, q⟩ | ⟨xs, q⟩
    · exact a.gn x o q
    · exact .inr (.inl (back x q))
    · by_cases hs : n < S.k
      · exact .inr (.inr (.inl ⟨n, hs, by rw [← a.m n hs]; exact q⟩))
      · exact .inr (.inl (by rw [← q]; exact a.nw n (Nat.le_of_not_lt hs) hn))
    · by_cases hc : ∃ n, n < S.k ∧ S.m n = x
      · exact .inr (.inr (.inl hc))
      · cases hx : H x with
        | none => exact .inr (.inl rfl)
        | some u =>
          have hu := a.fr x u hx fun n hn z => hc ⟨n, hn, z⟩
          rw [q] at hu
          cases hu
          exact .inr (.inr (.inr ⟨xs, rfl⟩))
theorem sqT_mono {G G' : Hp} (g : ∀ a o, G a = some o → G' a = some o) {a : Addr} {us : List V} (h : SqT K G a us) : SqT K G' a us := by
  rcases h with (h | ⟨o, h⟩) | h
  · exact .inl (.inl (g _ _ h))
  · exact .inl (.inr ⟨o, g _ _ h⟩)
  · exact .inr h
theorem rd_mono {G G' : Hp} (g : ∀ a o, G a = some o → G' a = some o) {a : Addr} {u : HO} (h : Rd G a u) : Rd G' a u := by
  rcases h with h | ⟨o, h⟩
  · exact .inl (g _ _ h)
  · exact .inr ⟨o, g _ _ h⟩
theorem sqL_mono {G G' : Hp} (g : ∀ a o, G a = some o → G' a = some o) {a : Addr} {us : List V} (h : SqL K G a us) : SqL K G' a us := by
  rcases h with (h | ⟨o, h⟩) | h
  · exact .inl (.inl (g _ _ h))
  · exact .inl (.inr ⟨o, g _ _ h⟩)
  · exact .inr h
theorem sqS_mono {G G' : Hp} (g : ∀ a o, G a = some o → G' a = some o) {a : Addr} {us : List V} (h : SqS K G a us) : SqS K G' a us := by
  rcases h with (h | ⟨o, h⟩) | h
  · exact .inl (.inl (g _ _ h))
  · exact .inl (.inr ⟨o, g _ _ h⟩)
  · exact .inr h
/-- what a tree's standing leans on -/
structure Sub (S S' : AS) : Prop where
  k : S.k ≤ S'.k
  m : ∀ n, n < S.k → S'.m n = S.m n
  g : ∀ a o, S.G a = some o → S'.G a = some o
theorem Ext.sub (e : Ext S H S' H') : Sub S S' := ⟨e.k, e.m, e.g⟩
mutual
theorem RelT.mono (e : Sub S S') : ∀ {t : T} {u : V}, RelT K S t u → RelT K S' t u
  | .non, _, h => by simpa [RelT] using h
  | .bl _, _, h => by simpa [RelT] using h
  | .int _, _, h => by simpa [RelT] using h
  | .str _, _, h => by simpa [RelT] using h
  | .ref n, u, h => by
    simp only [RelT] at h ⊢
    exact ⟨Nat.lt_of_lt_of_le h.1 e.k, by rw [e.m n h.1]; exact h.2⟩
  | .tup ts, u, h => by
    simp only [RelT] at h ⊢
    obtain ⟨a, us, e1, e2, e3⟩ := h
    exact ⟨a, us, e1, e.g _ _ e2, RelTs.mono e e3⟩
  | .ftp ts, u, h => by
    simp only [RelT] at h ⊢
    obtain ⟨a, o, us, e1, e2, e3, e4⟩ := h
    exact ⟨a, o, us, e1, e.g _ _ e2, e3, RelTs.mono e e4⟩
  | .lst ts, u, h => by
    simp only [RelT] at h ⊢
    obtain ⟨a, us, e1, e2, e3⟩ := h
    exact ⟨a, us, e1, rd_mono e.g e2, RelTs.mono e e3⟩
  | .scr ts, u, h => by
    simp only [RelT] at h ⊢
    obtain ⟨a, us, e1, e2, e3⟩ := h
    exact ⟨a, us, e1, sqS_mono e.g e2, RelTs.mono e e3⟩
  | .edi, u, h => by
    simp only [RelT] at h ⊢
    obtain ⟨a, e1, e2⟩ := h
    exact ⟨a, e1, e.g _ _ e2⟩
  | .fdt ks ts, u, h => by
    simp only [RelT] at h ⊢
    obtain ⟨a, o, us, e1, e2, e3, e4⟩ := h
    exact ⟨a, o, us, e1, e.g _ _ e2, e3, RelTs.mono e e4⟩
  | .fst f, u, h => by
    simp only [RelT] at h ⊢
    obtain ⟨a, n, e1, e2⟩ := h
    exact ⟨a, n, e1, e.g _ _ e2⟩
  | .kt d, u, h => by
    simp only [RelT] at h ⊢
    exact h
  | .fv x, u, h => by
    simp only [RelT] at h ⊢
    exact h
theorem RelTs.mono (e : Sub S S') : ∀ {ts : List T} {us : List V}, RelTs K S ts us → RelTs K S' ts us
  | [], _, h => by simpa [RelTs] using h
  | t :: ts, us, h => by
    simp only [RelTs] at h ⊢
    obtain ⟨u, r, e1, e2, e3⟩ := h
    exact ⟨u, r, e1, RelT.mono e e2, RelTs.mono e e3⟩
end
theorem RelTs.length : ∀ {ts : List T} {us : List V}, RelTs K S ts us → ts.length = us.length
  | [], us, h => by simp only [RelTs] at h; subst h; rfl
  | t :: ts, us, h => by
    simp only [RelTs] at h
    obtain ⟨u, r, rfl, _, h⟩ := h
    simp [RelTs.length h]
theorem RelTs.nil : RelTs K S [] [] := by simp [RelTs]
theorem RelTs.cons {t : T} {ts : List T} {u : V} {us : List V} (a : RelT K S t u) (b : RelTs K S ts us) : RelTs K S (t :: ts) (u :: us) := by
  simp only [RelTs]; exact ⟨u, us, rfl, a, b⟩
theorem RelTs.get : ∀ {ts : List T} {us : List V} {i : Nat} {t : T}, RelTs K S ts us → ts[i]? = some t → ∃ u, us[i]? = some u ∧ RelT K S t u
  | [], _, _, _, _, e => by simp at e
  | x :: ts, us, 0, t, h, e => by
    simp only [RelTs] at h
    obtain ⟨u, r, rfl, a, _⟩ := h
    simp at e; subst e
    exact ⟨u, rfl, a⟩
  | x :: ts, us, i + 1, t, h, e => by
    simp only [RelTs] at h
    obtain ⟨u, r, rfl, _, h⟩ := h
    obtain ⟨w, e1, e2⟩ := RelTs.get (i := i) h (by simpa using e)
    exact ⟨w, by simpa using e1, e2⟩
theorem RelTs.append : ∀ {ts ws : List T} {us vs : List V}, RelTs K S ts us → RelTs K S ws vs → RelTs K S (ts ++ ws) (us ++ vs)
  | [], _, us, _, a, b => by simp only [RelTs] at a; subst a; exact b
  | t :: ts, ws, us, vs, a, b => by
    simp only [RelTs] at a
    obtain ⟨u, r, rfl, a1, a2⟩ := a
    exact .cons a1 (RelTs.append a2 b)
theorem RelTs.take : ∀ {ts : List T} {us : List V} (n : Nat), RelTs K S ts us → RelTs K S (ts.take n) (us.take n)
  | _, _, 0, _ => by simpa using RelTs.nil
  | [], us, n + 1, h => by simp only [RelTs] at h; subst h; simpa using RelTs.nil
  | t :: ts, us, n + 1, h => by
    simp only [RelTs] at h
    obtain ⟨u, r, rfl, a, b⟩ := h
    exact .cons a (RelTs.take n b)
theorem RelTs.drop : ∀ {ts : List T} {us : List V} (n : Nat), RelTs K S ts us → RelTs K S (ts.drop n) (us.drop n)
  | _, _, 0, h => h
  | [], us, n + 1, h => by simp only [RelTs] at h; subst h; simpa using RelTs.nil
  | t :: ts, us, n + 1, h => by
    simp only [RelTs] at h
    obtain ⟨u, r, rfl, _, b⟩ := h
    exact RelTs.drop n b
theorem RelTs.set {t : T} {u : V} (r : RelT K S t u) : ∀ {ts : List T} {us : List V} (i : Nat), RelTs K S ts us → RelTs K S (ts.set i t) (us.set i u)
  | [], us, i, h => by simp only [RelTs] at h; subst h; simpa using RelTs.nil
  | x :: ts, us, 0, h => by
    simp only [RelTs] at h
    obtain ⟨w, r', rfl, _, b⟩ := h
    exact .cons r b
  | x :: ts, us, i + 1, h => by
    simp only [RelTs] at h
    obtain ⟨w, r', rfl, a, b⟩ := h
    exact .cons a (RelTs.set r i b)
theorem RelTs.reverse : ∀ {ts : List T} {us : List V}, RelTs K S ts us → RelTs K S ts.reverse us.reverse
  | [], us, h => by simp only [RelTs] at h; subst h; simpa using RelTs.nil
  | t :: ts, us, h => by
    simp only [RelTs] at h
    obtain ⟨u, r, rfl, a, b⟩ := h
    simp only [List.reverse_cons]
    exact (RelTs.reverse b).append (.cons a .nil)
theorem RelTs.rep {ts : List T} {us : List V} (h : RelTs K S ts us) : ∀ k : Nat, RelTs K S (List.replicate k ts).flatten (List.replicate k us).flatten
  | 0 => by simpa using RelTs.nil
  | k + 1 => by
    simp only [List.replicate_succ, List.flatten_cons]
    exact h.append (RelTs.rep h k)
theorem RelTs.eraseIdx : ∀ {ts : List T} {us : List V} (i : Nat), RelTs K S ts us → RelTs K S (ts.eraseIdx i) (us.eraseIdx i)
  | [], us, i, h => by simp only [RelTs] at h; subst h; simpa using RelTs.nil
  | x :: ts, us, 0, h => by
    simp only [RelTs] at h
    obtain ⟨w, r', rfl, _, b⟩ := h
    exact b
  | x :: ts, us, i + 1, h => by
    simp only [RelTs] at h
    obtain ⟨w, r', rfl, a, b⟩ := h
    exact .cons a (RelTs.eraseIdx i b)
theorem relTs_ints : ∀ (ns : List Int), RelTs K S (ns.map T.int) (ns.map V.int)
  | [] => .nil
  | n :: ns => .cons (by simp [RelT]) (relTs_ints ns)
theorem of_relTs_ints : ∀ {ns : List Int} {us : List V}, RelTs K S (ns.map T.int) us → us = ns.map V.int
  | [], us, h => by simpa [RelTs] using h
  | n :: ns, us, h => by
    simp only [List.map_cons, RelTs] at h
    obtain ⟨u, r, rfl, a, b⟩ := h
    simp only [RelT] at a
    rw [a, of_relTs_ints b, List.map_cons]
theorem of_relTs_bls : ∀ {bs : List Bool} {us : List V}, RelTs K S (bs.map T.bl) us → us = bs.map V.bl
  | [], us, h => by simpa [RelTs] using h
  | n :: ns, us, h => by
    simp only [List.map_cons, RelTs] at h
    obtain ⟨u, r, rfl, a, b⟩ := h
    simp only [RelT] at a
    rw [a, of_relTs_bls b, List.map_cons]
theorem of_relTs_strs : ∀ {bs : List Str} {us : List V}, RelTs K S (bs.map T.str) us → us = bs.map V.str
  | [], us, h => by simpa [RelTs] using h
  | n :: ns, us, h => by
    simp only [List.map_cons, RelTs] at h
    obtain ⟨u, r, rfl, a, b⟩ := h
    simp only [RelT] at a
    rw [a, of_relTs_strs b, List.map_cons]

theorem CellRel.mono (e : Ext S H S' H') {a : Addr} {c : Cell} (hk : ∀ o, H a = some o → H' a = some o) (r : CellRel K mg S H a c) : CellRel K mg S' H' a c := by
  cases c with
  | dead => trivial
  | lst ts => obtain ⟨us, h1, h2⟩ := r; exact ⟨us, hk _ h1, h2.mono e.sub⟩
  | dct kvs => obtain ⟨us, z, h1, h2⟩ := r; exact ⟨us, z, hk _ h1, h2.mono e.sub⟩
  | dtt kvs => obtain ⟨us, z, h1, h2⟩ := r; exact ⟨us, z, hk _ h1, h2.mono e.sub⟩
  | dnt kvs => obtain ⟨zs, kts, d⟩ := r; exact ⟨zs, kts, d.ks, d.kt, d.sys, d.len, hk _ d.at_, d.rk.mono e.sub, d.rv.mono e.sub⟩
  | ins c fs => obtain ⟨C, dx, us, h1, h2, h3, h4⟩ := r; exact ⟨C, dx, us, hk _ h1, h2, h3, h4.mono e.sub⟩
  | exc c => obtain ⟨C, h1, h2⟩ := r; exact ⟨C, hk _ h1, h2⟩

/-- a new thing that never changes -/
theorem HRel.new (R : HRel K mg S h H) {p : Addr} {o : HO} (hp : H p = none) :
    HRel K mg ⟨S.k, S.m, upd S.G p o⟩ h (upd H p o) ∧ Ext S H ⟨S.k, S.m, upd S.G p o⟩ (upd H p o) := by
  have gn : S.G p = none := by
    cases q : S.G p with
    | none => rfl
    | some o' => have := R.g p o' q; rw [hp] at this; cases this
  have E : Ext S H ⟨S.k, S.m, upd S.G p o⟩ (upd H p o) := by
    refine ⟨Nat.le_refl _, fun _ _ => rfl, fun a u e => ?_, fun a u e _ => ?_, fun n a b => absurd b (Nat.not_lt.mpr a), fun a u e => ⟨u, ?_⟩, fun a u e => ?_⟩
    · show upd S.G p o a = _; rw [upd_ne (ne_of_none e gn)]; exact e
    · rw [upd_ne (ne_of_none e hp)]; exact e
    · rw [upd_ne (ne_of_none e hp)]; exact e
    · have e : upd S.G p o a = some u := e
      by_cases ha : a = p
      · subst ha; exact .inr (.inl hp)
      · rw [upd_ne ha] at e; exact .inl e
  refine ⟨⟨R.k, fun a u e => ?_, fun n c e => (R.c n c e).mono E fun u q => by rw [upd_ne (ne_of_none q hp)]; exact q, fun n c e d => ?_, fun n hn => ?_, R.inj⟩, E⟩
  · have e : upd S.G p o a = some u := e
    by_cases ha : a = p
    · subst ha; rw [upd_same] at e ⊢; exact e
    · rw [upd_ne ha] at e ⊢; exact R.g a u e
  · have hn : n < S.k := by rw [R.k]; exact (List.getElem?_eq_some_iff.mp e).1
    obtain ⟨u, q⟩ := R.lv n hn
    show upd S.G p o (S.m n) = none
    rw [upd_ne (ne_of_none q hp)]; exact R.ng n c e d
  · obtain ⟨u, q⟩ := R.lv n hn
    exact ⟨u, by show upd H p o (S.m n) = _; rw [upd_ne (ne_of_none q hp)]; exact q⟩
/-- other objects (an instance's own dict) at new addresses -/
theorem HRel.other (R : HRel K mg S h H) {p : Addr} {o : HO} (hp : H p = none) : HRel K mg S h (upd H p o) ∧ Ext S H S (upd H p o) := by
  have E : Ext S H S (upd H p o) := by
    refine ⟨Nat.le_refl _, fun _ _ => rfl, fun a u e => e, fun a u e _ => ?_, fun n a b => absurd b (Nat.not_lt.mpr a), fun a u e => ⟨u, ?_⟩, fun a u e => .inl e⟩
    · rw [upd_ne (ne_of_none e hp)]; exact e
    · rw [upd_ne (ne_of_none e hp)]; exact e
  refine ⟨⟨R.k, fun a u e => ?_, fun n c e => (R.c n c e).mono E fun u q => by rw [upd_ne (ne_of_none q hp)]; exact q, R.ng, fun n hn => ?_, R.inj⟩, E⟩
  · rw [upd_ne (ne_of_none (R.g a u e) hp)]; exact R.g a u e
  · obtain ⟨u, q⟩ := R.lv n hn
    exact ⟨u, by rw [upd_ne (ne_of_none q hp)]; exact q⟩
/-- a new cell -/
def AS.more (S : AS) (p : Addr) : AS := ⟨S.k + 1, fun n => if n = S.k then p else S.m n, S.G⟩
theorem AS.more_at (S : AS) (p : Addr) : (S.more p).m S.k = p := by simp [AS.more]
theorem AS.more_ne (S : AS) (p : Addr) {n : Nat} (h : n < S.k) : (S.more p).m n = S.m n := by
  have : n ≠ S.k := Nat.ne_of_lt h
  simp [AS.more, this]
theorem AS.more_sub (S : AS) (p : Addr) : Sub S (S.more p) := ⟨Nat.le_succ _, fun n hn => S.more_ne p hn, fun _ _ e => e⟩
theorem HRel.cell (R : HRel K mg S h H) {p : Addr} {o : HO} {c : Cell} (hp : H p = none) (hc : CellRel K mg (S.more p) (upd H p o) p c) :
    HRel K mg (S.more p) (h ++ [c]) (upd H p o) ∧ Ext S H (S.more p) (upd H p o) := by
  have gn : S.G p = none := by
    cases q : S.G p with
    | none => rfl
    | some o' => have := R.g p o' q; rw [hp] at this; cases this
  have E : Ext S H (S.more p) (upd H p o) := by
    refine ⟨Nat.le_succ _, fun n hn => S.more_ne p hn, fun a u e => e, fun a u e _ => ?_, fun n a b => ?_, fun a u e => ⟨u, ?_⟩, fun a u e => .inl e⟩
    · rw [upd_ne (ne_of_none e hp)]; exact e
    · have : n = S.k := by have : n < S.k + 1 := b; omega
      subst this; rw [AS.more_at]; exact hp
    · rw [upd_ne (ne_of_none e hp)]; exact e
  have ix : ∀ n c', (h ++ [c])[n]? = some c' → (n < S.k ∧ h[n]? = some c') ∨ (n = S.k ∧ c' = c) := fun n c' e => by
    by_cases hn : n < h.length
    · rw [List.getElem?_append_left hn] at e
      exact .inl ⟨by rw [R.k]; exact hn, e⟩
    · rw [List.getElem?_append_right (Nat.le_of_not_lt hn)] at e
      have hl : n - h.length < 1 := by simpa using (List.getElem?_eq_some_iff.mp e).1
      have h0 : n - h.length = 0 := by omega
      rw [h0] at e
      simp at e
      exact .inr ⟨by rw [R.k]; omega, e.symm⟩
  refine ⟨⟨by show S.k + 1 = _; rw [R.k]; simp, fun a u e => ?_, fun n c' e => ?_, fun n c' e d => ?_, fun n hn => ?_, fun i j hi hj e => ?_⟩, E⟩
  · rw [upd_ne (ne_of_none (R.g a u e) hp)]; exact R.g a u e
  · rcases ix n c' e with ⟨hn, e⟩ | ⟨rfl, rfl⟩
    · rw [AS.more_ne S p hn]
      exact (R.c n c' e).mono E fun u q => by rw [upd_ne (ne_of_none q hp)]; exact q
    · rw [AS.more_at]; exact hc
  · rcases ix n c' e with ⟨hn, e⟩ | ⟨rfl, rfl⟩
    · rw [AS.more_ne S p hn]; exact R.ng n c' e d
    · rw [AS.more_at]; exact gn
  · by_cases h0 : n = S.k
    · subst h0; rw [AS.more_at]; exact ⟨o, upd_same⟩
    · have hn' : n < S.k := by have : n < S.k + 1 := hn; omega
      obtain ⟨u, q⟩ := R.lv n hn'
      rw [AS.more_ne S p hn']
      exact ⟨u, by rw [upd_ne (ne_of_none q hp)]; exact q⟩
  · have hi : i < S.k + 1 := hi
    have hj : j < S.k + 1 := hj
    have nn : ∀ n, n < S.k → S.m n ≠ p := fun n hn z => by
      obtain ⟨u, q⟩ := R.lv n hn
      rw [z, hp] at q; cases q
    by_cases h0 : i = S.k
    · by_cases h1 : j = S.k
      · rw [h0, h1]
      · have hj' : j < S.k := by omega
        rw [h0, AS.more_at, AS.more_ne S p hj'] at e
        exact absurd e.symm (nn j hj')
    · have hi' : i < S.k := by omega
      by_cases h1 : j = S.k
      · rw [h1, AS.more_at, AS.more_ne S p hi'] at e
        exact absurd e (nn i hi')
      · have hj' : j < S.k := by omega
        rw [AS.more_ne S p hi', AS.more_ne S p hj'] at e
        exact R.inj i j hi' hj' e
/-- a cell is written -/
theorem HRel.write (R : HRel K mg S h H) {n : Nat} {o : HO} {c c0 : Cell} (h0 : h[n]? = some c0) (hd : c0 ≠ .dead) (hc : CellRel K mg S (upd H (S.m n) o) (S.m n) c) :
    HRel K mg S (h.set n c) (upd H (S.m n) o) ∧ Ext S H S (upd H (S.m n) o) := by
  have hn : n < S.k := by rw [R.k]; exact (List.getElem?_eq_some_iff.mp h0).1
  have E : Ext S H S (upd H (S.m n) o) := by
    refine ⟨Nat.le_refl _, fun _ _ => rfl, fun a u e => e, fun a u e hh => ?_, fun n a b => absurd b (Nat.not_lt.mpr a), fun a u e => ?_, fun a u e => .inl e⟩
    · rw [upd_ne (fun z => hh n hn z.symm)]; exact e
    · by_cases ha : a = S.m n
      · subst ha; exact ⟨o, upd_same⟩
      · exact ⟨u, by rw [upd_ne ha]; exact e⟩
  refine ⟨⟨by rw [List.length_set]; exact R.k, fun a u e => ?_, fun j c' e => ?_, fun j c' e d => ?_, fun j hj => ?_, R.inj⟩, E⟩
  · have ha : a ≠ S.m n := fun z => by
      have := R.ng n c0 h0 hd
      rw [← z, e] at this; cases this
    rw [upd_ne ha]; exact R.g a u e
  · by_cases hj : n = j
    · subst hj
      rw [List.getElem?_set_self (by rw [← R.k]; exact hn)] at e
      cases e; exact hc
    · rw [List.getElem?_set_ne hj] at e
      have hj' : j < S.k := by rw [R.k]; exact (List.getElem?_eq_some_iff.mp e).1
      have hne : S.m j ≠ S.m n := fun z => hj (R.inj _ _ hj' hn z).symm
      exact (R.c j c' e).mono E fun u q => by rw [upd_ne hne]; exact q
  · by_cases hj : n = j
    · subst hj; exact R.ng n c0 h0 hd
    · rw [List.getElem?_set_ne hj] at e
      exact R.ng j c' e d
  · by_cases ha : S.m j = S.m n
    · rw [ha]; exact ⟨o, upd_same⟩
    · obtain ⟨u, q⟩ := R.lv j hj
      exact ⟨u, by rw [upd_ne ha]; exact q⟩
/-- a list cell is frozen: it is a value from here on -/
theorem HRel.freeze (R : HRel K mg S h H) {n : Nat} {ts : List T} (h0 : h[n]? = some (.lst ts)) :
    ∃ S', HRel K mg S' (h.set n .dead) H ∧ Ext S H S' H ∧ RelT K S' (.lst ts) (.ref (S.m n)) := by
  have hn : n < S.k := by rw [R.k]; exact (List.getElem?_eq_some_iff.mp h0).1
  obtain ⟨us, hH, hr⟩ := R.c n _ h0
  have gn := R.ng n _ h0 (fun z => by cases z)
  have sb : Sub S ⟨S.k, S.m, upd S.G (S.m n) (.lst us)⟩ := ⟨Nat.le_refl _, fun _ _ => rfl, fun a u e => by
    show upd S.G (S.m n) (.lst us) a = _
    rw [upd_ne (ne_of_none e gn)]; exact e⟩
  have E : Ext S H ⟨S.k, S.m, upd S.G (S.m n) (.lst us)⟩ H := ⟨Nat.le_refl _, fun _ _ => rfl, sb.g, fun a u e _ => e, fun n a b => absurd b (Nat.not_lt.mpr a), fun a u e => ⟨u, e⟩, fun a u e => by
    have e : upd S.G (S.m n) (.lst us) a = some u := e
    by_cases ha : a = S.m n
    · exact .inr (.inr (.inl ⟨n, hn, ha.symm⟩))
    · rw [upd_ne ha] at e; exact .inl e⟩
  refine ⟨⟨S.k, S.m, upd S.G (S.m n) (.lst us)⟩, ⟨by rw [List.length_set]; exact R.k, fun a u e => ?_, fun j c' e => ?_, fun j c' e d => ?_, R.lv, R.inj⟩, E, ?_⟩
  · have e : upd S.G (S.m n) (.lst us) a = some u := e
    by_cases ha : a = S.m n
    · subst ha; rw [upd_same] at e; cases e; exact hH
    · rw [upd_ne ha] at e; exact R.g a u e
  · by_cases hj : n = j
    · subst hj
      rw [List.getElem?_set_self (by rw [← R.k]; exact hn)] at e
      cases e; trivial
    · rw [List.getElem?_set_ne hj] at e
      exact (R.c j c' e).mono E fun u q => q
  · by_cases hj : n = j
    · subst hj
      rw [List.getElem?_set_self (by rw [← R.k]; exact hn)] at e
      cases e; exact absurd rfl d
    · rw [List.getElem?_set_ne hj] at e
      have hj' : j < S.k := by rw [R.k]; exact (List.getElem?_eq_some_iff.mp e).1
      have hne : S.m j ≠ S.m n := fun z => hj (R.inj _ _ hj' hn z).symm
      show upd S.G (S.m n) (.lst us) (S.m j) = none
      rw [upd_ne hne]; exact R.ng j c' e d
  · simp only [RelT]
    exact ⟨_, us, rfl, .inl upd_same, hr.mono sb⟩

/-- a tuple that stands there is known from here on -/
theorem HRel.adoptT (R : HRel K mg S h H) {q : Addr} {us : List V} (hq : H q = some (.tup us)) :
    HRel K mg ⟨S.k, S.m, upd S.G q (.tup us)⟩ h H ∧ Ext S H ⟨S.k, S.m, upd S.G q (.tup us)⟩ H := by
  have sb : Sub S ⟨S.k, S.m, upd S.G q (.tup us)⟩ := ⟨Nat.le_refl _, fun _ _ => rfl, fun a u e => by
    show upd S.G q (.tup us) a = _
    by_cases ha : a = q
    · subst ha
      have := R.g _ _ e
      rw [hq] at this; cases this
      rw [upd_same]
    · rw [upd_ne ha]; exact e⟩
  have E : Ext S H ⟨S.k, S.m, upd S.G q (.tup us)⟩ H := ⟨Nat.le_refl _, fun _ _ => rfl, sb.g, fun a u e _ => e, fun n a b => absurd b (Nat.not_lt.mpr a), fun a u e => ⟨u, e⟩, fun a u e => by
    have e : upd S.G q (.tup us) a = some u := e
    by_cases ha : a = q
    · subst ha; exact .inr (.inr (.inr ⟨us, hq⟩))
    · rw [upd_ne ha] at e; exact .inl e⟩
  refine ⟨⟨R.k, fun a u e => ?_, fun j c' e => (R.c j c' e).mono E fun u q => q, fun j c' e d => ?_, R.lv, R.inj⟩, E⟩
  · have e : upd S.G q (.tup us) a = some u := e
    by_cases ha : a = q
    · subst ha; rw [upd_same] at e; cases e; exact hq
    · rw [upd_ne ha] at e; exact R.g a u e
  · show upd S.G q (.tup us) (S.m j) = none
    have ne : S.m j ≠ q := fun z => by
      have r := R.c j c' e
      rw [z] at r
      cases c' with
      | dead => exact d rfl
      | lst ts => obtain ⟨us, h1, h2⟩ := r; rw [hq] at h1; cases h1
      | dct kvs => obtain ⟨us, z, h1, h2⟩ := r; rw [hq] at h1; cases h1
      | dtt kvs => obtain ⟨us, z, h1, h2⟩ := r; rw [hq] at h1; cases h1
      | dnt kvs => obtain ⟨zs, kts, d⟩ := r; have h1 := d.at_; rw [hq] at h1; cases h1
      | ins c fs => obtain ⟨C, dx, us, h1, h2, h3, h4⟩ := r; rw [hq] at h1; cases h1
      | exc c => obtain ⟨C, h1, h2⟩ := r; rw [hq] at h1; cases h1
    rw [upd_ne ne]; exact R.ng j c' e d
/-- a dict's cell is locked for good: it is a value from here on -/
theorem HRel.freezeD (R : HRel K mg S h H) {n : Nat} {kvs : List (List Key × T)} (h0 : h[n]? = some (.dtt kvs)) (od : Obj) :
    ∃ us : List V, H (S.m n) = some (.dT ((kvs.map (·.1)).zip us)) ∧ ∃ S', HRel K mg S' (h.set n .dead) (upd H (S.m n) (.frz od (.dT ((kvs.map (·.1)).zip us)))) ∧ Ext S H S' (upd H (S.m n) (.frz od (.dT ((kvs.map (·.1)).zip us)))) ∧ RelT K S' (.fdt (kvs.map (·.1)) (kvs.map (·.2))) (.ref (S.m n)) := by
  have hn : n < S.k := by rw [R.k]; exact (List.getElem?_eq_some_iff.mp h0).1
  obtain ⟨us, hl, hH, hr⟩ := R.c n _ h0
  refine ⟨us, hH, ?_⟩
  have gn := R.ng n _ h0 (fun z => by cases z)
  obtain ⟨w, ew⟩ : ∃ w, w = HO.frz od (.dT ((kvs.map (·.1)).zip us)) := ⟨_, rfl⟩
  rw [← ew]
  have sb : Sub S ⟨S.k, S.m, upd S.G (S.m n) w⟩ := ⟨Nat.le_refl _, fun _ _ => rfl, fun a u e => by
    show upd S.G (S.m n) w a = _
    rw [upd_ne (ne_of_none e gn)]; exact e⟩
  have E : Ext S H ⟨S.k, S.m, upd S.G (S.m n) w⟩ (upd H (S.m n) w) := ⟨Nat.le_refl _, fun _ _ => rfl, sb.g, fun a u e hh => by rw [upd_ne (fun z => hh n hn z.symm)]; exact e, fun n a b => absurd b (Nat.not_lt.mpr a), fun a u e => by
    by_cases ha : a = S.m n
    · exact ⟨w, by rw [ha]; exact upd_same⟩
    · exact ⟨u, by rw [upd_ne ha]; exact e⟩, fun a u e => by
    have e : upd S.G (S.m n) w a = some u := e
    by_cases ha : a = S.m n
    · exact .inr (.inr (.inl ⟨n, hn, ha.symm⟩))
    · rw [upd_ne ha] at e; exact .inl e⟩
  refine ⟨⟨S.k, S.m, upd S.G (S.m n) w⟩, ⟨by rw [List.length_set]; exact R.k, fun a u e => ?_, fun j c' e => ?_, fun j c' e d => ?_, fun j hj => ?_, R.inj⟩, E, ?_⟩
  · have e : upd S.G (S.m n) w a = some u := e
    by_cases ha : a = S.m n
    · subst ha; rw [upd_same] at e ⊢; exact e
    · rw [upd_ne ha] at e ⊢; exact R.g a u e
  · by_cases hj : n = j
    · subst hj
      rw [List.getElem?_set_self (by rw [← R.k]; exact hn)] at e
      cases e; trivial
    · rw [List.getElem?_set_ne hj] at e
      have hj' : j < S.k := by rw [R.k]; exact (List.getElem?_eq_some_iff.mp e).1
      have hne : S.m j ≠ S.m n := fun z => hj (R.inj _ _ hj' hn z).symm
      exact (R.c j c' e).mono E fun u q => by rw [upd_ne hne]; exact q
  · by_cases hj : n = j
    · subst hj
      rw [List.getElem?_set_self (by rw [← R.k]; exact hn)] at e
      cases e; exact absurd rfl d
    · rw [List.getElem?_set_ne hj] at e
      have hj' : j < S.k := by rw [R.k]; exact (List.getElem?_eq_some_iff.mp e).1
      have hne : S.m j ≠ S.m n := fun z => hj (R.inj _ _ hj' hn z).symm
      show upd S.G (S.m n) w (S.m j) = none
      rw [upd_ne hne]; exact R.ng j c' e d
  · by_cases ha : S.m j = S.m n
    · rw [ha]; exact ⟨w, upd_same⟩
    · obtain ⟨u, q⟩ := R.lv j hj
      exact ⟨u, by rw [upd_ne ha]; exact q⟩
  · simp only [RelT]
    exact ⟨_, od, us, rfl, by show upd S.G (S.m n) w (S.m n) = _; rw [upd_same, ew], by rw [List.length_map]; exact hl, hr.mono sb⟩
/-- a thing that stands apart: no cell, not known; it stays, and it may be written -/
structure Apart (S : AS) (H : Hp) (D : Addr) (o : HO) : Prop where
  at' : H D = some o
  nc : ∀ n, n < S.k → S.m n ≠ D
  ng : S.G D = none
  nt : ∀ xs, o ≠ .tup xs
theorem Apart.go {D : Addr} {o : HO} (x : Apart S H D o) (e : Ext S H S' H') : Apart S' H' D o := by
  refine ⟨e.fr D o x.at' x.nc, fun n hn z => ?_, ?_, x.nt⟩
  · by_cases hs : n < S.k
    · exact x.nc n hs (by rw [← e.m n hs]; exact z)
    · have := e.nw n (Nat.le_of_not_lt hs) hn
      rw [z, x.at'] at this; cases this
  · cases q : S'.G D with
    | none => rfl
    | some u =>
      rcases e.gn D u q with z | z | ⟨n, hn, z⟩ | ⟨xs, z⟩
      · rw [x.ng] at z; cases z
      · rw [x.at'] at z; cases z
      · exact (x.nc n hn z).elim
      · rw [x.at'] at z; cases z; exact (x.nt xs rfl).elim
theorem HRel.apart (R : HRel K mg S h H) {D : Addr} {o u : HO} (x : Apart S H D o) (nt : ∀ xs, u ≠ .tup xs := by intro _ z; cases z) : HRel K mg S h (upd H D u) ∧ Apart S (upd H D u) D u := by
  refine ⟨⟨R.k, fun a w e => ?_, fun n c e => ?_, R.ng, fun n hn => ?_, R.inj⟩, ⟨upd_same, x.nc, x.ng, nt⟩⟩
  · have ha : a ≠ D := fun z => by rw [z, x.ng] at e; cases e
    rw [upd_ne ha]; exact R.g a w e
  · have hn : n < S.k := by rw [R.k]; exact (List.getElem?_eq_some_iff.mp e).1
    have E0 : Ext S (upd H D u) S (upd H D u) := Ext.refl _ _
    have r := R.c n c e
    have ne := x.nc n hn
    cases c with
    | dead => trivial
    | lst ts => obtain ⟨us, h1, h2⟩ := r; exact ⟨us, by rw [upd_ne ne]; exact h1, h2⟩
    | dct kvs => obtain ⟨us, z, h1, h2⟩ := r; exact ⟨us, z, by rw [upd_ne ne]; exact h1, h2⟩
    | dtt kvs => obtain ⟨us, z, h1, h2⟩ := r; exact ⟨us, z, by rw [upd_ne ne]; exact h1, h2⟩
    | dnt kvs => obtain ⟨zs, kts, d⟩ := r; exact ⟨zs, kts, d.ks, d.kt, d.sys, d.len, by rw [upd_ne ne]; exact d.at_, d.rk, d.rv⟩
    | ins c fs => obtain ⟨C, dx, us, h1, h2, h3, h4⟩ := r; exact ⟨C, dx, us, by rw [upd_ne ne]; exact h1, h2, h3, h4⟩
    | exc c => obtain ⟨C, h1, h2⟩ := r; exact ⟨C, by rw [upd_ne ne]; exact h1, h2⟩
  · obtain ⟨w, q⟩ := R.lv n hn
    exact ⟨w, by rw [upd_ne (x.nc n hn)]; exact q⟩
/-- seen from a state in which D was not yet -/
theorem Ext.apart {D : Addr} {u : HO} (e : Ext S H S' H') (hD : H D = none) : Ext S H S' (upd H' D u) :=
  ⟨e.k, e.m, e.g, fun a o q hn => by rw [upd_ne (ne_of_none q hD)]; exact e.fr a o q hn, e.nw, fun a o q => by rw [upd_ne (ne_of_none q hD)]; exact e.st a o q, e.gn⟩
/-- it is known from here on -/
theorem HRel.adopt (R : HRel K mg S' h H') {D : Addr} {o : HO} (x : Apart S' H' D o) (e : Ext S H S' H') (hD : H D = none) :
    HRel K mg ⟨S'.k, S'.m, upd S'.G D o⟩ h H' ∧ Ext S H ⟨S'.k, S'.m, upd S'.G D o⟩ H' ∧ Sub S' ⟨S'.k, S'.m, upd S'.G D o⟩ := by
  have sb : Sub S' ⟨S'.k, S'.m, upd S'.G D o⟩ := ⟨Nat.le_refl _, fun _ _ => rfl, fun a w q => by
    show upd S'.G D o a = _
    rw [upd_ne (ne_of_none q x.ng)]; exact q⟩
  refine ⟨⟨R.k, fun a w q => ?_, fun n c q => ?_, fun n c q d => ?_, R.lv, R.inj⟩, ⟨e.k, e.m, fun a w q => sb.g a w (e.g a w q), e.fr, e.nw, e.st, fun a w q => ?_⟩, sb⟩
  · have q : upd S'.G D o a = some w := q
    by_cases ha : a = D
    · subst ha; rw [upd_same] at q; cases q; exact x.at'
    · rw [upd_ne ha] at q; exact R.g a w q
  · have E1 : Ext S' H' ⟨S'.k, S'.m, upd S'.G D o⟩ H' → True := fun _ => trivial
    have r := R.c n c q
    cases c with
    | dead => trivial
    | lst ts => obtain ⟨us, h1, h2⟩ := r; exact ⟨us, h1, h2.mono sb⟩
    | dct kvs => obtain ⟨us, z, h1, h2⟩ := r; exact ⟨us, z, h1, h2.mono sb⟩
    | dtt kvs => obtain ⟨us, z, h1, h2⟩ := r; exact ⟨us, z, h1, h2.mono sb⟩
    | dnt kvs => obtain ⟨zs, kts, d⟩ := r; exact ⟨zs, kts, d.ks, d.kt, d.sys, d.len, d.at_, d.rk.mono sb, d.rv.mono sb⟩
    | ins c fs => obtain ⟨C, dx, us, h1, h2, h3, h4⟩ := r; exact ⟨C, dx, us, h1, h2, h3, h4.mono sb⟩
    | exc c => obtain ⟨C, h1, h2⟩ := r; exact ⟨C, h1, h2⟩
  · have hn : n < S'.k := by rw [R.k]; exact (List.getElem?_eq_some_iff.mp q).1
    show upd S'.G D o (S'.m n) = none
    rw [upd_ne (x.nc n hn)]; exact R.ng n c q d
  · have q : upd S'.G D o a = some w := q
    by_cases ha : a = D
    · subst ha; exact .inr (.inl hD)
    · rw [upd_ne ha] at q; exact e.gn a w q
/-- .. as a cell -/
theorem HRel.adoptC (R : HRel K mg S' h H') {D : Addr} {us : List V} {ts : List T} (x : Apart S' H' D (.lst us)) (r : RelTs K S' ts us) (e : Ext S H S' H') (hD : H D = none) :
    HRel K mg (S'.more D) (h ++ [.lst ts]) H' ∧ Ext S H (S'.more D) H' := by
  have sb := S'.more_sub D
  have ix : ∀ n c', (h ++ [Cell.lst ts])[n]? = some c' → (n < S'.k ∧ h[n]? = some c') ∨ (n = S'.k ∧ c' = .lst ts) := fun n c' e => by
    by_cases hn : n < h.length
    · rw [List.getElem?_append_left hn] at e
      exact .inl ⟨by rw [R.k]; exact hn, e⟩
    · rw [List.getElem?_append_right (Nat.le_of_not_lt hn)] at e
      have hl : n - h.length < 1 := by simpa using (List.getElem?_eq_some_iff.mp e).1
      have h0 : n - h.length = 0 := by omega
      rw [h0] at e
      simp at e
      exact .inr ⟨by rw [R.k]; omega, e.symm⟩
  have rm : ∀ n c, h[n]? = some c → n < S'.k → CellRel K mg (S'.more D) H' (S'.m n) c := fun n c q hn => by
    have r := R.c n c q
    cases c with
    | dead => trivial
    | lst ts => obtain ⟨us, h1, h2⟩ := r; exact ⟨us, h1, h2.mono sb⟩
    | dct kvs => obtain ⟨us, z, h1, h2⟩ := r; exact ⟨us, z, h1, h2.mono sb⟩
    | dtt kvs => obtain ⟨us, z, h1, h2⟩ := r; exact ⟨us, z, h1, h2.mono sb⟩
    | dnt kvs => obtain ⟨zs, kts, d⟩ := r; exact ⟨zs, kts, d.ks, d.kt, d.sys, d.len, d.at_, d.rk.mono sb, d.rv.mono sb⟩
    | ins c fs => obtain ⟨C, dx, us, h1, h2, h3, h4⟩ := r; exact ⟨C, dx, us, h1, h2, h3, h4.mono sb⟩
    | exc c => obtain ⟨C, h1, h2⟩ := r; exact ⟨C, h1, h2⟩
  refine ⟨⟨by show S'.k + 1 = _; rw [R.k]; simp, R.g, fun n c q => ?_, fun n c q d => ?_, fun n hn => ?_, fun i j hi hj q => ?_⟩, ⟨Nat.le_succ_of_le e.k, fun n hn => ?_, e.g, e.fr, fun n h1 h2 => ?_, e.st, e.gn⟩⟩
  · rcases ix n c q with ⟨hn, q⟩ | ⟨rfl, rfl⟩
    · rw [AS.more_ne S' D hn]; exact rm n c q hn
    · rw [AS.more_at]; exact ⟨us, x.at', r.mono sb⟩
  · rcases ix n c q with ⟨hn, q⟩ | ⟨rfl, rfl⟩
    · rw [AS.more_ne S' D hn]; exact R.ng n c q d
    · rw [AS.more_at]; exact x.ng
  · by_cases h0 : n = S'.k
    · subst h0; rw [AS.more_at]; exact ⟨_, x.at'⟩
    · have hn' : n < S'.k := by have : n < S'.k + 1 := hn; omega
      rw [AS.more_ne S' D hn']; exact R.lv n hn'
  · have hi : i < S'.k + 1 := hi
    have hj : j < S'.k + 1 := hj
    by_cases h0 : i = S'.k
    · by_cases h1 : j = S'.k
      · rw [h0, h1]
      · have hj' : j < S'.k := by omega
        rw [h0, AS.more_at, AS.more_ne S' D hj'] at q
        exact absurd q.symm (x.nc j hj')
    · have hi' : i < S'.k := by omega
      by_cases h1 : j = S'.k
      · rw [h1, AS.more_at, AS.more_ne S' D hi'] at q
        exact absurd q (x.nc i hi')
      · have hj' : j < S'.k := by omega
        rw [AS.more_ne S' D hi', AS.more_ne S' D hj'] at q
        exact R.inj i j hi' hj' q
  · rw [AS.more_ne S' D (Nat.lt_of_lt_of_le hn e.k)]; exact e.m n hn
  · by_cases h0 : n = S'.k
    · subst h0; rw [AS.more_at]; exact hD
    · have hn' : n < S'.k := by have : n < S'.k + 1 := h2; omega
      rw [AS.more_ne S' D hn']; exact e.nw n h1 hn'

mutual
def T.clo (k : Nat) : T → Bool
  | .ref n => decide (n < k)
  | .edi => true
  | .fdt _ ts => T.clos k ts
  | .fst _ => true
  | .kt _ => true
  | .fv _ => true
  | .tup ts => T.clos k ts
  | .ftp ts => T.clos k ts
  | .lst ts => T.clos k ts
  | .scr ts => T.clos k ts
  | .non => true
  | .bl _ => true
  | .int _ => true
  | .str _ => true
def T.clos (k : Nat) : List T → Bool
  | [] => true
  | t :: ts => T.clo k t && T.clos k ts
end
mutual
theorem RelT.cut {k : Nat} {S0 : AS} (hk : S0.k = k) (hm : ∀ n, n < k → S0.m n = S.m n) (hg : S0.G = S.G) : ∀ {t : T} {u : V}, RelT K S t u → T.clo k t = true → RelT K S0 t u
  | .non, _, h, _ => by simpa [RelT] using h
  | .bl _, _, h, _ => by simpa [RelT] using h
  | .int _, _, h, _ => by simpa [RelT] using h
  | .str _, _, h, _ => by simpa [RelT] using h
  | .ref n, u, h, c => by
    simp only [RelT] at h ⊢
    simp only [T.clo, decide_eq_true_eq] at c
    exact ⟨by rw [hk]; exact c, by rw [hm n c]; exact h.2⟩
  | .tup ts, u, h, c => by
    simp only [RelT] at h ⊢
    simp only [T.clo] at c
    obtain ⟨a, us, e1, e2, e3⟩ := h
    exact ⟨a, us, e1, by rw [hg]; exact e2, RelTs.cut hk hm hg e3 c⟩
  | .ftp ts, u, h, c => by
    simp only [RelT] at h ⊢
    simp only [T.clo] at c
    obtain ⟨a, o, us, e1, e2, e3, e4⟩ := h
    exact ⟨a, o, us, e1, by rw [hg]; exact e2, e3, RelTs.cut hk hm hg e4 c⟩
  | .lst ts, u, h, c => by
    simp only [RelT] at h ⊢
    simp only [T.clo] at c
    obtain ⟨a, us, e1, e2, e3⟩ := h
    exact ⟨a, us, e1, by rw [hg]; exact e2, RelTs.cut hk hm hg e3 c⟩
  | .scr ts, u, h, c => by
    simp only [RelT] at h ⊢
    simp only [T.clo] at c
    obtain ⟨a, us, e1, e2, e3⟩ := h
    exact ⟨a, us, e1, by rw [hg]; exact e2, RelTs.cut hk hm hg e3 c⟩
  | .edi, u, h, c => by
    simp only [RelT] at h ⊢
    obtain ⟨a, e1, e2⟩ := h
    exact ⟨a, e1, by rw [hg]; exact e2⟩
  | .fdt ks ts, u, h, c => by
    simp only [RelT] at h ⊢
    simp only [T.clo] at c
    obtain ⟨a, o, us, e1, e2, e3, e4⟩ := h
    exact ⟨a, o, us, e1, by rw [hg]; exact e2, e3, RelTs.cut hk hm hg e4 c⟩
  | .fst f, u, h, c => by
    simp only [RelT] at h ⊢
    obtain ⟨a, n, e1, e2⟩ := h
    exact ⟨a, n, e1, by rw [hg]; exact e2⟩
  | .kt d, u, h, c => by
    simp only [RelT] at h ⊢
    exact h
  | .fv x, u, h, c => by
    simp only [RelT] at h ⊢
    exact h
theorem RelTs.cut {k : Nat} {S0 : AS} (hk : S0.k = k) (hm : ∀ n, n < k → S0.m n = S.m n) (hg : S0.G = S.G) : ∀ {ts : List T} {us : List V}, RelTs K S ts us → T.clos k ts = true → RelTs K S0 ts us
  | [], _, h, _ => by simpa [RelTs] using h
  | t :: ts, us, h, c => by
    simp only [RelTs] at h ⊢
    simp only [T.clos, Bool.and_eq_true] at c
    obtain ⟨u, r, e1, e2, e3⟩ := h
    exact ⟨u, r, e1, RelT.cut hk hm hg e2 c.1, RelTs.cut hk hm hg e3 c.2⟩
end
mutual
theorem RelT.clo : ∀ {t : T} {u : V}, RelT K S t u → T.clo S.k t = true
  | .non, _, _ => by simp [T.clo]
  | .bl _, _, _ => by simp [T.clo]
  | .int _, _, _ => by simp [T.clo]
  | .str _, _, _ => by simp [T.clo]
  | .ref n, u, h => by
    simp only [RelT] at h
    simp only [T.clo, decide_eq_true_eq]; exact h.1
  | .tup ts, u, h => by
    simp only [RelT] at h
    obtain ⟨a, us, e1, e2, e3⟩ := h
    simp only [T.clo]; exact RelTs.clos e3
  | .ftp ts, u, h => by
    simp only [RelT] at h
    obtain ⟨a, o, us, e1, e2, e3, e4⟩ := h
    simp only [T.clo]; exact RelTs.clos e4
  | .lst ts, u, h => by
    simp only [RelT] at h
    obtain ⟨a, us, e1, e2, e3⟩ := h
    simp only [T.clo]; exact RelTs.clos e3
  | .scr ts, u, h => by
    simp only [RelT] at h
    obtain ⟨a, us, e1, e2, e3⟩ := h
    simp only [T.clo]; exact RelTs.clos e3
  | .edi, _, _ => by simp [T.clo]
  | .fdt ks ts, u, h => by
    simp only [RelT] at h
    obtain ⟨a, o, us, e1, e2, e3, e4⟩ := h
    simp only [T.clo]; exact RelTs.clos e4
  | .fst _, _, _ => by simp [T.clo]
  | .kt _, _, _ => by simp [T.clo]
  | .fv _, _, _ => by simp [T.clo]
theorem RelTs.clos : ∀ {ts : List T} {us : List V}, RelTs K S ts us → T.clos S.k ts = true
  | [], _, _ => by simp [T.clos]
  | t :: ts, us, h => by
    simp only [RelTs] at h
    obtain ⟨u, r, e1, e2, e3⟩ := h
    simp only [T.clos, RelT.clo e2, RelTs.clos e3, Bool.and_self]
end
def Cell.clo (k : Nat) : Cell → Bool
  | .dead => true
  | .lst ts => T.clos k ts
  | .dct kvs => T.clos k (kvs.map (·.2))
  | .dtt kvs => T.clos k (kvs.map (·.2))
  | .dnt kvs => T.clos k (kvs.map (·.2))
  | .ins _ fs => T.clos k (fs.map (·.2))
  | .exc _ => true
theorem CellRel.clo {a : Addr} {c : Cell} (r : CellRel K mg S H a c) : c.clo S.k = true := by
  cases c with
  | dead => rfl
  | lst ts => obtain ⟨us, h1, h2⟩ := r; exact h2.clos
  | dct kvs => obtain ⟨us, z, h1, h2⟩ := r; exact h2.clos
  | dtt kvs => obtain ⟨us, z, h1, h2⟩ := r; exact h2.clos
  | dnt kvs => obtain ⟨zs, kts, d⟩ := r; exact d.rv.clos
  | ins c fs => obtain ⟨C, dx, us, h1, h2, h3, h4⟩ := r; exact h4.clos
  | exc c => rfl
mutual
theorem nk_clo (n : Nat) : ∀ {t : T} {k : NestedKey}, toNK t = some k → T.clo n t = true
  | .non, _, _ => by simp [T.clo]
  | .bl _, _, _ => by simp [T.clo]
  | .int _, _, _ => by simp [T.clo]
  | .str _, _, h => by simp [toNK] at h
  | .lst _, _, h => by simp [toNK] at h
  | .scr _, _, h => by simp [toNK] at h
  | .ref _, _, h => by simp [toNK] at h
  | .edi, _, h => by simp [toNK] at h
  | .fdt _ _, _, h => by simp [toNK] at h
  | .fst _, _, h => by simp [toNK] at h
  | .kt _, _, h => by simp [toNK] at h
  | .fv _, _, h => by simp [toNK] at h
  | .ftp _, _, h => by simp [toNK] at h
  | .tup ts, _, h => by
    simp only [toNK] at h
    obtain ⟨ks, e, _⟩ := Option.map_eq_some_iff.mp h
    simp only [T.clo]
    exact nks_clo0 n e
theorem nks_clo0 (n : Nat) : ∀ {ts : List T} {ks : List NestedKey}, toNKs ts = some ks → T.clos n ts = true
  | [], _, _ => by simp [T.clos]
  | t :: ts, _, h => by
    simp only [toNKs] at h
    split at h
    · rename_i k ks e1 e2
      simp only [T.clos, nk_clo n e1, nks_clo0 n e2, Bool.and_self]
    · cases h
end
theorem nkOf_some {t : T} {k : NestedKey} (h : nkOf t = some k) : toNK t = some k ∧ k.depth ≤ 8 := by
  unfold nkOf at h
  split at h
  · rename_i k' e
    split at h
    · rename_i hd; cases h; exact ⟨e, hd⟩
    · cases h
  · cases h
theorem nks_clo {n : Nat} : ∀ {kts : List T} {ks : List NestedKey}, kts.map nkOf = ks.map some → T.clos n kts = true
  | [], _, _ => by simp [T.clos]
  | t :: ts, [], h => by simp at h
  | t :: ts, k :: ks, h => by
    rw [List.map_cons, List.map_cons] at h
    injection h with h1 h2
    simp only [T.clos, nk_clo n (nkOf_some h1).1, nks_clo h2, Bool.and_self]
theorem CellRel.cut {k : Nat} {S0 : AS} (hk : S0.k = k) (hm : ∀ n, n < k → S0.m n = S.m n) (hg : S0.G = S.G) {a : Addr} {c : Cell} (r : CellRel K mg S H a c) (q : c.clo k = true) : CellRel K mg S0 H a c := by
  cases c with
  | dead => trivial
  | lst ts => obtain ⟨us, h1, h2⟩ := r; exact ⟨us, h1, h2.cut hk hm hg q⟩
  | dct kvs => obtain ⟨us, z, h1, h2⟩ := r; exact ⟨us, z, h1, h2.cut hk hm hg q⟩
  | dtt kvs => obtain ⟨us, z, h1, h2⟩ := r; exact ⟨us, z, h1, h2.cut hk hm hg q⟩
  | dnt kvs => obtain ⟨zs, kts, d⟩ := r; exact ⟨zs, kts, d.ks, d.kt, d.sys, d.len, d.at_, d.rk.cut hk hm hg (nks_clo (ks := kvs.map (·.1)) (by rw [d.kt, List.map_map]; rfl)), d.rv.cut hk hm hg q⟩
  | ins c fs => obtain ⟨C, dx, us, h1, h2, h3, h4⟩ := r; exact ⟨C, dx, us, h1, h2, h3, h4.cut hk hm hg q⟩
  | exc c => obtain ⟨C, h1, h2⟩ := r; exact ⟨C, h1, h2⟩
/-- what a call leaves behind is forgotten: the cells made in it fall away where nothing leads to them -/
structure Pop (h h' h2 : AH) (ts : List T) : Prop where
  len : h2.length = h.length
  pre : ∃ junk, h' = h2 ++ junk
  old : ∀ (n : Nat) (c : Cell), h2[n]? = some c → h[n]? = some c ∨ c.clo h.length = true
  clo : T.clos h.length ts = true
theorem HRel.pop (R : HRel K mg S h H) (R' : HRel K mg S' h' H') (e : Ext S H S' H') {h2 : AH} {ts : List T} (p : Pop h h' h2 ts) :
    ∃ S2, HRel K mg S2 h2 H' ∧ Ext S H S2 H' ∧ ∀ us, RelTs K S' ts us → RelTs K S2 ts us := by
  obtain ⟨junk, rfl⟩ := p.pre
  have hk : S.k = h.length := R.k
  have kk : h.length ≤ S'.k := by rw [← hk]; exact e.k
  have ix : ∀ {n : Nat} {c : Cell}, h2[n]? = some c → n < h.length ∧ (h2 ++ junk)[n]? = some c := fun {n c} q => by
    have hn := (List.getElem?_eq_some_iff.mp q).1
    exact ⟨by rw [← p.len]; exact hn, by rw [List.getElem?_append_left hn]; exact q⟩
  have cut : ∀ ts us, RelTs K S' ts us → T.clos h.length ts = true → RelTs K ⟨h.length, S'.m, S'.G⟩ ts us := fun ts us r q => RelTs.cut (S := S') (S0 := ⟨h.length, S'.m, S'.G⟩) rfl (fun _ _ => rfl) rfl r q
  refine ⟨⟨h.length, S'.m, S'.G⟩, ⟨p.len.symm, R'.g, fun n c q => ?_, fun n c q d => R'.ng n c (ix q).2 d, fun n hn => R'.lv n (Nat.lt_of_lt_of_le hn kk), fun i j hi hj => R'.inj i j (Nat.lt_of_lt_of_le hi kk) (Nat.lt_of_lt_of_le hj kk)⟩,
    ⟨Nat.le_of_eq hk, e.m, e.g, e.fr, fun n a b => absurd b (Nat.not_lt.mpr (by rw [← hk]; exact a)), e.st, e.gn⟩, fun us r => cut ts us r p.clo⟩
  refine CellRel.cut (S := S') (S0 := ⟨h.length, S'.m, S'.G⟩) (k := h.length) rfl (fun _ _ => rfl) rfl (R'.c n c (ix q).2) ?_
  rcases p.old n c q with z | z
  · have := (R.c n c z).clo
    rw [hk] at this; exact this
  · exact z

def ARel (K : PySem.W.Frag) (S : AS) (ρ : Rho) (σ : L2.St) : Prop := ρ.length = σ.length ∧ ∀ (i : Nat) (t : T), ρ[i]? = some (some t) → ∃ v, σ[i]? = some (some v) ∧ RelT K S t v
theorem ARel.mono (e : Sub S S') {ρ : Rho} {σ : L2.St} (a : ARel K S ρ σ) : ARel K S' ρ σ := ⟨a.1, fun i t q => let ⟨v, h1, h2⟩ := a.2 i t q; ⟨v, h1, h2.mono e⟩⟩
theorem ARel.set {ρ : Rho} {σ : L2.St} (a : ARel K S ρ σ) {t : T} {v : V} (i : Nat) (r : RelT K S t v) : ARel K S (ρ.set i (some t)) (σ.set i (some v)) := by
  refine ⟨by rw [List.length_set, List.length_set]; exact a.1, fun j u q => ?_⟩
  by_cases hj : i = j
  · subst hj
    by_cases hi : i < ρ.length
    · rw [List.getElem?_set_self hi] at q
      cases q
      exact ⟨v, by rw [List.getElem?_set_self (by rw [← a.1]; exact hi)], r⟩
    · rw [List.getElem?_eq_none (by rw [List.length_set]; exact Nat.le_of_not_lt hi)] at q; cases q
  · rw [List.getElem?_set_ne hj] at q
    obtain ⟨v', h1, h2⟩ := a.2 j u q
    exact ⟨v', by rw [List.getElem?_set_ne hj]; exact h1, h2⟩
end
end TL

namespace TL
open PySem PySem.Spec PyProof.Rows L2

structure Exc where
  name : Str
  fs : Option (List (Str × T))
abbrev XC := Exc → AH → Prop
abbrev WEx := Rho → AH → (T → AH → Prop) → XC → Prop
abbrev WTe := Rho → AH → (Bool → AH → Prop) → XC → Prop
abbrev WAr := Rho → AH → (List T → AH → Prop) → XC → Prop

def ExcD (K : PySem.W.Frag) (S : AS) (H : Hp) (fs : Option (List (Str × T))) (d : Option Addr) : Prop :=
  match fs with
  | none => d = none
  | some fs => ∃ dx us, d = some dx ∧ H dx = some (.xd us) ∧ RelFs K S fs us
/-- an exception's wish is met wherever the trees lead -/
def XOk (X : Cx) (W : WX) (S : AS) (H : Hp) (σ : L2.St) (RX : XC) : Prop :=
  ∀ c h', RX c h' → ∀ S' H', Ext S H S' H' → HRel X.K X.mg S' h' H' → ∀ C d, X.mg c.name = some (.ref C) → ExcD X.K S' H' c.fs d → W (.ref C) d σ H'
def tW (X : Cx) (W : WX) (w : WEx) : TE := fun σ H Q => ∃ S ρ h R RX, ARel X.K S ρ σ ∧ HRel X.K X.mg S h H ∧ w ρ h R RX ∧
  (∀ t h', R t h' → ∀ S' v H', Ext S H S' H' → HRel X.K X.mg S' h' H' → RelT X.K S' t v → Q v H') ∧ XOk X W S H σ RX
def tWT (X : Cx) (W : WX) (w : WTe) : TT := fun σ H Q => ∃ S ρ h R RX, ARel X.K S ρ σ ∧ HRel X.K X.mg S h H ∧ w ρ h R RX ∧
  (∀ b h', R b h' → ∀ S' H', Ext S H S' H' → HRel X.K X.mg S' h' H' → Q b H') ∧ XOk X W S H σ RX
def tWA (X : Cx) (W : WX) (w : WAr) : TA := fun σ H Q => ∃ S ρ h R RX, ARel X.K S ρ σ ∧ HRel X.K X.mg S h H ∧ w ρ h R RX ∧
  (∀ ts h', R ts h' → ∀ S' vs H', Ext S H S' H' → HRel X.K X.mg S' h' H' → RelTs X.K S' ts vs → Q vs H') ∧ XOk X W S H σ RX
abbrev SE (X : Cx) (W : WX) (e : Expr) (w : WEx) : Prop := PE X e (tW X W w)
abbrev ST (X : Cx) (W : WX) (e : Expr) (w : WTe) : Prop := PT X e (tWT X W w)
abbrev SA (X : Cx) (W : WX) (es : List Expr) (w : WAr) : Prop := PA X es (tWA X W w)

section
variable {X : Cx} {W : WX} {σ : L2.St} {S S' : AS} {H H' : Hp} {e a b : Expr} {w wa wb wc : WEx} {pos : Pos}
theorem PE.imp {t t' : TE} (h : PE X e t) (i : ∀ σ H Q, t' σ H Q → t σ H Q) : PE X e t' := ⟨fun pins s σ H Q I q => h.run pins s σ H Q I (i σ H Q q)⟩
theorem PT.imp {t t' : TT} (h : PT X e t) (i : ∀ σ H Q, t' σ H Q → t σ H Q) : PT X e t' := ⟨fun pins s σ H Q I q => h.run pins s σ H Q I (i σ H Q q)⟩
theorem PA.imp {es : List Expr} {t t' : TA} (h : PA X es t) (i : ∀ σ H Q, t' σ H Q → t σ H Q) : PA X es t' := ⟨fun pos pins s σ H Q I q => h.run pos pins s σ H Q I (i σ H Q q)⟩
theorem XOk.mono {RX : XC} (x : XOk X W S H σ RX) (e : Ext S H S' H') : XOk X W S' H' σ RX := fun c h' r S2 H2 e2 r2 => x c h' r S2 H2 (e.trans e2) r2

def wVar (i : Nat) : WEx := fun ρ h R _ => ∃ t, ρ[i]? = some (some t) ∧ R t h
def wC (t : T) : WEx := fun _ h R _ => R t h
theorem se_var (i : Nat) {x : Str} {pos : Pos} (hN : X.N[i]? = some x := by rfl) (hv : Vis X.env.scope x := by first | exact Or.inl rfl | exact Or.inr (Or.inl rfl) | exact Or.inr (Or.inr rfl)) (hd : (x == ("__debug__" : Str)) = false := by decide)
    (hcd : (x == ("__classdict__" : Str)) = false := by decide) : SE X W (.Name x pos) (wVar i) :=
  PE.imp (pe_var hN hv hd hcd) fun σ H Q ⟨S, ρ, h, R, RX, ar, hr, ⟨t, e, r⟩, q, _⟩ => by
    obtain ⟨v, e1, e2⟩ := ar.2 i t e
    exact ⟨v, e1, q t h r S v H (Ext.refl S H) hr e2⟩
theorem se_int {i : Int} {j pos} : SE X W (.Constant (.int i) j pos) (wC (.int i)) :=
  PE.imp pe_int fun σ H Q ⟨S, ρ, h, R, RX, ar, hr, r, q, _⟩ => q _ h r S _ H (Ext.refl S H) hr (by simp [RelT])
theorem se_bl {i : Bool} {j pos} : SE X W (.Constant (.bool i) j pos) (wC (.bl i)) :=
  PE.imp pe_bl fun σ H Q ⟨S, ρ, h, R, RX, ar, hr, r, q, _⟩ => q _ h r S _ H (Ext.refl S H) hr (by simp [RelT])
theorem se_non {j pos} : SE X W (.Constant .none j pos) (wC .non) :=
  PE.imp pe_non fun σ H Q ⟨S, ρ, h, R, RX, ar, hr, r, q, _⟩ => q _ h r S _ H (Ext.refl S H) hr (by simp [RelT])
theorem se_str {x : Str} {j pos} : SE X W (.Constant (.str x) j pos) (wC (.str x)) :=
  PE.imp pe_str fun σ H Q ⟨S, ρ, h, R, RX, ar, hr, r, q, _⟩ => q _ h r S _ H (Ext.refl S H) hr (by simp [RelT])
/-- a module's constant: an int, a text -/
theorem se_glI {x : Str} {i : Int} {t : Tok} {pos : Pos} (hm : X.mg x = some (.int i t)) (hg : Gl X x := by rfl) (hd : (x == ("__debug__" : Str)) = false := by decide) : SE X W (.Name x pos) (wC (.int i)) :=
  PE.imp (pe_glob (v := .int i) hg hm ⟨t, rfl⟩ hd) fun σ H Q ⟨S, ρ, h, R, RX, ar, hr, r, q, _⟩ => q _ h r S _ H (Ext.refl S H) hr (by simp [RelT])

abbrev Op2 := AH → T → T → Option T
def rO (K : PySem.W.Frag) (mg : Str → Option Value) (op : Op2) : R2 := fun u1 u2 H Q => ∃ S h x y z, HRel K mg S h H ∧ RelT K S x u1 ∧ RelT K S y u2 ∧ op h x y = some z ∧
  ∀ S' v H', Ext S H S' H' → HRel K mg S' h H' → RelT K S' z v → Q v H'
def wBin (op : Op2) (wa wb : WEx) : WEx := fun ρ h R RX => wa ρ h (fun x h1 => wb ρ h1 (fun y h2 => ∃ z, op h2 x y = some z ∧ R z h2) RX) RX
theorem tW_bin {op : Op2} {σ : L2.St} {H : Hp} {Q : VK} (q : tW X W (wBin op wa wb) σ H Q) : tOp (rO X.K X.mg op) (tW X W wa) (tW X W wb) σ H Q := by
  obtain ⟨S, ρ, h, R, RX, ar, hr, hw, hR, hX⟩ := q
  refine ⟨S, ρ, h, _, RX, ar, hr, hw, fun x h1 q1 S1 u H1 E1 R1 rx => ?_, hX⟩
  refine ⟨S1, ρ, h1, _, RX, ar.mono E1.sub, R1, q1, fun y h2 q2 S2 u2 H2 E2 R2 ry => ?_, hX.mono E1⟩
  obtain ⟨z, ez, rz⟩ := q2
  exact ⟨S2, h2, x, y, z, R2, rx.mono E2.sub, ry, ez, fun S' v H' E3 R3 rz' => hR z h2 rz S' v H' ((E1.trans E2).trans E3) R3 rz'⟩
theorem se_bin {op : Operator} {f : Op2} (ho : OpR X (binaryOp op) (rO X.K X.mg f)) (ha : SE X W a wa) (hb : SE X W b wb) : SE X W (.BinOp a op b pos) (wBin f wa wb) :=
  PE.imp (pe_op ho ha hb) fun _ _ _ q => tW_bin q
theorem se_cmp {op : CmpOp} {f : Op2} (ho : OpR X (compareOp op) (rO X.K X.mg f)) (ha : SE X W a wa) (hb : SE X W b wb) (hm : behindInMarks op b = false := by first | exact nomark _ | rfl | with_unfolding_all rfl) : SE X W (.Compare a [op] [b] pos) (wBin f wa wb) :=
  PE.imp (pe_cmpR ho ha hb hm) fun _ _ _ q => tW_bin q

/-- a rule of the layer that does what op says, at some kinds of operands: the heap stays or a new thing stands in it -/
theorem OpR.orr {f : Value → Value → Sem Value} {r r' : R2} (h : OpR X f r) (h' : OpR X f r') : OpR X f (fun x y H Q => r x y H Q ∨ r' x y H Q) := by
  intro pins s σ H x y v u Q I rx ry q
  rcases q with q | q
  · exact h pins s σ H x y v u Q I rx ry q
  · exact h' pins s σ H x y v u Q I rx ry q
theorem OpR.imp {f : Value → Value → Sem Value} {r r' : R2} (h : OpR X f r) (i : ∀ x y H Q, r' x y H Q → r x y H Q) : OpR X f r' := fun pins s σ H x y v u Q I rx ry q => h pins s σ H x y v u Q I rx ry (i _ _ _ _ q)

def asT : T → Option (List T)
  | .tup xs => some xs
  | .ftp xs => some xs
  | _ => none
def asR (h : AH) : T → Option (List T)
  | .lst xs => some xs
  | .ref n => match h[n]? with
    | some (.lst xs) => some xs
    | _ => none
  | _ => none
def asL (h : AH) : T → Option (List T)
  | .scr xs => some xs
  | t => asR h t
def asQ (h : AH) (t : T) : Option (List T) := match asT t with
  | some xs => some xs
  | none => asL h t
theorem asR_rel {K : PySem.W.Frag} {mg : Str → Option Value} {h : AH} {t : T} {v : V} {ts : List T} (hr : HRel K mg S h H) (r : RelT K S t v) (e : asR h t = some ts) : ∃ a us, v = .ref a ∧ Rd H a (.lst us) ∧ RelTs K S ts us := by
  cases t with
  | lst xs =>
    simp only [asR, Option.some.injEq] at e; subst e
    simp only [RelT] at r
    obtain ⟨a, us, rfl, q, r⟩ := r
    exact ⟨a, us, rfl, rd_mono hr.g q, r⟩
  | ref n =>
    simp only [asR] at e
    simp only [RelT] at r
    obtain ⟨hn, rfl⟩ := r
    split at e
    · rename_i xs q
      cases e
      obtain ⟨us, q1, q2⟩ := hr.c n _ q
      exact ⟨_, us, rfl, .inl q1, q2⟩
    · cases e
  | _ => simp [asR] at e
theorem asL_rel {K : PySem.W.Frag} {mg : Str → Option Value} {h : AH} {t : T} {v : V} {ts : List T} (hr : HRel K mg S h H) (r : RelT K S t v) (e : asL h t = some ts) : ∃ a us, v = .ref a ∧ SqL K H a us ∧ RelTs K S ts us := by
  cases t with
  | scr xs =>
    simp only [asL, Option.some.injEq] at e; subst e
    simp only [RelT] at r
    obtain ⟨a, us, rfl, q, r⟩ := r
    exact ⟨a, us, rfl, sqL_mono hr.g q.sq, r⟩
  | _ =>
    obtain ⟨a, us, e1, e2, e3⟩ := asR_rel hr r (by simpa [asL] using e)
    exact ⟨a, us, e1, .inl e2, e3⟩
theorem asT_rel {K : PySem.W.Frag} {mg : Str → Option Value} {h : AH} {t : T} {v : V} {ts : List T} (hr : HRel K mg S h H) (r : RelT K S t v) (e : asT t = some ts) : ∃ a us, v = .ref a ∧ SqT K H a us ∧ RelTs K S ts us := by
  cases t with
  | tup xs =>
    simp only [asT, Option.some.injEq] at e; subst e
    simp only [RelT] at r
    obtain ⟨a, us, rfl, q, r⟩ := r
    exact ⟨a, us, rfl, .inl (.inl (hr.g _ _ q)), r⟩
  | ftp xs =>
    simp only [asT, Option.some.injEq] at e; subst e
    simp only [RelT] at r
    obtain ⟨a, o, us, rfl, q, _, r⟩ := r
    exact ⟨a, us, rfl, .inl (.inr ⟨o, hr.g _ _ q⟩), r⟩
  | _ => simp [asT] at e
theorem asQ_rel {K : PySem.W.Frag} {mg : Str → Option Value} {h : AH} {t : T} {v : V} {ts : List T} (hr : HRel K mg S h H) (r : RelT K S t v) (e : asQ h t = some ts) : ∃ a us, v = .ref a ∧ (SqL K H a us ∨ SqT K H a us) ∧ RelTs K S ts us := by
  unfold asQ at e
  split at e
  · rename_i xs q
    cases e
    obtain ⟨a, us, e1, e2, e3⟩ := asT_rel hr r q
    exact ⟨a, us, e1, .inr e2, e3⟩
  · obtain ⟨a, us, e1, e2, e3⟩ := asL_rel hr r e
    exact ⟨a, us, e1, .inl e2, e3⟩
/-- a new list of these items, as a value -/
theorem new_lst {K : PySem.W.Frag} {mg : Str → Option Value} {h : AH} {ts : List T} {us : List V} {Q : VK} (hr : HRel K mg S h H) (r : RelTs K S ts us)
    (q : ∀ S' v H', Ext S H S' H' → HRel K mg S' h H' → RelT K S' (.lst ts) v → Q v H') : ∀ p, H p = none → Q (.ref p) (upd H p (.lst us)) := fun p hp => by
  obtain ⟨R', E⟩ := hr.new (o := .lst us) hp
  exact q _ _ _ E R' (by simp only [RelT]; exact ⟨p, us, rfl, .inl upd_same, r.mono E.sub⟩)
theorem new_tup {K : PySem.W.Frag} {mg : Str → Option Value} {h : AH} {ts : List T} {us : List V} {Q : VK} (hr : HRel K mg S h H) (r : RelTs K S ts us)
    (q : ∀ S' v H', Ext S H S' H' → HRel K mg S' h H' → RelT K S' (.tup ts) v → Q v H') : ∀ p, H p = none → Q (.ref p) (upd H p (.tup us)) := fun p hp => by
  obtain ⟨R', E⟩ := hr.new (o := .tup us) hp
  exact q _ _ _ E R' (by simp only [RelT]; exact ⟨p, us, rfl, upd_same, r.mono E.sub⟩)
/-- a new list of these items, as a cell -/
theorem new_cell {K : PySem.W.Frag} {mg : Str → Option Value} {h : AH} {ts : List T} {us : List V} {Q : VK} (hr : HRel K mg S h H) (r : RelTs K S ts us)
    (q : ∀ S' v H', Ext S H S' H' → HRel K mg S' (h ++ [.lst ts]) H' → RelT K S' (.ref h.length) v → Q v H') : ∀ p, H p = none → Q (.ref p) (upd H p (.lst us)) := fun p hp => by
  obtain ⟨R', E⟩ := hr.cell (o := .lst us) (c := .lst ts) hp ⟨us, upd_same, r.mono (S.more_sub p)⟩
  exact q _ _ _ E R' (by simp only [RelT]; exact ⟨by show h.length < S.k + 1; rw [hr.k]; exact Nat.lt_succ_self _, by rw [← hr.k, AS.more_at]⟩)

abbrev lim : Nat := 1000000
theorem lim_le {n : Nat} (h : n ≤ lim) : n ≤ sizeLine := Nat.le_trans h (by decide)
def opAdd : Op2 := fun h x y => match x, y with
  | .int i, .int j => some (.int (i + j))
  | .str i, .str j => if i.length + j.length ≤ lim then some (.str (i ++ j)) else none
  | .tup i, .tup j => if i.length + j.length ≤ lim then some (.tup (i ++ j)) else none
  | .scr i, .lst j => if i.length + j.length ≤ lim then some (.lst (i ++ j)) else none
  | x, y => match asR h x, asR h y with
    | some i, some j => if i.length + j.length ≤ lim then some (.lst (i ++ j)) else none
    | _, _ => none
def rCatR : R2 := fun x y H Q => ∃ l b xs zs, x = .ref l ∧ y = .ref b ∧ Rd H l (.lst xs) ∧ Rd H b (.lst zs) ∧ xs.length + zs.length ≤ sizeLine ∧ ∀ p, H p = none → Q (.ref p) (upd H p (.lst (xs ++ zs)))
theorem rdM {pins : List (Addr × Obj)} {s : Shared} {l : Addr} {xs : List V} (I : Inv X pins σ H s) (hH : Rd H l (.lst xs)) : xs.length ≤ sizeLine ∧ ∃ (its : List Value) (n : Nat), Vals xs its ∧ xs.length = its.length ∧ s.heap.get? l = some { cls := .type "list", data := .seq its.toArray n } := by
  obtain ⟨z, its, n, r, e⟩ := hH.ok I.hok
  exact ⟨z, its, n, r, r.length, e⟩
theorem op_catR : OpR X (binaryOp .Add) rCatR := by
  intro pins s σ H x y v u Q I rx ry h
  obtain ⟨l, b, xs, zs, rfl, rfl, hH, hB, hz, q⟩ := h
  cases rx
  cases ry
  obtain ⟨z, its, n, r, hl, e⟩ := rdM I hH
  obtain ⟨z2, its2, n2, r2, hl2, e2⟩ := rdM I hB
  refine PySem.P.add_list e e2 ?_ (by rw [List.size_toArray, List.size_toArray]; omega)
  have ea : its.toArray ++ its2.toArray = (its ++ its2).toArray := by simp
  rw [ea]
  exact ⟨.ref _, _, I.lnew (t' := s.toks) (r.append r2) (by rw [List.length_append]; omega), rfl, q _ I.fresh⟩
def rCatS (K : PySem.W.Frag) : R2 := fun x y H Q => ∃ l b xs zs, x = .ref l ∧ y = .ref b ∧ SqS K H l xs ∧ Rd H b (.lst zs) ∧ xs.length + zs.length ≤ sizeLine ∧ ∀ p, H p = none → Q (.ref p) (upd H p (.lst (xs ++ zs)))
theorem op_catS : OpR X (binaryOp .Add) (rCatS X.K) := by
  intro pins s σ H x y v u Q I rx ry h
  obtain ⟨l, b, xs, zs, rfl, rfl, hH, hB, hz, q⟩ := h
  rcases hH with hH | ⟨its, e, hl, r⟩
  · exact op_catR pins s σ H _ _ v u Q I rx ry ⟨l, b, xs, zs, rfl, rfl, hH, hB, hz, q⟩
  cases rx
  cases ry
  have e : s.heap.get? l = some { cls := .type "list", data := .seq its.toArray } := I.bk l _ (I.mod.kin l _ e)
  have hl0 : xs.length = its.length := r.length
  obtain ⟨z2, its2, n2, r2, hl2, e2⟩ := rdM I hB
  refine PySem.P.add_list e e2 ?_ (by rw [List.size_toArray, List.size_toArray]; omega)
  have ea : its.toArray ++ its2.toArray = (its ++ its2).toArray := by simp
  rw [ea]
  exact ⟨.ref _, _, I.lnew (t' := s.toks) (r.append r2) (by rw [List.length_append]; omega), rfl, q _ I.fresh⟩
theorem o_add : OpR X (binaryOp .Add) (rO X.K X.mg opAdd) := by
  refine OpR.imp (OpR.orr op_add (OpR.orr op_add_str (OpR.orr op_catA (OpR.orr op_catR op_catS)))) fun x y H Q q => ?_
  obtain ⟨S, h, t, t', z, hr, rx, ry, e, q⟩ := q
  unfold opAdd at e
  split at e
  · simp only [RelT] at rx ry
    cases e
    exact .inl ⟨_, _, rx, ry, q S _ H (Ext.refl S H) hr (by simp [RelT])⟩
  · simp only [RelT] at rx ry
    split at e
    · rename_i hz
      cases e
      exact .inr (.inl ⟨_, _, rx, ry, lim_le hz, q S _ H (Ext.refl S H) hr (by simp [RelT])⟩)
    · cases e
  · rename_i i j
    split at e
    · rename_i hz
      cases e
      obtain ⟨a, us, rfl, h1, r1⟩ := asT_rel hr rx rfl
      obtain ⟨b, ws, rfl, h2, r2⟩ := asT_rel hr ry rfl
      refine .inr (.inr (.inl ⟨a, b, us, ws, rfl, rfl, h1, h2, by rw [← r1.length, ← r2.length]; exact lim_le hz, fun e => ?_, fun _ e => ?_, fun _ _ => new_tup hr (r1.append r2) q⟩))
      · subst e
        have : i = [] := List.length_eq_zero_iff.mp (by rw [r1.length]; rfl)
        subst this
        exact q S _ H (Ext.refl S H) hr (by simpa using ry)
      · subst e
        have : j = [] := List.length_eq_zero_iff.mp (by rw [r2.length]; rfl)
        subst this
        exact q S _ H (Ext.refl S H) hr (by simpa using rx)
    · cases e
  · rename_i i j
    split at e
    · rename_i hz
      cases e
      simp only [RelT] at rx
      obtain ⟨a, us, rfl, h1, r1⟩ := rx
      obtain ⟨b, ws, rfl, h2, r2⟩ := asR_rel hr ry rfl
      exact .inr (.inr (.inr (.inr ⟨a, b, us, ws, rfl, rfl, sqS_mono hr.g h1, h2, by rw [← r1.length, ← r2.length]; exact lim_le hz, new_lst hr (r1.append r2) q⟩)))
    · cases e
  · split at e
    · rename_i i j e1 e2
      split at e
      · rename_i hz
        cases e
        obtain ⟨a, us, rfl, h1, r1⟩ := asR_rel hr rx e1
        obtain ⟨b, ws, rfl, h2, r2⟩ := asR_rel hr ry e2
        exact .inr (.inr (.inr (.inl ⟨a, b, us, ws, rfl, rfl, h1, h2, by rw [← r1.length, ← r2.length]; exact lim_le hz, new_lst hr (r1.append r2) q⟩)))
      · cases e
    · cases e

def okMul (i j : Int) : Bool := decide ((-(2 ^ 64) < i ∧ i < 2 ^ 64) ∨ (-(2 ^ 64) < j ∧ j < 2 ^ 64))
theorem okMul_ok {i j : Int} (h : okMul i j = true) : CMul i j := by
  unfold okMul at h
  exact (decide_eq_true_iff (p := (-(2 ^ 64) < i ∧ i < 2 ^ 64) ∨ (-(2 ^ 64) < j ∧ j < 2 ^ 64))).mp h
def opSub : Op2 := fun _ x y => match x, y with
  | .int i, .int j => some (.int (i - j))
  | _, _ => none
theorem o_int2 {f : Value → Value → Sem Value} {g : Int → Int → V} {gt : Int → Int → T} {C : Int → Int → Prop} {op : Op2} (ho : OpR X f (rI C g)) (hg : ∀ S i j, RelT X.K S (gt i j) (g i j))
    (hop : ∀ h x y z, op h x y = some z → ∃ i j, x = .int i ∧ y = .int j ∧ C i j ∧ z = gt i j) : OpR X f (rO X.K X.mg op) := by
  refine OpR.imp ho fun x y H Q q => ?_
  obtain ⟨S, h, t, t', z, hr, rx, ry, e, q⟩ := q
  obtain ⟨i, j, rfl, rfl, c, rfl⟩ := hop _ _ _ _ e
  simp only [RelT] at rx ry
  exact ⟨i, j, rx, ry, c, q S _ H (Ext.refl S H) hr (hg S i j)⟩
theorem o_int0 {f : Value → Value → Sem Value} {g : Int → Int → V} {gt : Int → Int → T} {op : Op2} (ho : OpR X f (rI0 g)) (hg : ∀ S i j, RelT X.K S (gt i j) (g i j))
    (hop : ∀ h x y z, op h x y = some z → ∃ i j, x = .int i ∧ y = .int j ∧ z = gt i j) : OpR X f (rO X.K X.mg op) :=
  o_int2 (C := fun _ _ => True) (OpR.imp ho fun x y H Q ⟨i, j, a, b, _, q⟩ => ⟨i, j, a, b, q⟩) hg fun h x y z e => let ⟨i, j, a, b, c⟩ := hop h x y z e; ⟨i, j, a, b, trivial, c⟩
theorem o_sub : OpR X (binaryOp .Sub) (rO X.K X.mg opSub) := o_int0 (gt := fun i j => .int (i - j)) op_sub (fun _ _ _ => by simp [RelT]) fun h x y z e => by
  unfold opSub at e; split at e
  · cases e; exact ⟨_, _, rfl, rfl, rfl⟩
  · cases e
def opMul : Op2 := fun h x y => match x, y with
  | .int i, .int j => if okMul i j then some (.int (i * j)) else none
  | .tup xs, .int k => if xs ≠ [] ∧ 2 ≤ k ∧ k ≤ 1000 ∧ xs.length ≤ 1000 then some (.tup (List.replicate k.toNat xs).flatten) else none
  | _, _ => none
/-- only a list that stands plainly: its own heap place -/
def repL (h : AH) : T → Option (List T)
  | .ref n => asR h (.ref n)
  | _ => none
theorem repL_rel {K : PySem.W.Frag} {mg : Str → Option Value} {h : AH} {t : T} {v : V} {ts : List T} (hr : HRel K mg S h H) (r : RelT K S t v) (e : repL h t = some ts) : ∃ a us, v = .ref a ∧ H a = some (.lst us) ∧ RelTs K S ts us := by
  cases t with
  | ref n =>
    simp only [repL, asR] at e
    simp only [RelT] at r
    obtain ⟨hn, rfl⟩ := r
    split at e
    · rename_i xs q
      cases e
      obtain ⟨us, q1, q2⟩ := hr.c n _ q
      exact ⟨_, us, rfl, q1, q2⟩
    · cases e
  | _ => simp [repL] at e
theorem o_mul : OpR X (binaryOp .Mult) (rO X.K X.mg opMul) := by
  refine OpR.imp (OpR.orr op_mul op_repT) fun x y H Q q => ?_
  obtain ⟨S, h, t, t', z, hr, rx, ry, e, q⟩ := q
  unfold opMul at e
  split at e
  · split at e
    · rename_i hc
      cases e
      simp only [RelT] at rx ry
      exact .inl ⟨_, _, rx, ry, okMul_ok hc, q S _ H (Ext.refl S H) hr (by simp [RelT])⟩
    · cases e
  · split at e
    · rename_i hc
      cases e
      obtain ⟨a, us, rfl, h1, r1⟩ := asT_rel hr rx rfl
      simp only [RelT] at ry
      refine .inr ⟨a, _, us, rfl, ry, h1, fun z => hc.1 ?_, hc.2.1, hc.2.2.1, by rw [← r1.length]; exact hc.2.2.2, new_tup hr (r1.rep _) q⟩
      subst z
      exact List.length_eq_zero_iff.mp (by rw [r1.length]; rfl)
    · cases e
  · cases e
def opDiv : Op2 := fun _ x y => match x, y with
  | .int i, .int j => if 0 < j ∧ j.natAbs.log2 < 9000 then some (.int (i / j)) else none
  | _, _ => none
theorem o_div : OpR X (binaryOp .FloorDiv) (rO X.K X.mg opDiv) := o_int2 (gt := fun i j => .int (i / j)) op_fdivW (fun _ _ _ => by simp [RelT]) fun h x y z e => by
  unfold opDiv at e; split at e
  · split at e
    · rename_i c; cases e; exact ⟨_, _, rfl, rfl, c, rfl⟩
    · cases e
  · cases e
def opMod : Op2 := fun _ x y => match x, y with
  | .int i, .int j => if 0 < j then some (.int (i % j)) else none
  | _, _ => none
theorem o_mod : OpR X (binaryOp .Mod) (rO X.K X.mg opMod) := o_int2 (gt := fun i j => .int (i % j)) op_mod (fun _ _ _ => by simp [RelT]) fun h x y z e => by
  unfold opMod at e; split at e
  · split at e
    · rename_i c; cases e; exact ⟨_, _, rfl, rfl, c, rfl⟩
    · cases e
  · cases e
def opPow : Op2 := fun _ x y => match x, y with
  | .int i, .int j => if 0 ≤ j ∧ j ≤ 1000000 ∧ i.natAbs < 2 ^ 64 then some (.int (i ^ j.toNat)) else none
  | _, _ => none
theorem o_pow : OpR X (binaryOp .Pow) (rO X.K X.mg opPow) := o_int2 (gt := fun i j => .int (i ^ j.toNat)) op_pow (fun _ _ _ => by simp [RelT]) fun h x y z e => by
  unfold opPow at e; split at e
  · split at e
    · rename_i c; cases e; exact ⟨_, _, rfl, rfl, c, rfl⟩
    · cases e
  · cases e
def opCmp (p : Int → Int → Bool) : Op2 := fun _ x y => match x, y with
  | .int i, .int j => some (.bl (p i j))
  | _, _ => none
theorem o_cmp {f : Value → Value → Sem Value} {p : Int → Int → Bool} (ho : OpR X f (rI0 fun i j => .bl (p i j))) : OpR X f (rO X.K X.mg (opCmp p)) := o_int0 (gt := fun i j => .bl (p i j)) ho (fun _ _ _ => by simp [RelT]) fun h x y z e => by
  unfold opCmp at e; split at e
  · cases e; exact ⟨_, _, rfl, rfl, rfl⟩
  · cases e
abbrev opLt : Op2 := opCmp fun i j => decide (i < j)
abbrev opLe : Op2 := opCmp fun i j => decide (i ≤ j)
abbrev opGt : Op2 := opCmp fun i j => decide (j < i)
abbrev opGe : Op2 := opCmp fun i j => decide (j ≤ i)
theorem o_lt : OpR X (compareOp .Lt) (rO X.K X.mg opLt) := o_cmp op_lt
theorem o_le : OpR X (compareOp .LtE) (rO X.K X.mg opLe) := o_cmp op_le
theorem o_gt : OpR X (compareOp .Gt) (rO X.K X.mg opGt) := o_cmp op_gt
theorem o_ge : OpR X (compareOp .GtE) (rO X.K X.mg opGe) := o_cmp op_ge
/-- is None -/
def isNon : T → Bool
  | .non => true
  | _ => false
def opIsN (neg : Bool) : Op2 := fun _ x y => match y with
  | .non => some (.bl (if neg then !isNon x else isNon x))
  | _ => none
theorem isNon_rel {K : PySem.W.Frag} {t : T} {v : V} (r : RelT K S t v) : decide (v = V.non) = isNon t := by
  cases t with
  | non => simp only [RelT] at r; subst r; rfl
  | bl b => simp only [RelT] at r; subst r; rfl
  | int b => simp only [RelT] at r; subst r; rfl
  | str b => simp only [RelT] at r; subst r; simp [isNon]
  | ref n => simp only [RelT] at r; obtain ⟨_, rfl⟩ := r; rfl
  | tup ts => simp only [RelT] at r; obtain ⟨a, us, rfl, _⟩ := r; rfl
  | ftp ts => simp only [RelT] at r; obtain ⟨a, o, us, rfl, _⟩ := r; rfl
  | lst ts => simp only [RelT] at r; obtain ⟨a, us, rfl, _⟩ := r; rfl
  | edi => simp only [RelT] at r; obtain ⟨a, rfl, _⟩ := r; rfl
  | fdt ks ts => simp only [RelT] at r; obtain ⟨a, o, us, rfl, _⟩ := r; rfl
  | fst f => simp only [RelT] at r; obtain ⟨a, n, rfl, _⟩ := r; rfl
  | kt d => simp only [RelT] at r; obtain ⟨a, rfl, _⟩ := r; rfl
  | fv d => simp only [RelT] at r; obtain ⟨a, rfl, _⟩ := r; rfl
  | scr ts => simp only [RelT] at r; obtain ⟨a, us, rfl, _⟩ := r; rfl
theorem o_isN : OpR X (compareOp .Is) (rO X.K X.mg (opIsN false)) := by
  refine OpR.imp op_isN fun x y H Q q => ?_
  obtain ⟨S, h, t, t', z, hr, rx, ry, e, q⟩ := q
  unfold opIsN at e
  split at e
  · cases e
    simp only [RelT] at ry
    exact ⟨ry, q S _ H (Ext.refl S H) hr (by rw [isNon_rel rx]; simp [RelT])⟩
  · cases e
theorem o_notN : OpR X (compareOp .IsNot) (rO X.K X.mg (opIsN true)) := by
  refine OpR.imp op_notN fun x y H Q q => ?_
  obtain ⟨S, h, t, t', z, hr, rx, ry, e, q⟩ := q
  unfold opIsN at e
  split at e
  · cases e
    simp only [RelT] at ry
    exact ⟨ry, q S _ H (Ext.refl S H) hr (by rw [isNon_rel rx]; simp [RelT])⟩
  · cases e

def toD (h : AH) : Nat → T → Option PyData
  | 0, _ => none
  | n + 1, .non => some .none
  | n + 1, .bl b => some (.bool b)
  | n + 1, .int i => some (.int i)
  | n + 1, .str s => if PyData.strOk s then some (.str s) else none
  | n + 1, .tup xs => (xs.mapM (toD h n)).map .tuple
  | n + 1, .ftp xs => (xs.mapM (toD h n)).map .tuple
  | n + 1, t => match asL h t with
    | some xs => (xs.mapM (toD h n)).map .list
    | none => none
theorem dpAll_of {K : PySem.W.Frag} {S : AS} {H : Hp} {f : T → Option PyData} (hf : ∀ t v d, RelT K S t v → f t = some d → Dp K H v d) :
    ∀ {ts : List T} {us : List V} {ds : List PyData}, RelTs K S ts us → ts.mapM f = some ds → DpAll K H us ds
  | [], us, ds, r, e => by
    simp only [RelTs] at r; subst r
    simp at e; subst e
    exact .nil
  | t :: ts, us, ds, r, e => by
    simp only [RelTs] at r
    obtain ⟨u, r', rfl, r1, r2⟩ := r
    rw [List.mapM_cons] at e
    cases e1 : f t with
    | none => rw [e1] at e; cases e
    | some d =>
      cases e2 : ts.mapM f with
      | none => rw [e1, e2] at e; cases e
      | some ds' =>
        rw [e1, e2] at e
        cases e
        exact .cons (hf t u d r1 e1) (dpAll_of hf r2 e2)
theorem dp_of {K : PySem.W.Frag} {mg : Str → Option Value} {S : AS} {H : Hp} {h : AH} (hr : HRel K mg S h H) : ∀ (n : Nat) (t : T) (v : V) (d : PyData), RelT K S t v → toD h n t = some d → Dp K H v d
  | 0, _, _, _, _, e => by cases e
  | n + 1, t, v, d, r, e => by
    cases t with
    | non => simp only [RelT] at r; cases e; subst r; exact .non
    | bl b => simp only [RelT] at r; cases e; subst r; exact .bl b
    | int b => simp only [RelT] at r; cases e; subst r; exact .int b
    | str b =>
      simp only [RelT] at r; subst r
      simp only [toD] at e
      split at e
      · cases e; exact .str b
      · cases e
    | tup ts =>
      obtain ⟨a, us, rfl, h1, r1⟩ := asT_rel hr r rfl
      simp only [toD, Option.map_eq_some_iff] at e
      obtain ⟨ds, e, rfl⟩ := e
      exact .tup h1 (dpAll_of (dp_of hr n) r1 e)
    | ftp ts =>
      obtain ⟨a, us, rfl, h1, r1⟩ := asT_rel hr r rfl
      simp only [toD, Option.map_eq_some_iff] at e
      obtain ⟨ds, e, rfl⟩ := e
      exact .tup h1 (dpAll_of (dp_of hr n) r1 e)
    | _ =>
      simp only [toD] at e
      split at e
      · rename_i xs q
        simp only [Option.map_eq_some_iff] at e
        obtain ⟨ds, e, rfl⟩ := e
        obtain ⟨a, us, rfl, h1, r1⟩ := asL_rel hr r q
        exact .lst h1 (dpAll_of (dp_of hr n) r1 e)
      · cases e
theorem shapedAll_of {f : T → Option PyData} {n : Nat} (hf : ∀ t d, f t = some d → d.canLay0 = true ∧ d.depth ≤ n) :
    ∀ (ts : List T) (ds : List PyData), ts.mapM f = some ds → PyData.canLayAll0 ds = true ∧ PyData.depthAll ds ≤ n
  | [], ds, e => by simp at e; subst e; exact ⟨by simp [PyData.canLayAll0], by simp [PyData.depthAll]⟩
  | t :: ts, ds, e => by
    rw [List.mapM_cons] at e
    cases e1 : f t with
    | none => rw [e1] at e; cases e
    | some d =>
      cases e2 : ts.mapM f with
      | none => rw [e1, e2] at e; cases e
      | some ds' =>
        rw [e1, e2] at e
        cases e
        obtain ⟨a, b⟩ := hf t d e1
        obtain ⟨c, d'⟩ := shapedAll_of hf ts ds' e2
        refine ⟨by simp [PyData.canLayAll0, a, c], ?_⟩
        simp only [PyData.depthAll]
        exact Nat.max_le.mpr ⟨b, d'⟩
theorem shaped_of {h : AH} : ∀ (n : Nat) (t : T) (d : PyData), toD h n t = some d → d.canLay0 = true ∧ d.depth ≤ n
  | 0, _, _, e => by cases e
  | n + 1, t, d, e => by
    cases t with
    | non => cases e; simp [PyData.canLay0, PyData.depth]
    | bl b => cases e; simp [PyData.canLay0, PyData.depth]
    | int b => cases e; simp [PyData.canLay0, PyData.depth]
    | str b =>
      simp only [toD] at e
      split at e
      · rename_i q; cases e; simp [PyData.canLay0, PyData.depth, q]
      · cases e
    | tup ts =>
      simp only [toD, Option.map_eq_some_iff] at e
      obtain ⟨ds, e, rfl⟩ := e
      obtain ⟨a, b⟩ := shapedAll_of (shaped_of n) ts ds e
      exact ⟨by simp [PyData.canLay0, a], by simp only [PyData.depth]; omega⟩
    | ftp ts =>
      simp only [toD, Option.map_eq_some_iff] at e
      obtain ⟨ds, e, rfl⟩ := e
      obtain ⟨a, b⟩ := shapedAll_of (shaped_of n) ts ds e
      exact ⟨by simp [PyData.canLay0, a], by simp only [PyData.depth]; omega⟩
    | _ =>
      simp only [toD] at e
      split at e
      · simp only [Option.map_eq_some_iff] at e
        obtain ⟨ds, e, rfl⟩ := e
        obtain ⟨a, b⟩ := shapedAll_of (shaped_of n) _ ds e
        exact ⟨by simp [PyData.canLay0, a], by simp only [PyData.depth]; omega⟩
      · cases e
abbrev deep : Nat := 40
theorem shaped40 {h : AH} {t : T} {d : PyData} (e : toD h deep t = some d) : SeqAt.shaped d = true := by
  obtain ⟨a, b⟩ := shaped_of deep t d e
  unfold SeqAt.shaped
  rw [a]
  exact decide_eq_true (Nat.le_trans b (by decide))
/-- texts by their signs, all else as data -/
def opEq (neg : Bool) : Op2 := fun h x y => match x, y with
  | .str a, .str b => some (.bl (if neg then !decide (a = b) else decide (a = b)))
  | x, y => match toD h deep x, toD h deep y with
    | some d, some e => some (.bl (if neg then !PyData.eqv d e else PyData.eqv d e))
    | _, _ => none
theorem dec_V {a b : Str} : decide (V.str a = V.str b) = decide (a = b) := by
  by_cases h : a = b
  · subst h; simp
  · rw [decide_eq_false h, decide_eq_false fun z => h (V.str.inj z)]
theorem o_eq (hu : X.A.units + 64 < cLine) : OpR X (compareOp .Eq) (rO X.K X.mg (opEq false)) := by
  refine OpR.imp (OpR.orr op_eq (op_eqD hu)) fun x y H Q q => ?_
  obtain ⟨S, h, t, t', z, hr, rx, ry, e, q⟩ := q
  unfold opEq at e
  split at e
  · cases e
    simp only [RelT] at rx ry
    subst rx ry
    exact .inl ⟨rfl, by rw [dec_V]; exact q S _ H (Ext.refl S H) hr (by simp [RelT])⟩
  · split at e
    · rename_i d d' e1 e2
      cases e
      exact .inr ⟨d, d', dp_of hr _ _ _ _ rx e1, dp_of hr _ _ _ _ ry e2, shaped40 e1, shaped40 e2, q S _ H (Ext.refl S H) hr (by simp [RelT])⟩
    · cases e
theorem o_ne (hu : X.A.units + 64 < cLine) : OpR X (compareOp .NotEq) (rO X.K X.mg (opEq true)) := by
  refine OpR.imp (OpR.orr op_ne (op_neD hu)) fun x y H Q q => ?_
  obtain ⟨S, h, t, t', z, hr, rx, ry, e, q⟩ := q
  unfold opEq at e
  split at e
  · cases e
    simp only [RelT] at rx ry
    subst rx ry
    exact .inl ⟨rfl, by rw [dec_V]; exact q S _ H (Ext.refl S H) hr (by simp [RelT])⟩
  · split at e
    · rename_i d d' e1 e2
      cases e
      exact .inr ⟨d, d', dp_of hr _ _ _ _ rx e1, dp_of hr _ _ _ _ ry e2, shaped40 e1, shaped40 e2, q S _ H (Ext.refl S H) hr (by simp [RelT])⟩
    · cases e
end
end TL

namespace TL
open PySem PySem.Spec PyProof.Rows L2
section
variable {X : Cx} {W : WX} {σ : L2.St} {S S' : AS} {H H' : Hp} {e a b c : Expr} {es : List Expr} {w wa wb wc : WEx} {pos p p2 : Pos} {wr : WAr} {x : Str}

def wNil : WAr := fun _ h R _ => R [] h
def wCons (w : WEx) (wr : WAr) : WAr := fun ρ h R RX => w ρ h (fun x h1 => wr ρ h1 (fun xs h2 => R (x :: xs) h2) RX) RX
theorem sa_nil : SA X W [] wNil := PA.imp pa_nil fun σ H Q ⟨S, ρ, h, R, RX, ar, hr, r, q, _⟩ => q [] h r S [] H (Ext.refl S H) hr .nil
theorem sa_cons (ha : SE X W e w) (hr : SA X W es wr) (hs : starEach (e :: es) X.env = (false, eval e X.env) :: starEach es X.env := by rfl) : SA X W (e :: es) (wCons w wr) :=
  PA.imp (pa_cons ha hr hs) fun σ H Q ⟨S, ρ, h, R, RX, ar, hr, hw, hR, hX⟩ => by
    refine ⟨S, ρ, h, _, RX, ar, hr, hw, fun x h1 q1 S1 u H1 E1 R1 rx => ?_, hX⟩
    refine ⟨S1, ρ, h1, _, RX, ar.mono E1.sub, R1, q1, fun xs h2 q2 S2 us H2 E2 R2 rs => ?_, hX.mono E1⟩
    exact hR _ h2 q2 S2 _ H2 (E1.trans E2) R2 (.cons (rx.mono E2.sub) rs)
def wTup (wr : WAr) : WEx := fun ρ h R RX => wr ρ h (fun ts h1 => ts.length ≤ lim ∧ R (.tup ts) h1) RX
theorem se_tup {n : Nat} (h : SA X W es wr) : SE X W (.Tuple es n pos) (wTup wr) := PE.imp (pe_tup h) fun σ H Q ⟨S, ρ, h, R, RX, ar, hr, hw, hR, hX⟩ => by
  refine ⟨S, ρ, h, _, RX, ar, hr, hw, fun ts h1 q1 S1 us H1 E1 R1 rs => ⟨by rw [← rs.length]; exact lim_le q1.1, ?_⟩, hX⟩
  exact new_tup R1 rs fun S2 v H2 E2 R2 r2 => hR _ h1 q1.2 S2 v H2 (E1.trans E2) R2 r2
/-- a list that is never changed -/
def wLstF (wr : WAr) : WEx := fun ρ h R RX => wr ρ h (fun ts h1 => ts.length ≤ lim ∧ R (.lst ts) h1) RX
theorem se_lstF (h : SA X W es wr) : SE X W (.List es pos) (wLstF wr) := PE.imp (pe_lst h) fun σ H Q ⟨S, ρ, h, R, RX, ar, hr, hw, hR, hX⟩ => by
  refine ⟨S, ρ, h, _, RX, ar, hr, hw, fun ts h1 q1 S1 us H1 E1 R1 rs => ⟨by rw [← rs.length]; exact lim_le q1.1, ?_⟩, hX⟩
  exact new_lst R1 rs fun S2 v H2 E2 R2 r2 => hR _ h1 q1.2 S2 v H2 (E1.trans E2) R2 r2
/-- a list that may be changed: a cell -/
def wLstC (wr : WAr) : WEx := fun ρ h R RX => wr ρ h (fun ts h1 => ts.length ≤ lim ∧ R (.ref h1.length) (h1 ++ [.lst ts])) RX
theorem se_lstC (h : SA X W es wr) : SE X W (.List es pos) (wLstC wr) := PE.imp (pe_lst h) fun σ H Q ⟨S, ρ, h, R, RX, ar, hr, hw, hR, hX⟩ => by
  refine ⟨S, ρ, h, _, RX, ar, hr, hw, fun ts h1 q1 S1 us H1 E1 R1 rs => ⟨by rw [← rs.length]; exact lim_le q1.1, ?_⟩, hX⟩
  exact new_cell R1 rs fun S2 v H2 E2 R2 r2 => hR _ _ q1.2 S2 v H2 (E1.trans E2) R2 r2

def tru (h : AH) : T → Option Bool
  | .non => some false
  | .bl b => some b
  | .int i => some (i != 0)
  | .str y => if y.length ≤ lim then some ((y.length : Int) != 0) else none
  | t => match asQ h t with
    | some xs => some (!xs.isEmpty)
    | none => match t with
      | .ref n => match h[n]? with
        | some (.dct kvs) => some (!kvs.isEmpty)
        | _ => none
      | _ => none
theorem isEmpty_rel {K : PySem.W.Frag} {ts : List T} {us : List V} (r : RelTs K S ts us) : (!ts.isEmpty) = !us.isEmpty := by
  have := r.length
  cases ts <;> cases us <;> simp_all
theorem tru_rel {K : PySem.W.Frag} {mg : Str → Option Value} {h : AH} {t : T} {v : V} {k : Bool} (hr : HRel K mg S h H) (r : RelT K S t v) (e : tru h t = some k) : TruV K v H k := by
  have seq : ∀ ts, asQ h t = some ts → k = (!ts.isEmpty) → TruV K v H k := fun ts q ek => by
    obtain ⟨a, us, rfl, h1, r1⟩ := asQ_rel hr r q
    rcases h1 with h1 | h1
    · exact .inl ⟨us, h1, by rw [ek]; exact isEmpty_rel r1⟩
    · exact .inr (.inl ⟨us, h1, by rw [ek]; exact isEmpty_rel r1⟩)
  cases t with
  | non => simp only [RelT] at r; cases e; subst r; exact rfl
  | bl b => simp only [RelT] at r; cases e; subst r; exact rfl
  | int b => simp only [RelT] at r; cases e; subst r; exact rfl
  | str b =>
    simp only [RelT] at r; subst r
    simp only [tru] at e
    split at e
    · rename_i hz; cases e; exact ⟨lim_le hz, rfl⟩
    · cases e
  | ref n =>
    simp only [tru] at e
    split at e
    · rename_i xs q; cases e; exact seq _ q rfl
    · split at e
      · rename_i kvs q
        cases e
        simp only [RelT] at r
        obtain ⟨_, rfl⟩ := r
        obtain ⟨us, hz, q1, q2⟩ := hr.c n _ q
        refine .inr (.inr ⟨_, q1, ?_⟩)
        cases kvs <;> cases us <;> simp_all
      · cases e
  | _ =>
    simp only [tru] at e
    split at e
    · rename_i xs q; cases e; exact seq _ q rfl
    · cases e
def wTru (w : WEx) : WTe := fun ρ h R RX => w ρ h (fun x h1 => ∃ k, tru h1 x = some k ∧ R k h1) RX
theorem st_truth (ha : SE X W e w) (he : ∀ whole, isTrue e X.env whole = (do let v ← whole; standAt e.pos; holding [v] (truthy v)) := by intro _; rfl) : ST X W e (wTru w) :=
  PT.imp (pt_truth ha he) fun σ H Q ⟨S, ρ, h, R, RX, ar, hr, hw, hR, hX⟩ => by
    refine ⟨S, ρ, h, _, RX, ar, hr, hw, fun x h1 q1 S1 u H1 E1 R1 rx => ?_, hX⟩
    obtain ⟨k, ek, q⟩ := q1
    exact ⟨k, tru_rel R1 rx ek, hR k h1 q S1 H1 E1 R1⟩
def wNotT (w : WTe) : WTe := fun ρ h R RX => w ρ h (fun k h1 => R (!k) h1) RX
theorem st_not {w : WTe} (ha : ST X W a w) : ST X W (.UnaryOp .Not a pos) (wNotT w) := PT.imp (pt_not ha) fun σ H Q ⟨S, ρ, h, R, RX, ar, hr, hw, hR, hX⟩ =>
  ⟨S, ρ, h, _, RX, ar, hr, hw, fun x h1 q1 S1 H1 E1 R1 => hR _ h1 q1 S1 H1 E1 R1, hX⟩
def wAndT (w u : WTe) : WTe := fun ρ h R RX => w ρ h (fun k h1 => if k = true then u ρ h1 R RX else R false h1) RX
def wOrT (w u : WTe) : WTe := fun ρ h R RX => w ρ h (fun k h1 => if k = true then R true h1 else u ρ h1 R RX) RX
abbrev SW (X : Cx) (W : WX) (e : Expr) (w : WTe) : Prop := PW X e (tWT X W w)
theorem PW.imp {t t' : TT} (h : PW X e t) (i : ∀ σ H Q, t' σ H Q → t σ H Q) : PW X e t' := ⟨fun whole pins s σ H Q I q => h.run whole pins s σ H Q I (i σ H Q q)⟩
theorem sw_and1 {w : WTe} (ha : ST X W a w) : SW X W (.BoolOp .And [a] pos) w := pw_and1 ha
theorem sw_or1 {w : WTe} (ha : ST X W a w) : SW X W (.BoolOp .Or [a] pos) w := pw_or1 ha
theorem sw_and {w u : WTe} {rest : List Expr} (ha : ST X W a w) (hb : SW X W (.BoolOp .And (b :: rest) pos) u) : SW X W (.BoolOp .And (a :: b :: rest) pos) (wAndT w u) :=
  PW.imp (pw_and ha hb) fun σ H Q ⟨S, ρ, h, R, RX, ar, hr, hw, hR, hX⟩ => by
    refine ⟨S, ρ, h, _, RX, ar, hr, hw, fun k h1 q1 S1 H1 E1 R1 => ?_, hX⟩
    cases k with
    | true => exact ⟨S1, ρ, h1, R, RX, ar.mono E1.sub, R1, by simpa using q1, fun k' h2 q2 S2 H2 E2 R2 => hR k' h2 q2 S2 H2 (E1.trans E2) R2, hX.mono E1⟩
    | false => exact hR false h1 (by simpa using q1) S1 H1 E1 R1
theorem sw_or {w u : WTe} {rest : List Expr} (ha : ST X W a w) (hb : SW X W (.BoolOp .Or (b :: rest) pos) u) : SW X W (.BoolOp .Or (a :: b :: rest) pos) (wOrT w u) :=
  PW.imp (pw_or ha hb) fun σ H Q ⟨S, ρ, h, R, RX, ar, hr, hw, hR, hX⟩ => by
    refine ⟨S, ρ, h, _, RX, ar, hr, hw, fun k h1 q1 S1 H1 E1 R1 => ?_, hX⟩
    cases k with
    | false => exact ⟨S1, ρ, h1, R, RX, ar.mono E1.sub, R1, by simpa using q1, fun k' h2 q2 S2 H2 E2 R2 => hR k' h2 q2 S2 H2 (E1.trans E2) R2, hX.mono E1⟩
    | true => exact hR true h1 (by simpa using q1) S1 H1 E1 R1
def wNot (w : WEx) : WEx := fun ρ h R RX => w ρ h (fun x h1 => ∃ k, tru h1 x = some k ∧ R (.bl (!k)) h1) RX
theorem se_not (ha : SE X W a w) : SE X W (.UnaryOp .Not a pos) (wNot w) := PE.imp (pe_notT ha) fun σ H Q ⟨S, ρ, h, R, RX, ar, hr, hw, hR, hX⟩ => by
  refine ⟨S, ρ, h, _, RX, ar, hr, hw, fun x h1 q1 S1 u H1 E1 R1 rx => ?_, hX⟩
  obtain ⟨k, ek, q⟩ := q1
  exact ⟨k, tru_rel R1 rx ek, hR _ h1 q S1 _ H1 E1 R1 (by simp [RelT])⟩
def wAnd (wa wb : WEx) : WEx := fun ρ h R RX => wa ρ h (fun x h1 => ∃ k, tru h1 x = some k ∧ if k = true then wb ρ h1 R RX else R x h1) RX
def wOr (wa wb : WEx) : WEx := fun ρ h R RX => wa ρ h (fun x h1 => ∃ k, tru h1 x = some k ∧ if k = true then R x h1 else wb ρ h1 R RX) RX
theorem se_one {op : BoolOp} (ha : SE X W a w) : SE X W (.BoolOp op [a] pos) w := pe_one ha
theorem se_and {rest : List Expr} (ha : SE X W a wa) (hb : SE X W (.BoolOp .And (b :: rest) pos) wb) : SE X W (.BoolOp .And (a :: b :: rest) pos) (wAnd wa wb) :=
  PE.imp (pe_andT ha hb) fun σ H Q ⟨S, ρ, h, R, RX, ar, hr, hw, hR, hX⟩ => by
    refine ⟨S, ρ, h, _, RX, ar, hr, hw, fun x h1 q1 S1 u H1 E1 R1 rx => ?_, hX⟩
    obtain ⟨k, ek, q⟩ := q1
    refine ⟨k, tru_rel R1 rx ek, ?_⟩
    cases k with
    | true => exact ⟨S1, ρ, h1, R, RX, ar.mono E1.sub, R1, by simpa using q, fun k' h2 q2 S2 v2 H2 E2 R2 => hR k' h2 q2 S2 v2 H2 (E1.trans E2) R2, hX.mono E1⟩
    | false => exact hR x h1 (by simpa using q) S1 u H1 E1 R1 rx
theorem se_or {rest : List Expr} (ha : SE X W a wa) (hb : SE X W (.BoolOp .Or (b :: rest) pos) wb) : SE X W (.BoolOp .Or (a :: b :: rest) pos) (wOr wa wb) :=
  PE.imp (pe_orT ha hb) fun σ H Q ⟨S, ρ, h, R, RX, ar, hr, hw, hR, hX⟩ => by
    refine ⟨S, ρ, h, _, RX, ar, hr, hw, fun x h1 q1 S1 u H1 E1 R1 rx => ?_, hX⟩
    obtain ⟨k, ek, q⟩ := q1
    refine ⟨k, tru_rel R1 rx ek, ?_⟩
    cases k with
    | false => exact ⟨S1, ρ, h1, R, RX, ar.mono E1.sub, R1, by simpa using q, fun k' h2 q2 S2 v2 H2 E2 R2 => hR k' h2 q2 S2 v2 H2 (E1.trans E2) R2, hX.mono E1⟩
    | true => exact hR x h1 (by simpa using q) S1 u H1 E1 R1 rx
def wIf (wt : WTe) (wa wb : WEx) : WEx := fun ρ h R RX => wt ρ h (fun k h1 => if k = true then wa ρ h1 R RX else wb ρ h1 R RX) RX
theorem se_if {wt : WTe} (hc : ST X W c wt) (ha : SE X W a wa) (hb : SE X W b wb) : SE X W (.IfExp c a b pos) (wIf wt wa wb) :=
  PE.imp (pe_ifExp hc ha hb) fun σ H Q ⟨S, ρ, h, R, RX, ar, hr, hw, hR, hX⟩ => by
    refine ⟨S, ρ, h, _, RX, ar, hr, hw, fun k h1 q1 S1 H1 E1 R1 => ?_, hX⟩
    cases k with
    | true => exact ⟨S1, ρ, h1, R, RX, ar.mono E1.sub, R1, by simpa using q1, fun k' h2 q2 S2 v2 H2 E2 R2 => hR k' h2 q2 S2 v2 H2 (E1.trans E2) R2, hX.mono E1⟩
    | false => exact ⟨S1, ρ, h1, R, RX, ar.mono E1.sub, R1, by simpa using q1, fun k' h2 q2 S2 v2 H2 E2 R2 => hR k' h2 q2 S2 v2 H2 (E1.trans E2) R2, hX.mono E1⟩
/-- a op b op' c -/
def wChain (f g : Op2) (wa wb wc : WEx) : WEx := fun ρ h R RX => wa ρ h (fun x h1 => wb ρ h1 (fun y h2 => ∃ k, f h2 x y = some (.bl k) ∧ if k = true then wc ρ h2 (fun z h3 => ∃ r, g h3 y z = some r ∧ R r h3) RX else R (.bl false) h2) RX) RX
theorem tW_chain {f g : Op2} {Q : VK} (q : tW X W (wChain f g wa wb wc) σ H Q) : tChain (rO X.K X.mg f) (rO X.K X.mg g) (tW X W wa) (tW X W wb) (tW X W wc) σ H Q := by
  obtain ⟨S, ρ, h, R, RX, ar, hr, hw, hR, hX⟩ := q
  refine ⟨S, ρ, h, _, RX, ar, hr, hw, fun x h1 q1 S1 u H1 E1 R1 rx => ?_, hX⟩
  refine ⟨S1, ρ, h1, _, RX, ar.mono E1.sub, R1, q1, fun y h2 q2 S2 u2 H2 E2 R2 ry => ?_, hX.mono E1⟩
  obtain ⟨k, ek, q⟩ := q2
  refine ⟨S2, h2, x, y, .bl k, R2, rx.mono E2.sub, ry, ek, fun S3 v H3 E3 R3 rv => ?_⟩
  simp only [RelT] at rv
  refine ⟨k, rv, ?_⟩
  have E13 := (E1.trans E2).trans E3
  cases k with
  | true =>
    refine iteT ⟨S3, ρ, h2, _, RX, ar.mono E13.sub, R3, by simpa using q, fun z h3 q3 S4 u3 H4 E4 R4 rz => ?_, hX.mono E13⟩
    obtain ⟨r, er, q3⟩ := q3
    exact ⟨S4, h3, y, z, r, R4, ry.mono (E3.trans E4).sub, rz, er, fun S5 v5 H5 E5 R5 r5 => hR r h3 q3 S5 v5 H5 ((E13.trans E4).trans E5) R5 r5⟩
  | false => exact iteF (hR _ h2 (by simpa using q) S3 _ H3 E13 R3 (by simp [RelT]))
theorem se_chain {op op' : CmpOp} {f g : Op2} (ho : OpR X (compareOp op) (rO X.K X.mg f)) (ho' : OpR X (compareOp op') (rO X.K X.mg g)) (ha : SE X W a wa) (hb : SE X W b wb) (hc : SE X W c wc)
    (hm : lastMarks [op, op'] [b, c] = false := by with_unfolding_all rfl) : SE X W (.Compare a [op, op'] [b, c] pos) (wChain f g wa wb wc) :=
  PE.imp (pe_chain ho ho' ha hb hc hm) fun _ _ _ q => tW_chain q
/-- -a -/
def wNeg (w : WEx) : WEx := fun ρ h R RX => w ρ h (fun x h1 => ∃ i, x = .int i ∧ R (.int (-i)) h1) RX
theorem se_neg (ha : SE X W a w) : SE X W (.UnaryOp .USub a pos) (wNeg w) := PE.imp (pe_un un_neg ha) fun σ H Q ⟨S, ρ, h, R, RX, ar, hr, hw, hR, hX⟩ => by
  refine ⟨S, ρ, h, _, RX, ar, hr, hw, fun x h1 q1 S1 u H1 E1 R1 rx => ?_, hX⟩
  obtain ⟨i, rfl, q⟩ := q1
  simp only [RelT] at rx
  exact ⟨i, rx, hR _ h1 q S1 _ H1 E1 R1 (by simp [RelT])⟩

def opIx : Op2 := fun h x y => match y with
  | .int i => match x with
    | .str z => if z.length ≤ lim then (atI z.cps.toList i).map fun c => .str ⟨#[c]⟩ else none
    | x => match asQ h x with
      | some xs => atI xs i
      | none => none
  | _ => none
theorem atI_rel {K : PySem.W.Frag} {ts : List T} {us : List V} {i : Int} {t : T} (r : RelTs K S ts us) (e : atI ts i = some t) : ∃ u, atI us i = some u ∧ RelT K S t u := by
  unfold atI at e ⊢
  rw [← r.length]
  cases q : ixN ts.length i with
  | none => rw [q] at e; cases e
  | some j =>
    rw [q] at e
    exact r.get (by simpa using e)
theorem IxR.imp {r r' : R2} (h : IxR X r) (i : ∀ x y H Q, r' x y H Q → r x y H Q) : IxR X r' := fun a b pins s σ H x y v u Q I rx ry q hs => h a b pins s σ H x y v u Q I rx ry (i _ _ _ _ q) hs
theorem ix_any : IxR X (rO X.K X.mg opIx) := IxR.imp ix_seq fun x y H Q q => by
  obtain ⟨S, h, t, t', z, hr, rt, ry', e, q⟩ := q
  unfold opIx at e
  split at e
  · rename_i i
    simp only [RelT] at ry'
    split at e
    · rename_i zz
      simp only [RelT] at rt
      split at e
      · rename_i hz
        simp only [Option.map_eq_some_iff] at e
        obtain ⟨c, ec, rfl⟩ := e
        exact .inr (.inr ⟨zz, i, c, rt, ry', lim_le hz, ec, q S _ H (Ext.refl S H) hr (by simp [RelT])⟩)
      · cases e
    · split at e
      · rename_i xs q2
        obtain ⟨a, us, rfl, h1, r1⟩ := asQ_rel hr rt q2
        obtain ⟨w, e1, r2⟩ := atI_rel r1 e
        rcases h1 with h1 | h1
        · exact .inl ⟨a, us, i, w, rfl, ry', h1, e1, q S w H (Ext.refl S H) hr r2⟩
        · exact .inr (.inl ⟨a, us, i, w, rfl, ry', h1, e1, q S w H (Ext.refl S H) hr r2⟩)
      · cases e
  · cases e
theorem se_ix (ha : SE X W a wa) (hb : SE X W b wb) (hs : PlainIx b := by exact fun _ _ => rfl) : SE X W (.Subscript a b pos) (wBin opIx wa wb) :=
  PE.imp (pe_ix ix_any ha hb hs) fun _ _ _ q => tW_bin q
abbrev WPo := Rho → AH → (Option Int → AH → Prop) → XC → Prop
def wPo0 : WPo := fun _ h R _ => R none h
def wPo (w : WEx) : WPo := fun ρ h R RX => w ρ h (fun x h1 => ∃ i, x = .int i ∧ R (some i) h1) RX
def tWO (X : Cx) (W : WX) (w : WPo) : TO := fun σ H Q => ∃ S ρ h R RX, ARel X.K S ρ σ ∧ HRel X.K X.mg S h H ∧ w ρ h R RX ∧
  (∀ o h', R o h' → ∀ S' H', Ext S H S' H' → HRel X.K X.mg S' h' H' → Q o H') ∧ XOk X W S H σ RX
abbrev SO (X : Cx) (W : WX) (e : Option Expr) (w : WPo) : Prop := PO X e (tWO X W w)
theorem PO.imp {o : Option Expr} {t t' : TO} (h : PO X o t) (i : ∀ σ H Q, t' σ H Q → t σ H Q) : PO X o t' := ⟨fun pins s σ H Q I q => h.run pins s σ H Q I (i σ H Q q)⟩
theorem so_none : SO X W none wPo0 := PO.imp po_none fun σ H Q ⟨S, ρ, h, R, RX, ar, hr, r, q, _⟩ => q none h r S H (Ext.refl S H) hr
theorem so_some (ha : SE X W e w) : SO X W (some e) (wPo w) := PO.imp (po_some ha) fun σ H Q ⟨S, ρ, h, R, RX, ar, hr, hw, hR, hX⟩ => by
  refine ⟨S, ρ, h, _, RX, ar, hr, hw, fun x h1 q1 S1 u H1 E1 R1 rx => ?_, hX⟩
  obtain ⟨i, rfl, q⟩ := q1
  simp only [RelT] at rx
  exact ⟨i, rx, hR _ h1 q S1 H1 E1 R1⟩
def cutT (xs : List T) (lo hi : Option Int) : List T := (xs.drop (HT.sIx xs.length 0 lo)).take (HT.sIx xs.length xs.length hi - HT.sIx xs.length 0 lo)
theorem cut_rel {K : PySem.W.Frag} {ts : List T} {us : List V} (r : RelTs K S ts us) (lo hi : Option Int) : RelTs K S (cutT ts lo hi) (cutV us lo hi) := by
  unfold cutT cutV
  rw [← r.length]
  exact (r.drop _).take _
def opSl (h : AH) (x : T) (lo hi : Option Int) : Option T := match x with
  | .tup xs => some (.tup (cutT xs lo hi))
  | .str z => if z.length ≤ lim then some (.str (cutS z lo hi)) else none
  | x => match asL h x with
    | some xs => some (.lst (cutT xs lo hi))
    | none => none
theorem cutT_all {xs : List T} {lo hi : Option Int} (h : HT.sIx xs.length 0 lo = 0 ∧ HT.sIx xs.length xs.length hi = xs.length) : cutT xs lo hi = xs := by
  unfold cutT
  rw [h.1, h.2]
  simp
def wSl (w : WEx) (wl wh : WPo) : WEx := fun ρ h R RX => w ρ h (fun x h1 => wl ρ h1 (fun lo h2 => wh ρ h2 (fun hi h3 => ∃ z, opSl h3 x lo hi = some z ∧ R z h3) RX) RX) RX
theorem se_sl {lo hi : Option Expr} {wl wh : WPo} (ha : SE X W e w) (hl : SO X W lo wl) (hh : SO X W hi wh) : SE X W (.Subscript e (.Slice lo hi none p2) pos) (wSl w wl wh) :=
  PE.imp (pe_slice (SlR.or sl_list (SlR.or sl_tupA sl_str)) ha hl hh) fun σ H Q ⟨S, ρ, h, R, RX, ar, hr, hw, hR, hX⟩ => by
    refine ⟨S, ρ, h, _, RX, ar, hr, hw, fun x h1 q1 S1 u H1 E1 R1 rx => ?_, hX⟩
    refine ⟨S1, ρ, h1, _, RX, ar.mono E1.sub, R1, q1, fun lo h2 q2 S2 H2 E2 R2 => ?_, hX.mono E1⟩
    refine ⟨S2, ρ, h2, _, RX, ar.mono (E1.trans E2).sub, R2, q2, fun hi h3 q3 S3 H3 E3 R3 => ?_, hX.mono (E1.trans E2)⟩
    obtain ⟨z, ez, q⟩ := q3
    have E := (E1.trans E2).trans E3
    have rx := rx.mono (E2.trans E3).sub
    unfold opSl at ez
    split at ez
    · rename_i xs
      cases ez
      obtain ⟨a, us, rfl, h1, r1⟩ := asT_rel R3 rx rfl
      refine .inr (.inl ⟨a, us, rfl, h1, fun hz => ?_, fun _ => new_tup R3 (cut_rel r1 lo hi) fun S4 v H4 E4 R4 r4 => hR _ h3 q S4 v H4 (E.trans E4) R4 r4⟩)
      rw [← r1.length] at hz
      rw [cutT_all hz] at q
      exact hR _ h3 q S3 _ H3 E R3 rx
    · rename_i z
      split at ez
      · rename_i hz
        cases ez
        simp only [RelT] at rx
        exact .inr (.inr ⟨_, rx, lim_le hz, hR _ h3 q S3 _ H3 E R3 (by simp [RelT])⟩)
      · cases ez
    · split at ez
      · rename_i xs q2
        cases ez
        obtain ⟨a, us, rfl, h1, r1⟩ := asL_rel R3 rx q2
        exact .inl ⟨a, us, rfl, h1, new_lst R3 (cut_rel r1 lo hi) fun S4 v H4 E4 R4 r4 => hR _ h3 q S4 v H4 (E.trans E4) R4 r4⟩
      · cases ez

abbrev OpN := AH → List T → Option T
def rN (K : PySem.W.Frag) (mg : Str → Option Value) (op : OpN) : List V → Hp → VK → Prop := fun vs H Q => ∃ S h ts z, HRel K mg S h H ∧ RelTs K S ts vs ∧ op h ts = some z ∧
  ∀ S' v H', Ext S H S' H' → HRel K mg S' h H' → RelT K S' z v → Q v H'
def wCallN (op : OpN) (wr : WAr) : WEx := fun ρ h R RX => wr ρ h (fun ts h1 => ∃ z, op h1 ts = some z ∧ R z h1) RX
theorem tW_callN {op : OpN} {Q : VK} (q : tW X W (wCallN op wr) σ H Q) : tCB (rN X.K X.mg op) (tWA X W wr) σ H Q := by
  obtain ⟨S, ρ, h, R, RX, ar, hr, hw, hR, hX⟩ := q
  refine ⟨S, ρ, h, _, RX, ar, hr, hw, fun ts h1 q1 S1 us H1 E1 R1 rs => ?_, hX⟩
  obtain ⟨z, ez, q⟩ := q1
  exact ⟨S1, h1, ts, z, R1, rs, ez, fun S2 v H2 E2 R2 r2 => hR z h1 q S2 v H2 (E1.trans E2) R2 r2⟩
theorem se_bi {id : String} {op : OpN} (hc : CallR X (.builtin id) (rN X.K X.mg op)) (hm : X.mg x = none) (ha : SA X W (e :: es) wr) (hv : bootBuiltins x = some (.builtin id) := by decide +kernel) (hg : Gl X x := by rfl)
    (hn : x ≠ "__name__" := by decide) (hdb : (x == ("__debug__" : Str)) = false := by decide) (he : starEach (e :: es) X.env = (false, eval e X.env) :: starEach es X.env := by rfl) (hpl : (backTo pos (starEach es X.env)).any (·.1) = false := by rfl) :
    SE X W (.Call (.Name x p) (e :: es) [] pos) (wCallN op wr) := PE.imp (pe_callB hc hg hm hv ha hn hdb he hpl) fun _ _ _ q => tW_callN q
theorem se_ty {T : String} {op : OpN} (hc : CallR X (.type T) (rN X.K X.mg op)) (hm : X.mg x = none) (ha : SA X W (e :: es) wr) (hv : bootBuiltins x = some (.type T) := by decide +kernel) (hg : Gl X x := by rfl)
    (hn : x ≠ "__name__" := by decide) (hdb : (x == ("__debug__" : Str)) = false := by decide) (he : starEach (e :: es) X.env = (false, eval e X.env) :: starEach es X.env := by rfl) (hpl : (backTo pos (starEach es X.env)).any (·.1) = false := by rfl) :
    SE X W (.Call (.Name x p) (e :: es) [] pos) (wCallN op wr) := PE.imp (pe_callTy hc hg hm hv ha hn hdb he hpl) fun _ _ _ q => tW_callN q
theorem CallR.imp {f : Value} {r r' : List V → Hp → VK → Prop} (h : CallR X f r) (i : ∀ xs H Q, r' xs H Q → r xs H Q) : CallR X f r' := fun pins s σ H xs us Q I rx q => h pins s σ H xs us Q I rx (i _ _ _ q)
theorem rel1 {K : PySem.W.Frag} {t : T} {us : List V} (r : RelTs K S [t] us) : ∃ u, us = [u] ∧ RelT K S t u := by
  simp only [RelTs] at r
  obtain ⟨u, r', rfl, a, rfl⟩ := r
  exact ⟨u, rfl, a⟩
theorem rel2 {K : PySem.W.Frag} {t t' : T} {us : List V} (r : RelTs K S [t, t'] us) : ∃ u u', us = [u, u'] ∧ RelT K S t u ∧ RelT K S t' u' := by
  simp only [RelTs] at r
  obtain ⟨u, r', rfl, a, u', r2, rfl, b, rfl⟩ := r
  exact ⟨u, u', rfl, a, b⟩
def opLen : OpN := fun h ts => match ts with
  | [.str z] => if z.length ≤ lim then some (.int z.length) else none
  | [t] => match asQ h t with
    | some xs => some (.int xs.length)
    | none => none
  | _ => none
theorem c_len : CallR X (.builtin "len") (rN X.K X.mg opLen) := CallR.imp (CallR.or call_len_seq call_len_str) fun vs H Q ⟨S, h, ts, z, hr, rs, e, q⟩ => by
  unfold opLen at e
  split at e
  · obtain ⟨u, rfl, r⟩ := rel1 rs
    simp only [RelT] at r; subst r
    split at e
    · rename_i hz
      cases e
      exact .inr ⟨_, rfl, lim_le hz, q S _ H (Ext.refl S H) hr (by simp [RelT])⟩
    · cases e
  · obtain ⟨u, rfl, r⟩ := rel1 rs
    split at e
    · rename_i xs q2
      cases e
      obtain ⟨a, us, rfl, h1, r1⟩ := asQ_rel hr r q2
      exact .inl ⟨a, us, rfl, h1, q S _ H (Ext.refl S H) hr (by rw [r1.length]; simp [RelT])⟩
    · cases e
  · cases e
def opTupleOf : OpN := fun h ts => match ts with
  | [.tup xs] => some (.tup xs)
  | [t] => match asL h t with
    | some xs => some (.tup xs)
    | none => none
  | _ => none
theorem c_tuple : CallR X (.type "tuple") (rN X.K X.mg opTupleOf) := CallR.imp call_tuple_of fun vs H Q ⟨S, h, ts, z, hr, rs, e, q⟩ => by
  unfold opTupleOf at e
  split at e
  · obtain ⟨u, rfl, r⟩ := rel1 rs
    cases e
    obtain ⟨a, us, rfl, h1, r1⟩ := asT_rel hr r rfl
    exact ⟨a, us, rfl, .inr ⟨h1, q S _ H (Ext.refl S H) hr r⟩⟩
  · obtain ⟨u, rfl, r⟩ := rel1 rs
    split at e
    · rename_i xs q2
      cases e
      obtain ⟨a, us, rfl, h1, r1⟩ := asL_rel hr r q2
      exact ⟨a, us, rfl, .inl ⟨h1, new_tup hr r1 q⟩⟩
    · cases e
  · cases e
def opListOf : OpN := fun h ts => match ts with
  | [t] => match asQ h t with
    | some xs => some (.lst xs)
    | none => none
  | _ => none
theorem c_list : CallR X (.type "list") (rN X.K X.mg opListOf) := CallR.imp call_list_of fun vs H Q ⟨S, h, ts, z, hr, rs, e, q⟩ => by
  unfold opListOf at e
  split at e
  · obtain ⟨u, rfl, r⟩ := rel1 rs
    split at e
    · rename_i xs q2
      cases e
      obtain ⟨a, us, rfl, h1, r1⟩ := asQ_rel hr r q2
      exact ⟨a, us, rfl, h1, new_lst hr r1 q⟩
    · cases e
  · cases e
def blOf : T → Option Bool
  | .bl b => some b
  | _ => none
def intOf : T → Option Int
  | .int b => some b
  | _ => none
theorem bls_of : ∀ {ts : List T} {bs : List Bool}, ts.mapM blOf = some bs → ts = bs.map T.bl
  | [], bs, e => by simp at e; subst e; rfl
  | t :: ts, bs, e => by
    rw [List.mapM_cons] at e
    cases e1 : blOf t with
    | none => rw [e1] at e; cases e
    | some d =>
      cases e2 : ts.mapM blOf with
      | none => rw [e1, e2] at e; cases e
      | some ds' =>
        rw [e1, e2] at e
        cases e
        rw [List.map_cons, ← bls_of e2]
        cases t <;> cases e1
        rfl
theorem ints_of : ∀ {ts : List T} {bs : List Int}, ts.mapM intOf = some bs → ts = bs.map T.int
  | [], bs, e => by simp at e; subst e; rfl
  | t :: ts, bs, e => by
    rw [List.mapM_cons] at e
    cases e1 : intOf t with
    | none => rw [e1] at e; cases e
    | some d =>
      cases e2 : ts.mapM intOf with
      | none => rw [e1, e2] at e; cases e
      | some ds' =>
        rw [e1, e2] at e
        cases e
        rw [List.map_cons, ← ints_of e2]
        cases t <;> cases e1
        rfl
def allAny (isAny : Bool) (bs : List Bool) : Bool := if isAny then bs.any id else bs.all id
def opAllAny (isAny : Bool) : OpN := fun h ts => match ts with
  | [t] => match asL h t with
    | some xs => match xs.mapM blOf with
      | some bs => some (.bl (allAny isAny bs))
      | none => none
    | none => none
  | _ => none
theorem bools_arg {K : PySem.W.Frag} {mg : Str → Option Value} {isAny : Bool} {h : AH} {ts : List T} {us : List V} {z : T} (hr : HRel K mg S h H) (rs : RelTs K S ts us) (e : opAllAny isAny h ts = some z) :
    ∃ (a : Addr) (bs : List Bool), us = [V.ref a] ∧ SqL K H a (bs.map V.bl) ∧ z = .bl (allAny isAny bs) := by
  unfold opAllAny at e
  split at e
  · obtain ⟨u, rfl, r⟩ := rel1 rs
    split at e
    · rename_i xs q2
      split at e
      · rename_i bs q3
        cases e
        obtain ⟨a, us, rfl, h1, r1⟩ := asL_rel hr r q2
        rw [bls_of q3] at r1
        rw [of_relTs_bls r1] at h1
        exact ⟨a, bs, rfl, h1, rfl⟩
      · cases e
    · cases e
  · cases e
theorem c_all (hc : X.calm = true) : CallR X (.builtin "all") (rN X.K X.mg (opAllAny false)) := CallR.imp (cr_all hc) fun vs H Q ⟨S, h, ts, z, hr, rs, e, q⟩ => by
  obtain ⟨a, bs, rfl, h1, rfl⟩ := bools_arg hr rs e
  exact ⟨a, bs, rfl, h1, q S _ H (Ext.refl S H) hr (by simp [RelT, allAny])⟩
theorem c_any (hc : X.calm = true) : CallR X (.builtin "any") (rN X.K X.mg (opAllAny true)) := CallR.imp (cr_any hc) fun vs H Q ⟨S, h, ts, z, hr, rs, e, q⟩ => by
  obtain ⟨a, bs, rfl, h1, rfl⟩ := bools_arg hr rs e
  exact ⟨a, bs, rfl, h1, q S _ H (Ext.refl S H) hr (by simp [RelT, allAny])⟩
def opMax2 : OpN := fun _ ts => match ts with
  | [.int i, .int j] => some (.int (if j > i then j else i))
  | _ => none
def opMin2 : OpN := fun _ ts => match ts with
  | [.int i, .int j] => some (.int (if j < i then j else i))
  | _ => none
theorem c_max2 (hc : X.calm = true) : CallR X (.builtin "max") (rN X.K X.mg opMax2) := CallR.imp (call_max2 hc) fun vs H Q ⟨S, h, ts, z, hr, rs, e, q⟩ => by
  unfold opMax2 at e
  split at e
  · obtain ⟨u, u', rfl, r, r'⟩ := rel2 rs
    cases e
    simp only [RelT] at r r'
    subst r r'
    exact ⟨_, _, rfl, q S _ H (Ext.refl S H) hr (by simp [RelT])⟩
  · cases e
theorem c_min2 (hc : X.calm = true) : CallR X (.builtin "min") (rN X.K X.mg opMin2) := CallR.imp (call_min2 hc) fun vs H Q ⟨S, h, ts, z, hr, rs, e, q⟩ => by
  unfold opMin2 at e
  split at e
  · obtain ⟨u, u', rfl, r, r'⟩ := rel2 rs
    cases e
    simp only [RelT] at r r'
    subst r r'
    exact ⟨_, _, rfl, q S _ H (Ext.refl S H) hr (by simp [RelT])⟩
  · cases e
def tyN (h : AH) : T → Option String
  | .non => some "NoneType"
  | .bl _ => some "bool"
  | .int _ => some "int"
  | .str _ => some "str"
  | .tup _ => some "tuple"
  | .ftp _ => none
  | .lst _ => some "list"
  | .scr _ => none
  | .edi => some "dict"
  | .fdt _ _ => none
  | .fst _ => none
  | .kt _ => none
  | .fv _ => none
  | .ref n => match h[n]? with
    | some (.lst _) => some "list"
    | some (.dct _) => some "dict"
    | some (.dtt _) => some "dict"
    | _ => none
theorem tyN_rel {K : PySem.W.Frag} {mg : Str → Option Value} {h : AH} {t : T} {v : V} {n : String} (hr : HRel K mg S h H) (r : RelT K S t v) (e : tyN h t = some n) : TyX K H v (.type n) := by
  cases t with
  | non => simp only [RelT] at r; cases e; subst r; exact .base .non
  | bl b => simp only [RelT] at r; cases e; subst r; exact .base (.bl b)
  | int b => simp only [RelT] at r; cases e; subst r; exact .base (.int b)
  | str b => simp only [RelT] at r; cases e; subst r; exact .base (.str b)
  | scr ts => cases e
  | fdt ks ts => cases e
  | fst f => cases e
  | kt d => cases e
  | fv d => cases e
  | edi =>
    cases e
    simp only [RelT] at r
    obtain ⟨a, rfl, h1⟩ := r
    exact .base (.dK (hr.g _ _ h1))
  | tup ts =>
    cases e
    obtain ⟨a, us, rfl, h1, _⟩ := asT_rel hr r rfl
    rcases h1 with (h1 | ⟨o, h1⟩) | ⟨o, its, m, k1, k2, _⟩
    · exact .base (.tup h1)
    · exact .fTuple h1
    · exact .kTuple k1 k2
  | ftp ts => cases e
  | lst ts =>
    cases e
    obtain ⟨a, us, rfl, h1, _⟩ := asR_rel hr r (h := h) rfl
    rcases h1 with h1 | ⟨o, h1⟩
    · exact .base (.lst h1)
    · exact .base (.frz h1)
  | ref m =>
    simp only [tyN] at e
    simp only [RelT] at r
    obtain ⟨_, rfl⟩ := r
    split at e
    · rename_i q; cases e; obtain ⟨us, q1, _⟩ := hr.c m _ q; exact .base (.lst q1)
    · rename_i q; cases e; obtain ⟨us, _, q1, _⟩ := hr.c m _ q; exact .base (.dK q1)
    · rename_i q; cases e; obtain ⟨us, _, q1, _⟩ := hr.c m _ q; exact .base (.dT q1)
    · cases e
def kitN (a b : String) : Option Bool := kitB a b
def tyN2 (h : AH) : T → Option String
  | .ftp _ => some "tuple"
  | t => tyN h t
theorem tyN2_rel {K : PySem.W.Frag} {mg : Str → Option Value} {h : AH} {t : T} {v : V} {n : String} (hr : HRel K mg S h H) (r : RelT K S t v) (e : tyN2 h t = some n) : TyX K H v (.type n) := by
  unfold tyN2 at e
  split at e
  · cases e
    obtain ⟨a, us, rfl, h1, _⟩ := asT_rel hr r rfl
    rcases h1 with (h1 | ⟨o, h1⟩) | ⟨o, its, m, k1, k2, _⟩
    · exact .base (.tup h1)
    · exact .fTuple h1
    · exact .kTuple k1 k2
  · exact tyN_rel hr r e
def wIsi (n : String) (w : WEx) : WEx := fun ρ h R RX => w ρ h (fun x h1 => ∃ m k, tyN2 h1 x = some m ∧ kitN m n = some k ∧ R (.bl k) h1) RX
theorem se_isi {n : String} {y : Str} (ha : SE X W e w) (hm : X.mg "isinstance" = none) (hy : X.mg y = none) (hvy : bootBuiltins y = some (.type n) := by decide +kernel) (hg : Gl X "isinstance" := by rfl) (hgy : Gl X y := by rfl)
    (hny : y ≠ "__name__" := by decide) (hdy : (y == ("__debug__" : Str)) = false := by decide)
    (he : starEach [e, .Name y p2] X.env = (false, eval e X.env) :: starEach [.Name y p2] X.env := by rfl) (he2 : starEach [.Name y p2] X.env = (false, eval (.Name y p2) X.env) :: starEach [] X.env := by rfl) (hpl : (backTo pos (starEach [.Name y p2] X.env)).any (·.1) = false := by rfl) :
    SE X W (.Call (.Name "isinstance" p) [e, .Name y p2] [] pos) (wIsi n w) :=
  PE.imp (pe_callB call_isi hg hm (by decide +kernel) (pa_cons ha (pa_cons (pe_bltn (v := .ty n) hgy hy hvy rfl hny hdy) pa_nil he2) he) (by decide) (by decide) he hpl) fun σ H Q ⟨S, ρ, h, R, RX, ar, hr, hw, hR, hX⟩ => by
    refine ⟨S, ρ, h, _, RX, ar, hr, hw, fun x h1 q1 S1 u H1 E1 R1 rx => ?_, hX⟩
    obtain ⟨m, k, e1, e2, q⟩ := q1
    exact ⟨u, .ty n, .type m, .type n, k, rfl, .ty n, tyN2_rel R1 rx e1, kit_ty e2, hR _ h1 q S1 _ H1 E1 R1 (by simp [RelT])⟩
end
end TL

namespace TL
open PySem PySem.Spec PyProof.Rows L2

structure EndsT where
  nx : Rho → AH → Prop
  rt : T → AH → Prop
  bk : Rho → AH → Prop
  ct : Rho → AH → Prop
  xc : Exc → Rho → AH → Prop
abbrev WSt := EndsT → Rho → AH → Prop
structure EndsOk (X : Cx) (W : WX) (S : AS) (H : Hp) (D : Ends) (E : EndsT) : Prop where
  nx : ∀ ρ' h', E.nx ρ' h' → ∀ S' σ' H', Ext S H S' H' → HRel X.K X.mg S' h' H' → ARel X.K S' ρ' σ' → D.nx σ' H'
  rt : ∀ t h', E.rt t h' → ∀ S' v H', Ext S H S' H' → HRel X.K X.mg S' h' H' → RelT X.K S' t v → D.rt v H'
  bk : ∀ ρ' h', E.bk ρ' h' → ∀ S' σ' H', Ext S H S' H' → HRel X.K X.mg S' h' H' → ARel X.K S' ρ' σ' → D.bk σ' H'
  ct : ∀ ρ' h', E.ct ρ' h' → ∀ S' σ' H', Ext S H S' H' → HRel X.K X.mg S' h' H' → ARel X.K S' ρ' σ' → D.ct σ' H'
  xc : ∀ c ρ' h', E.xc c ρ' h' → ∀ S' σ' H', Ext S H S' H' → HRel X.K X.mg S' h' H' → ARel X.K S' ρ' σ' → ∀ C d, X.mg c.name = some (.ref C) → ExcD X.K S' H' c.fs d → W (.ref C) d σ' H'
def tWS (X : Cx) (W : WX) (w : WSt) : TS := fun D σ H => ∃ S ρ h E, ARel X.K S ρ σ ∧ HRel X.K X.mg S h H ∧ w E ρ h ∧ EndsOk X W S H D E
abbrev SS (X : Cx) (W : WX) (st : Stmt) (w : WSt) : Prop := PS X st (tWS X W w)
abbrev SSs (X : Cx) (W : WX) (st : List Stmt) (w : WSt) : Prop := PSs X st (tWS X W w)
def tWG (X : Cx) (W : WX) (g : T → Rho → AH → (Rho → AH → Prop) → XC → Prop) : TG := fun v σ H Q => ∃ S ρ h t R RX, ARel X.K S ρ σ ∧ HRel X.K X.mg S h H ∧ RelT X.K S t v ∧ g t ρ h R RX ∧
  (∀ ρ' h', R ρ' h' → ∀ S' σ' H', Ext S H S' H' → HRel X.K X.mg S' h' H' → ARel X.K S' ρ' σ' → Q σ' H') ∧ XOk X W S H σ RX
abbrev WTg := T → Rho → AH → (Rho → AH → Prop) → XC → Prop
abbrev SG (X : Cx) (W : WX) (e : Expr) (g : WTg) : Prop := PG X e (tWG X W g)
section
variable {X : Cx} {W : WX} {σ : L2.St} {S S' : AS} {H H' : Hp} {e a b c o tg : Expr} {es : List Expr} {w wa wb wc : WEx} {pos p p2 : Pos} {wr : WAr} {x : Str} {D : Ends} {E : EndsT} {st : Stmt} {sts rest : List Stmt} {u v z : WSt} {wt : WTe} {g : WTg}
theorem PS.imp {t t' : TS} (h : PS X st t) (i : ∀ D σ H, t' D σ H → t D σ H) : PS X st t' := ⟨fun pins s σ H D I q => h.run pins s σ H D I (i D σ H q)⟩
theorem PSs.imp {t t' : TS} (h : PSs X sts t) (i : ∀ D σ H, t' D σ H → t D σ H) : PSs X sts t' := ⟨fun pins s σ H D I q => h.run pins s σ H D I (i D σ H q)⟩
theorem PG.imp {t t' : TG} (h : PG X e t) (i : ∀ v σ H Q, t' v σ H Q → t v σ H Q) : PG X e t' := ⟨fun pins s σ H v u Q I r q => h.run pins s σ H v u Q I r (i v σ H Q q)⟩
theorem EndsOk.mono (k : EndsOk X W S H D E) (e : Ext S H S' H') : EndsOk X W S' H' D E :=
  ⟨fun r h q S2 s2 H2 e2 => k.nx r h q S2 s2 H2 (e.trans e2), fun r h q S2 s2 H2 e2 => k.rt r h q S2 s2 H2 (e.trans e2), fun r h q S2 s2 H2 e2 => k.bk r h q S2 s2 H2 (e.trans e2),
    fun r h q S2 s2 H2 e2 => k.ct r h q S2 s2 H2 (e.trans e2), fun c r h q S2 s2 H2 e2 => k.xc c r h q S2 s2 H2 (e.trans e2)⟩
theorem EndsOk.xok {ρ : Rho} (k : EndsOk X W S H D E) (ar : ARel X.K S ρ σ) : XOk X W S H σ (fun c h' => E.xc c ρ h') := fun c h' q S' H' e r C d hC hd => k.xc c ρ h' q S' σ H' e r (ar.mono e.sub) C d hC hd
/-- an expression's exceptions are the statement's -/
abbrev EndsT.xe (E : EndsT) (ρ : Rho) : XC := fun c h' => E.xc c ρ h'

def wSkip : WSt := fun E ρ h => E.nx ρ h
def wSeq (u v : WSt) : WSt := fun E ρ h => u { E with nx := v E } ρ h
theorem tWS_seq {D : Ends} (q : tWS X W (wSeq u v) D σ H) : tSeq (tWS X W u) (tWS X W v) D σ H := by
  obtain ⟨S, ρ, h, E, ar, hr, hw, k⟩ := q
  exact ⟨S, ρ, h, _, ar, hr, hw, ⟨fun r h' q S' s' H' e r' a' => ⟨S', r, h', E, a', r', q, k.mono e⟩, k.rt, k.bk, k.ct, k.xc⟩⟩
theorem ss_nil : SSs X W [] wSkip := PSs.imp pss_nil fun D σ H ⟨S, ρ, h, E, ar, hr, hw, k⟩ => k.nx ρ h hw S σ H (Ext.refl S H) hr ar
theorem ss_one (h1 : SS X W st u) : SSs X W [st] u := pss_one h1
theorem ss_cons (h1 : SS X W st u) (h2 : SSs X W rest v) : SSs X W (st :: rest) (wSeq u v) := PSs.imp (pss_cons h1 h2) fun D σ H q => tWS_seq q
theorem s_pass : SS X W (.Pass pos) wSkip := PS.imp ps_pass fun D σ H ⟨S, ρ, h, E, ar, hr, hw, k⟩ => k.nx ρ h hw S σ H (Ext.refl S H) hr ar
def wBreak : WSt := fun E ρ h => E.bk ρ h
def wCont : WSt := fun E ρ h => E.ct ρ h
theorem s_break : SS X W (.Break pos) wBreak := PS.imp ps_break fun D σ H ⟨S, ρ, h, E, ar, hr, hw, k⟩ => k.bk ρ h hw S σ H (Ext.refl S H) hr ar
theorem s_cont : SS X W (.Continue pos) wCont := PS.imp ps_continue fun D σ H ⟨S, ρ, h, E, ar, hr, hw, k⟩ => k.ct ρ h hw S σ H (Ext.refl S H) hr ar
/-- what is never come to -/
def wNever : WSt := fun _ _ _ => False
theorem s_never : SS X W st wNever := PS.imp ps_never fun D σ H ⟨S, ρ, h, E, ar, hr, hw, k⟩ => hw.elim
def wExpr (w : WEx) : WSt := fun E ρ h => w ρ h (fun _ h1 => E.nx ρ h1) (E.xe ρ)
theorem s_expr (he : SE X W e w) (hs : swapsWith e none pos.line X.env = pure false := by rfl) : SS X W (.Expr e pos) (wExpr w) := PS.imp (ps_expr he hs) fun D σ H ⟨S, ρ, h, E, ar, hr, hw, k⟩ =>
  ⟨S, ρ, h, _, _, ar, hr, hw, fun t h' q S' v H' e r' _ => k.nx ρ h' q S' σ H' e r' (ar.mono e.sub), k.xok ar⟩
def wRet (w : WEx) : WSt := fun E ρ h => w ρ h E.rt (E.xe ρ)
theorem s_ret (he : SE X W e w) : SS X W (.Return (some e) pos) (wRet w) := PS.imp (ps_ret he) fun D σ H ⟨S, ρ, h, E, ar, hr, hw, k⟩ =>
  ⟨S, ρ, h, _, _, ar, hr, hw, fun t h' q S' v H' e r' rt => k.rt t h' q S' v H' e r' rt, k.xok ar⟩
def wRetN : WSt := fun E _ h => E.rt .non h
theorem s_retN : SS X W (.Return none pos) wRetN := PS.imp ps_retN fun D σ H ⟨S, ρ, h, E, ar, hr, hw, k⟩ => k.rt _ h hw S _ H (Ext.refl S H) hr (by simp [RelT])
def wIfS (wt : WTe) (u v : WSt) : WSt := fun E ρ h => wt ρ h (fun k h1 => if k = true then u E ρ h1 else v E ρ h1) (E.xe ρ)
theorem s_if {sa sb : List Stmt} (hc : ST X W c wt) (ha : SSs X W sa u) (hb : SSs X W sb v) : SS X W (.If c sa sb pos) (wIfS wt u v) := PS.imp (ps_if hc ha hb) fun D σ H ⟨S, ρ, h, E, ar, hr, hw, k⟩ => by
  refine ⟨S, ρ, h, _, _, ar, hr, hw, fun b h1 q S1 H1 E1 R1 => ?_, k.xok ar⟩
  cases b with
  | true => exact iteT ⟨S1, ρ, h1, E, ar.mono E1.sub, R1, by simpa using q, k.mono E1⟩
  | false => exact iteF ⟨S1, ρ, h1, E, ar.mono E1.sub, R1, by simpa using q, k.mono E1⟩

def gNm (i : Nat) : WTg := fun t ρ h R _ => R (ρ.set i (some t)) h
theorem sg_name (i : Nat) {x : Str} (hN : X.N.Nodup) (hi : X.N[i]? = some x := by rfl) (hx : Loc X.env.scope x := by first | exact .inl rfl | exact .inr rfl) (hf : X.fn x = true ∨ X.env.scope.names.lookup x = some .local := by first | exact .inl rfl | exact .inr rfl | assumption) : SG X W (.Name x pos) (gNm i) :=
  PG.imp (pg_name hN hi hx hf) fun v σ H Q ⟨S, ρ, h, t, R, RX, ar, hr, rt, hw, hR, hX⟩ => hR _ h hw S _ H (Ext.refl S H) hr (ar.set i rt)
abbrev WTgs := List T → Rho → AH → (Rho → AH → Prop) → XC → Prop
def tWGs (X : Cx) (W : WX) (g : WTgs) : TGs := fun vs σ H Q => ∃ S ρ h ts R RX, ARel X.K S ρ σ ∧ HRel X.K X.mg S h H ∧ RelTs X.K S ts vs ∧ g ts ρ h R RX ∧
  (∀ ρ' h', R ρ' h' → ∀ S' σ' H', Ext S H S' H' → HRel X.K X.mg S' h' H' → ARel X.K S' ρ' σ' → Q σ' H') ∧ (∀ σ', XOk X W S H σ' RX)
def gNils : WTgs := fun ts ρ h R _ => ts = [] ∧ R ρ h
/-- targets that raise nothing -/
def gConss (g : WTg) (gs : WTgs) : WTgs := fun ts ρ h R _ => ∃ t r, ts = t :: r ∧ g t ρ h (fun ρ1 h1 => gs r ρ1 h1 R fun _ _ => False) fun _ _ => False
theorem noX {σ : L2.St} : XOk X W S H σ fun _ _ => False := fun _ _ q => q.elim
theorem PGs.imp {t t' : TGs} (h : PGs X es t) (i : ∀ v σ H Q, t' v σ H Q → t v σ H Q) : PGs X es t' := ⟨fun pins s σ H v u Q I r q => h.run pins s σ H v u Q I r (i v σ H Q q)⟩
abbrev SGs (X : Cx) (W : WX) (es : List Expr) (g : WTgs) : Prop := PGs X es (tWGs X W g)
theorem sgs_nil : SGs X W [] gNils := PGs.imp pgs_nil fun v σ H Q ⟨S, ρ, h, ts, R, RX, ar, hr, rt, ⟨e, hw⟩, hR, hX⟩ => by
  subst e
  simp only [RelTs] at rt
  exact ⟨rt, hR ρ h hw S σ H (Ext.refl S H) hr ar⟩
theorem sgs_cons {gs : WTgs} (h1 : SG X W e g) (h2 : SGs X W es gs) (hs : (assignEach (e :: es) X.env).map (·.2) = assign e X.env :: (assignEach es X.env).map (·.2) := by rfl) : SGs X W (e :: es) (gConss g gs) :=
  PGs.imp (pgs_cons h1 h2 hs) fun vs σ H Q ⟨S, ρ, h, ts, R, RX, ar, hr, rt, ⟨t, r, et, hw⟩, hR, hX⟩ => by
    subst et
    simp only [RelTs] at rt
    obtain ⟨v, vr, rfl, r1, r2⟩ := rt
    refine ⟨v, vr, rfl, S, ρ, h, t, _, _, ar, hr, r1, hw, fun ρ1 h1 q S1 σ1 H1 E1 R1 a1 => ?_, noX⟩
    exact ⟨S1, ρ1, h1, r, R, _, a1, R1, r2.mono E1.sub, q, fun ρ2 h2 q2 S2 σ2 H2 E2 R2 a2 => hR ρ2 h2 q2 S2 σ2 H2 (E1.trans E2) R2 a2, fun _ => noX⟩
def gTu (n : Nat) (gs : WTgs) : WTg := fun t ρ h R RX => ∃ ts, asT t = some ts ∧ ts.length = n ∧ gs ts ρ h R fun _ _ => False
theorem sg_tup {k n : Nat} {gs : WTgs} (h : SGs X W es gs) (hc : X.calm = true := by rfl) (hn : (assignEach es X.env).length = n := by rfl) (hst : (assignEach es X.env).findIdx? (·.1) = none := by rfl) : SG X W (.Tuple es k pos) (gTu n gs) :=
  PG.imp (pg_tup hc h hn hst) fun v σ H Q ⟨S, ρ, h, t, R, RX, ar, hr, rt, ⟨ts, et, hl, hw⟩, hR, hX⟩ => by
    obtain ⟨a, us, rfl, h1, r1⟩ := asT_rel hr rt et
    exact ⟨a, us, rfl, h1, by rw [← r1.length]; exact hl, S, ρ, h, ts, R, _, ar, hr, r1, hw, hR, fun _ => noX⟩
/-- xs[i] = v, a cell -/
def gSubL (wo wi : WEx) : WTg := fun t ρ h R RX => wo ρ h (fun x h1 => wi ρ h1 (fun y h2 => ∃ n k j ts, x = .ref n ∧ y = .int k ∧ h2[n]? = some (.lst ts) ∧ ixN ts.length k = some j ∧ R ρ (h2.set n (.lst (ts.set j t)))) RX) RX
theorem sg_sub {i : Expr} {wo wi : WEx} (ho : SE X W o wo) (hi : SE X W i wi) (ha : ∀ v, assign (.Subscript o i pos) X.env v = (do
      let ov ← holding [v] (eval o X.env)
      let iv ← holding [v, ov] (eval i X.env)
      standAt pos
      holding [v, ov, iv] (setItem ov iv v)
      release [v, ov, iv] []) := by intro _; rfl) : SG X W (.Subscript o i pos) (gSubL wo wi) :=
  PG.imp (pg_sub ho hi set_list ha) fun v σ H Q ⟨S, ρ, h, t, R, RX, ar, hr, rt, hw, hR, hX⟩ => by
    refine ⟨S, ρ, h, _, RX, ar, hr, hw, fun x h1 q1 S1 u H1 E1 R1 rx => ?_, hX⟩
    refine ⟨S1, ρ, h1, _, RX, ar.mono E1.sub, R1, q1, fun y h2 q2 S2 u2 H2 E2 R2 ry => ?_, hX.mono E1⟩
    obtain ⟨n, k, j, ts, rfl, rfl, hn, hj, q⟩ := q2
    have rx := rx.mono E2.sub
    simp only [RelT] at rx ry
    obtain ⟨_, rfl⟩ := rx
    obtain ⟨us, q1, r1⟩ := R2.c n _ hn
    have r2 := r1.set (rt.mono (E1.trans E2).sub) j
    obtain ⟨R3, E3⟩ := R2.write (o := .lst (us.set j v)) (c := .lst (ts.set j t)) hn (fun z => by cases z) ⟨_, upd_same, r2⟩
    have E := (E1.trans E2).trans E3
    exact ⟨_, us, k, j, rfl, ry, q1, by rw [← r1.length]; exact hj, hR _ _ q S2 σ _ E R3 (ar.mono E.sub)⟩

def wAsg (w : WEx) (g : WTg) : WSt := fun E ρ h => w ρ h (fun t h1 => g t ρ h1 E.nx (E.xe ρ)) (E.xe ρ)
theorem tWS_asg {D : Ends} (q : tWS X W (wAsg w g) D σ H) : tAsg (tW X W w) (tWG X W g) D σ H := by
  obtain ⟨S, ρ, h, E, ar, hr, hw, k⟩ := q
  refine ⟨S, ρ, h, _, _, ar, hr, hw, fun t h1 q1 S1 u H1 E1 R1 rx => ?_, k.xok ar⟩
  exact ⟨S1, ρ, h1, t, _, _, ar.mono E1.sub, R1, rx, q1, fun ρ' h' q S' σ' H' e r' a' => k.nx ρ' h' q S' σ' H' (E1.trans e) r' a', (k.mono E1).xok (ar.mono E1.sub)⟩
theorem s_asg (he : SE X W e w) (hg : SG X W tg g) (hs : swapsWithSole [tg] e pos.line X.env = pure false := by rfl) (hw : swappedStores [tg] e X.env = pure none := by rfl)
    (h1 : (assignEach [tg] X.env).map (·.2) = [assign tg X.env] := by rfl) : SS X W (.Assign [tg] e pos) (wAsg w g) :=
  PS.imp (ps_asg he hg hs hw h1) fun D σ H q => tWS_asg q
theorem s_set (i : Nat) {x : Str} {p3 : Pos} (hN : X.N.Nodup) (he : SE X W e w) (hi : X.N[i]? = some x := by rfl) (hx : Loc X.env.scope x := by first | exact .inl rfl | exact .inr rfl) (hs : swapsWith e (some (.Name x p3)) pos.line X.env = pure false := by rfl) (hf : X.fn x = true ∨ X.env.scope.names.lookup x = some .local := by first | exact .inl rfl | exact .inr rfl | assumption) :
    SS X W (.Assign [.Name x p3] e pos) (wAsg w (gNm i)) := PS.imp (ps_set hN hi hx he hs hf) fun D σ H ⟨S, ρ, h, E, ar, hr, hw, k⟩ => by
  refine ⟨S, ρ, h, _, _, ar, hr, hw, fun t h1 q1 S1 u H1 E1 R1 rx => ?_, k.xok ar⟩
  exact k.nx _ h1 q1 S1 _ H1 E1 R1 ((ar.mono E1.sub).set i rx)
/-- a, b = e1, e2 -/
def wPar (i j : Nat) (wr : WAr) : WSt := fun E ρ h => wr ρ h (fun ts h1 => ∃ t u, ts = [t, u] ∧ E.nx ((ρ.set i (some t)).set j (some u)) h1) (E.xe ρ)
theorem s_par (i j : Nat) {x y : Str} {px py pt : Pos} {kt k2 pt2} (hN : X.N.Nodup) (ha : SA X W [a, b] wr) (hc : X.calm = true := by rfl) (hi : X.N[i]? = some x := by rfl) (hj : X.N[j]? = some y := by rfl) (hij : i ≠ j := by decide)
    (hx : X.env.scope.names.lookup x = some .local := by rfl) (hy : X.env.scope.names.lookup y = some .local := by rfl) (hsw : swappedStores [.Tuple [.Name x px, .Name y py] kt pt] (.Tuple [a, b] k2 pt2) X.env = pure (some [x, y]) := by rfl)
    (hs : swapsWithSole [.Tuple [.Name x px, .Name y py] kt pt] (.Tuple [a, b] k2 pt2) pos.line X.env = pure false := by rfl) :
    SS X W (.Assign [.Tuple [.Name x px, .Name y py] kt pt] (.Tuple [a, b] k2 pt2) pos) (wPar i j wr) := PS.imp (ps_par hc hN hi hj hij hx hy ha hsw hs) fun D σ H ⟨S, ρ, h, E, ar, hr, hw, k⟩ => by
  refine ⟨S, ρ, h, _, _, ar, hr, hw, fun ts h1 q1 S1 us H1 E1 R1 rs => ?_, k.xok ar⟩
  obtain ⟨t, t', rfl, q⟩ := q1
  obtain ⟨v, v', rfl, r, r'⟩ := rel2 rs
  exact ⟨v, v', rfl, k.nx _ h1 q S1 _ H1 E1 R1 (((ar.mono E1.sub).set i r).set j r')⟩
/-- x op= e, x a name -/
def wAug (i : Nat) (w : WEx) (op : Op2) : WSt := fun E ρ h => ∃ x, ρ[i]? = some (some x) ∧ w ρ h (fun y h1 => ∃ z, op h1 x y = some z ∧ E.nx (ρ.set i (some z)) h1) (E.xe ρ)
theorem s_aug (i : Nat) {x : Str} {op : Operator} {f : Op2} {p3 : Pos} (hN : X.N.Nodup) (he : SE X W e w) (ho : PIp X op (rO X.K X.mg f)) (hi : X.N[i]? = some x := by rfl) (hx : Loc X.env.scope x := by first | exact .inl rfl | exact .inr rfl) (hf : X.fn x = true ∨ X.env.scope.names.lookup x = some .local := by first | exact .inl rfl | exact .inr rfl | assumption) :
    SS X W (.AugAssign (.Name x p3) op e pos) (wAug i w f) := PS.imp (ps_aug hN hi hx he ho hf) fun D σ H ⟨S, ρ, h, E, ar, hr, ⟨t, et, hw⟩, k⟩ => by
  obtain ⟨v, ev, rv⟩ := ar.2 i t et
  refine ⟨v, ev, S, ρ, h, _, _, ar, hr, hw, fun y h1 q1 S1 u H1 E1 R1 ry => ?_, k.xok ar⟩
  obtain ⟨z, ez, q⟩ := q1
  refine ⟨S1, h1, t, y, z, R1, rv.mono E1.sub, ry, ez, fun S2 v2 H2 E2 R2 r2 => ?_⟩
  exact k.nx _ h1 q S2 _ H2 (E1.trans E2) R2 ((ar.mono (E1.trans E2).sub).set i r2)
/-- for ints alone -/
def opAddI : Op2 := fun _ x y => match x, y with
  | .int i, .int j => some (.int (i + j))
  | _, _ => none
theorem ip_of {op : Operator} {fi : Int → Int → Int} {f : Op2} (h : PIp X op (ipI fi)) (hf : ∀ h x y z, f h x y = some z → ∃ i j, x = .int i ∧ y = .int j ∧ z = .int (fi i j)) : PIp X op (rO X.K X.mg f) := by
  intro pins s σ H x y v u Q I rx ry q
  obtain ⟨S, hh, t, t', z, hr, rt, rt', e, q⟩ := q
  obtain ⟨i, j, rfl, rfl, rfl⟩ := hf _ _ _ _ e
  simp only [RelT] at rt rt'
  exact h pins s σ H x y v u Q I rx ry ⟨i, j, rt, rt', q S _ H (Ext.refl S H) hr (by simp [RelT])⟩
theorem i_add : PIp X .Add (rO X.K X.mg opAddI) := ip_of ip_add fun h x y z e => by
  unfold opAddI at e; split at e
  · cases e; exact ⟨_, _, rfl, rfl, rfl⟩
  · cases e
theorem i_sub : PIp X .Sub (rO X.K X.mg opSub) := ip_of ip_sub fun h x y z e => by
  unfold opSub at e; split at e
  · cases e; exact ⟨_, _, rfl, rfl, rfl⟩
  · cases e

def wWhile (wt : WTe) (b : WSt) : WSt := fun E ρ h => ∃ I : Nat → Rho → AH → Prop, (∃ n, I n ρ h) ∧ ∀ n ρ h, I n ρ h →
  wt ρ h (fun k h1 => if k = true then b { E with nx := fun ρ' h' => ∃ m, m < n ∧ I m ρ' h', ct := fun ρ' h' => ∃ m, m < n ∧ I m ρ' h', bk := E.nx } ρ h1 else E.nx ρ h1) (E.xe ρ)
theorem s_while {sb : List Stmt} (hp : PassesOwn (model X.prog X.w) X.A X.env X.xe) (hc : ST X W c wt) (hb : SSs X W sb u) : SS X W (.While c sb [] pos) (wWhile wt u) :=
  PS.imp (ps_while hp hc hb) fun D σ H ⟨S, ρ, h, E, ar, hr, ⟨I, ⟨n, hI⟩, turn⟩, k⟩ => by
    refine ⟨fun m σ' H' => ∃ S' ρ' h', Ext S H S' H' ∧ ARel X.K S' ρ' σ' ∧ HRel X.K X.mg S' h' H' ∧ I m ρ' h', ⟨n, S, ρ, h, Ext.refl S H, ar, hr, hI⟩, fun m σ1 H1 ⟨S1, ρ1, h1, E1, a1, R1, i1⟩ => ?_⟩
    refine ⟨S1, ρ1, h1, _, _, a1, R1, turn m ρ1 h1 i1, fun b h2 q S2 H2 E2 R2 => ?_, (k.mono E1).xok a1⟩
    have E12 := E1.trans E2
    cases b with
    | false => exact iteF (k.nx ρ1 h2 (by simpa using q) S2 σ1 H2 E12 R2 (a1.mono E2.sub))
    | true =>
      refine iteT ⟨fun σ' H' => ∃ m', m' < m ∧ ∃ S' ρ' h', Ext S H S' H' ∧ ARel X.K S' ρ' σ' ∧ HRel X.K X.mg S' h' H' ∧ I m' ρ' h', fun σ' H' ⟨m', hm, r⟩ => ⟨m', hm, r⟩, ?_⟩
      refine ⟨S2, ρ1, h2, { E with nx := fun ρ' h' => ∃ m', m' < m ∧ I m' ρ' h', ct := fun ρ' h' => ∃ m', m' < m ∧ I m' ρ' h', bk := E.nx }, a1.mono E2.sub, R2, by simpa using q, ⟨fun ρ' h' ⟨m', hm, i'⟩ S' σ' H' e r' a' => ⟨m', hm, S', ρ', h', E12.trans e, a', r', i'⟩, fun t h' q S' v H' e => k.rt t h' q S' v H' (E12.trans e),
        fun ρ' h' q S' σ' H' e => k.nx ρ' h' q S' σ' H' (E12.trans e), fun ρ' h' ⟨m', hm, i'⟩ S' σ' H' e r' a' => ⟨m', hm, S', ρ', h', E12.trans e, a', r', i'⟩, fun c ρ' h' q S' σ' H' e => k.xc c ρ' h' q S' σ' H' (E12.trans e)⟩⟩
/-- what an iterator yields: these items, as long as P holds of the heap -/
def ItRel (X : Cx) (J : It) (items : List T) (P : AH → Prop) (S0 : AS) (H0 : Hp) : Prop := ∀ (i : Nat) S' h' H', Ext S0 H0 S' H' → HRel X.K X.mg S' h' H' → P h' →
  (∀ t, items[i]? = some t → J.go i H' ∧ ∀ x H'', J.yld i H' x H'' → ∃ S'', Ext S' H' S'' H'' ∧ HRel X.K X.mg S'' h' H'' ∧ RelT X.K S'' t x) ∧ (items.length ≤ i → J.stop i H')
abbrev WIt := Rho → AH → (List T → (AH → Prop) → AH → Prop) → XC → Prop
def tWI (X : Cx) (W : WX) (wi : WIt) : TI := fun σ H Q => ∃ S ρ h R RX, ARel X.K S ρ σ ∧ HRel X.K X.mg S h H ∧ wi ρ h R RX ∧
  (∀ items P h', R items P h' → ∀ S' H' J, Ext S H S' H' → HRel X.K X.mg S' h' H' → ItRel X J items P S' H' → Q J H') ∧ XOk X W S H σ RX
abbrev SI (X : Cx) (W : WX) (tg e : Expr) (wi : WIt) : Prop := PI X tg e (tWI X W wi)
theorem PI.imp {t t' : TI} (h : PI X tg e t) (i : ∀ σ H Q, t' σ H Q → t σ H Q) : PI X tg e t' := ⟨fun pins s σ H R I q => h.run pins s σ H R I (i σ H R q)⟩
def wLoop (P : AH → Prop) (g : WTg) (b : WSt) : List T → WSt
  | [], E, ρ, h => P h ∧ E.nx ρ h
  | t :: ts, E, ρ, h => P h ∧ g t ρ h (fun ρ1 h1 => b { E with nx := wLoop P g b ts E, ct := wLoop P g b ts E, bk := E.nx } ρ1 h1) (E.xe ρ)
def wFor (wi : WIt) (g : WTg) (b : WSt) : WSt := fun E ρ h => wi ρ h (fun items P h1 => wLoop P g b items E ρ h1) (E.xe ρ)
theorem s_for {wi : WIt} {iter : Expr} {sb : List Stmt} (hp : PassesOwn (model X.prog X.w) X.A X.env X.xe) (hi : SI X W tg iter wi) (hg : SG X W tg g) (hb : SSs X W sb u) (hc : X.calm = true := by rfl) (hs : ∀ x, foldedSetIterable iter X.env x = pure x := by intro _; rfl) : SS X W (.For tg iter sb [] pos) (wFor wi g u) :=
  PS.imp (ps_for hp hc hi hg hb hs) fun D σ H ⟨S, ρ, h, E, ar, hr, hw, k⟩ => by
    refine ⟨S, ρ, h, _, _, ar, hr, hw, fun items P h1 q S1 H1 J E1 R1 it => ?_, k.xok ar⟩
    refine ⟨fun i m σ' H' => m = items.length - i ∧ i ≤ items.length ∧ ∃ S' ρ' h', Ext S1 H1 S' H' ∧ ARel X.K S' ρ' σ' ∧ HRel X.K X.mg S' h' H' ∧ wLoop P g u (items.drop i) E ρ' h',
      ⟨_, rfl, Nat.zero_le _, S1, ρ, h1, Ext.refl _ _, ar.mono E1.sub, R1, by simpa using q⟩, ?_⟩
    rintro i m σ2 H2 ⟨rfl, hle, S2, ρ2, h2, E2, a2, R2, q2⟩
    by_cases hlt : i < items.length
    · have hd : items.drop i = items[i] :: items.drop (i + 1) := List.drop_eq_getElem_cons hlt
      rw [hd] at q2
      obtain ⟨hP, q2⟩ := q2
      obtain ⟨go, _⟩ := it i S2 h2 H2 E2 R2 hP
      obtain ⟨go, yl⟩ := go items[i] (List.getElem?_eq_getElem hlt)
      refine .inr ⟨go, fun σ' H' => ∃ S' ρ' h', Ext S1 H1 S' H' ∧ ARel X.K S' ρ' σ' ∧ HRel X.K X.mg S' h' H' ∧ wLoop P g u (items.drop (i + 1)) E ρ' h', fun σ' H' r => ⟨items.length - (i + 1), by omega, rfl, hlt, r⟩, fun x H3 y => ?_⟩
      obtain ⟨S3, E3, R3, rx⟩ := yl x H3 y
      have E13 := (E1.trans E2).trans E3
      refine ⟨S3, ρ2, h2, items[i], _, _, a2.mono E3.sub, R3, rx, q2, fun ρ4 h4 q4 S4 σ4 H4 E4 R4 a4 => ?_, (k.mono E13).xok (a2.mono E3.sub)⟩
      have E14 := E13.trans E4
      have F14 := (E2.trans E3).trans E4
      exact ⟨S4, ρ4, h4, _, a4, R4, q4, ⟨fun ρ' h' q S' σ' H' e r' a' => ⟨S', ρ', h', F14.trans e, a', r', q⟩, fun t h' q S' v H' e => k.rt t h' q S' v H' (E14.trans e),
        fun ρ' h' q S' σ' H' e => k.nx ρ' h' q S' σ' H' (E14.trans e), fun ρ' h' q S' σ' H' e r' a' => ⟨S', ρ', h', F14.trans e, a', r', q⟩, fun c ρ' h' q S' σ' H' e => k.xc c ρ' h' q S' σ' H' (E14.trans e)⟩⟩
    · have hl : i = items.length := by omega
      subst hl
      rw [List.drop_length] at q2
      obtain ⟨hP, q2⟩ := q2
      obtain ⟨_, stop⟩ := it items.length S2 h2 H2 E2 R2 hP
      exact .inl ⟨stop (Nat.le_refl _), k.nx ρ2 h2 q2 S2 σ2 H2 (E1.trans E2) R2 a2⟩
def wItQ (w : WEx) : WIt := fun ρ h R RX => w ρ h (fun x h1 => (∃ ts, x = .lst ts ∧ R ts (fun _ => True) h1) ∨ (∃ ts, x = .scr ts ∧ R ts (fun _ => True) h1) ∨ ∃ n ts, x = .ref n ∧ h1[n]? = some (.lst ts) ∧ R ts (fun h' => h'[n]? = some (.lst ts)) h1) RX
theorem itl_rel {a : Addr} {us : List V} {ts : List T} {P : AH → Prop} {S0 : AS} {H0 : Hp} (hs : ∀ S' h' H', Ext S0 H0 S' H' → HRel X.K X.mg S' h' H' → P h' → ∃ us, SqL X.K H' a us ∧ RelTs X.K S' ts us) : ItRel X (Itl X.K a) ts P S0 H0 := fun i S' h' H' e r hP => by
  obtain ⟨us, q, rs⟩ := hs S' h' H' e r hP
  refine ⟨fun t ht => ?_, fun hl => ⟨us, q, by rw [← rs.length]; exact hl⟩⟩
  obtain ⟨u, hu, ru⟩ := rs.get ht
  refine ⟨⟨us, u, q, hu⟩, fun x H'' ⟨e1, y⟩ => ?_⟩
  subst e1
  have := y us q
  rw [hu] at this
  cases this
  exact ⟨S', Ext.refl _ _, r, ru⟩
theorem si_list (ha : SE X W e w) : SI X W tg e (wItQ w) := PI.imp (pi_list ha) fun σ H Q ⟨S, ρ, h, R, RX, ar, hr, hw, hR, hX⟩ => by
  refine ⟨S, ρ, h, _, RX, ar, hr, hw, fun x h1 q1 S1 u H1 E1 R1 rx => ?_, hX⟩
  rcases q1 with ⟨ts, rfl, q⟩ | ⟨ts, rfl, q⟩ | ⟨n, ts, rfl, hn, q⟩
  · obtain ⟨a, us, rfl, h2, r2⟩ := asL_rel R1 rx (ts := ts) rfl
    refine ⟨a, rfl, ⟨us, h2⟩, hR ts _ h1 q S1 H1 _ E1 R1 (itl_rel (us := us) fun S' h' H' e r _ => ?_)⟩
    obtain ⟨a', us', e1, h3, r3⟩ := asL_rel r (rx.mono e.sub) (ts := ts) rfl
    cases e1
    exact ⟨us', h3, r3⟩
  · obtain ⟨a, us, rfl, h2, r2⟩ := asL_rel R1 rx (ts := ts) rfl
    refine ⟨a, rfl, ⟨us, h2⟩, hR ts _ h1 q S1 H1 _ E1 R1 (itl_rel (us := us) fun S' h' H' e r _ => ?_)⟩
    obtain ⟨a', us', e1, h3, r3⟩ := asL_rel r (rx.mono e.sub) (ts := ts) rfl
    cases e1
    exact ⟨us', h3, r3⟩
  · simp only [RelT] at rx
    obtain ⟨hk, rfl⟩ := rx
    obtain ⟨us, h2, r2⟩ := R1.c n _ hn
    refine ⟨_, rfl, ⟨us, .of h2⟩, hR ts _ h1 q S1 H1 _ E1 R1 (itl_rel (us := us) fun S' h' H' e r hP => ?_)⟩
    obtain ⟨us', h3, r3⟩ := r.c n _ hP
    rw [e.m n hk] at h3
    exact ⟨us', .of h3, r3⟩
def wItT (w : WEx) : WIt := fun ρ h R RX => w ρ h (fun x h1 => ∃ ts, x = .tup ts ∧ R ts (fun _ => True) h1) RX
theorem si_tup (ha : SE X W e w) : SI X W tg e (wItT w) := PI.imp (pi_tup ha) fun σ H Q ⟨S, ρ, h, R, RX, ar, hr, hw, hR, hX⟩ => by
  refine ⟨S, ρ, h, _, RX, ar, hr, hw, fun x h1 q1 S1 u H1 E1 R1 rx => ?_, hX⟩
  obtain ⟨ts, rfl, q⟩ := q1
  obtain ⟨a, us, rfl, h2, r2⟩ := asT_rel R1 rx (ts := ts) rfl
  refine ⟨a, rfl, ⟨us, h2⟩, hR ts _ h1 q S1 H1 _ E1 R1 fun i S' h' H' e r hP => ?_⟩
  obtain ⟨a', us', e1, q3, rs⟩ := asT_rel r (rx.mono e.sub) (ts := ts) rfl
  cases e1
  refine ⟨fun t ht => ?_, fun hl => ⟨us', q3, by rw [← rs.length]; exact hl⟩⟩
  obtain ⟨u, hu, ru⟩ := rs.get ht
  refine ⟨⟨us', u, q3, hu⟩, fun x H'' ⟨e1, y⟩ => ?_⟩
  subst e1
  have := y us' q3
  rw [hu] at this
  cases this
  exact ⟨S', Ext.refl _ _, r, ru⟩
def rangeT (lo : Int) (n : Nat) : List T := (List.range n).map fun (i : Nat) => T.int (lo + i)
theorem itr_rel {lo : Int} {n : Nat} {S0 : AS} {H0 : Hp} : ItRel X (Itr lo n) (rangeT lo n) (fun _ => True) S0 H0 := fun i S' h' H' e r _ => by
  have hl : (rangeT lo n).length = n := by simp [rangeT]
  refine ⟨fun t ht => ?_, fun hh => by rw [hl] at hh; exact hh⟩
  have hi : i < n := by have := (List.getElem?_eq_some_iff.mp ht).1; rw [hl] at this; exact this
  refine ⟨hi, fun x H'' ⟨e1, y⟩ => ?_⟩
  subst e1 y
  simp only [rangeT, List.getElem?_map, List.getElem?_range hi, Option.map_some, Option.some.injEq] at ht
  subst ht
  exact ⟨S', Ext.refl _ _, r, by simp [RelT]⟩
def wRg1 (wr : WAr) : WIt := fun ρ h R RX => wr ρ h (fun ts h1 => ∃ n, ts = [.int n] ∧ n < 2 ^ 62 ∧ -(2 ^ 62) ≤ n ∧ R (rangeT 0 n.toNat) (fun _ => True) h1) RX
def wRg2 (wr : WAr) : WIt := fun ρ h R RX => wr ρ h (fun ts h1 => ∃ m n, ts = [.int m, .int n] ∧ (-(2 ^ 62) ≤ m ∧ m < 2 ^ 62 ∧ -(2 ^ 62) ≤ n ∧ n < 2 ^ 62) ∧ R (rangeT m (n - m).toNat) (fun _ => True) h1) RX
theorem si_range1 (hm : X.mg "range" = none) (ha : SA X W [a] wr) (hg : Gl X "range" := by rfl) (hs : starEach [a] X.env = [(false, eval a X.env)] := by rfl) : SI X W tg (.Call (.Name "range" p) [a] [] pos) (wRg1 wr) :=
  PI.imp (pi_range1 hg hm ha hs) fun σ H Q ⟨S, ρ, h, R, RX, ar, hr, hw, hR, hX⟩ => by
    refine ⟨S, ρ, h, _, RX, ar, hr, hw, fun ts h1 q1 S1 us H1 E1 R1 rs => ?_, hX⟩
    obtain ⟨n, rfl, b1, b2, q⟩ := q1
    obtain ⟨u, rfl, r⟩ := rel1 rs
    simp only [RelT] at r
    subst r
    exact ⟨n, rfl, b2, b1, hR _ _ h1 q S1 H1 _ E1 R1 itr_rel⟩
theorem si_range2 (hm : X.mg "range" = none) (ha : SA X W [a, b] wr) (hg : Gl X "range" := by rfl) (hs : starEach [a, b] X.env = [(false, eval a X.env), (false, eval b X.env)] := by rfl) (hs2 : starEach [b] X.env = [(false, eval b X.env)] := by rfl) : SI X W tg (.Call (.Name "range" p) [a, b] [] pos) (wRg2 wr) :=
  PI.imp (pi_range2 hg hm ha hs hs2) fun σ H Q ⟨S, ρ, h, R, RX, ar, hr, hw, hR, hX⟩ => by
    refine ⟨S, ρ, h, _, RX, ar, hr, hw, fun ts h1 q1 S1 us H1 E1 R1 rs => ?_, hX⟩
    obtain ⟨m, n, rfl, bb, q⟩ := q1
    obtain ⟨u, u', rfl, r, r'⟩ := rel2 rs
    simp only [RelT] at r r'
    subst r r'
    exact ⟨m, n, rfl, bb, hR _ _ h1 q S1 H1 _ E1 R1 itr_rel⟩
end
end TL

namespace TL
open PySem PySem.Spec PyProof.Rows L2

def SameBut (is : List Nat) (σ σ' : L2.St) : Prop := σ'.length = σ.length ∧ ∀ j, j ∉ is → σ'[j]? = σ[j]?
def tWGc (X : Cx) (is : List Nat) (g : WTg) : TG := fun v σ H Q => ∃ S ρ h t R, ARel X.K S ρ σ ∧ HRel X.K X.mg S h H ∧ RelT X.K S t v ∧ g t ρ h R (fun _ _ => False) ∧
  (∀ ρ' h', R ρ' h' → ∀ S' σ' H', Ext S H S' H' → HRel X.K X.mg S' h' H' → ARel X.K S' ρ' σ' → SameBut is σ σ' → Q σ' H')
def tWGcs (X : Cx) (is : List Nat) (g : WTgs) : TGs := fun vs σ H Q => ∃ S ρ h ts R, ARel X.K S ρ σ ∧ HRel X.K X.mg S h H ∧ RelTs X.K S ts vs ∧ g ts ρ h R (fun _ _ => False) ∧
  (∀ ρ' h', R ρ' h' → ∀ S' σ' H', Ext S H S' H' → HRel X.K X.mg S' h' H' → ARel X.K S' ρ' σ' → SameBut is σ σ' → Q σ' H')
abbrev SGc (X : Cx) (e : Expr) (is : List Nat) (g : WTg) : Prop := PG X e (tWGc X is g)
abbrev SGcs (X : Cx) (e : List Expr) (is : List Nat) (g : WTgs) : Prop := PGs X e (tWGcs X is g)
theorem sameBut_set {σ : L2.St} {i : Nat} {v : Option V} : SameBut [i] σ (σ.set i v) := ⟨by simp, fun j hj => by rw [List.getElem?_set_ne (by simpa [eq_comm] using hj)]⟩
theorem SameBut.trans {a b : List Nat} {σ σ' σ2 : L2.St} (x : SameBut a σ σ') (y : SameBut b σ' σ2) : SameBut (a ++ b) σ σ2 :=
  ⟨y.1.trans x.1, fun j hj => by rw [List.mem_append, not_or] at hj; exact (y.2 j hj.2).trans (x.2 j hj.1)⟩
def wipeT (ρ : Rho) : List Nat → Rho
  | [] => ρ
  | v :: vs => (wipeT ρ vs).set v none
theorem wipe_len (σ : L2.St) : ∀ vs, (wipe σ vs).length = σ.length
  | [] => rfl
  | v :: vs => by show ((wipe σ vs).set v none).length = _; rw [List.length_set, wipe_len σ vs]
theorem wipe_at (σ : L2.St) : ∀ (vs : List Nat) (j : Nat), (wipe σ vs)[j]? = if j ∈ vs then (if j < σ.length then some none else none) else σ[j]?
  | [], j => by simp [wipe]
  | v :: vs, j => by
    show ((wipe σ vs).set v none)[j]? = _
    by_cases hj : v = j
    · subst hj
      by_cases hl : v < σ.length
      · rw [List.getElem?_set_self (by rw [wipe_len]; exact hl)]; simp [hl]
      · rw [List.getElem?_eq_none (by rw [List.length_set, wipe_len]; exact Nat.le_of_not_lt hl)]; simp [hl]
    · rw [List.getElem?_set_ne hj, wipe_at σ vs j]
      have : (j ∈ v :: vs) ↔ j ∈ vs := by simp [eq_comm, hj]
      simp only [this]
theorem SameBut.wipe {is vs : List Nat} {σ σ' : L2.St} (x : SameBut is σ σ') (h : ∀ i ∈ is, i ∈ vs) : wipe σ' vs = L2.wipe σ vs := by
  apply List.ext_getElem?
  intro j
  rw [wipe_at, wipe_at, x.1]
  by_cases hj : j ∈ vs
  · simp [hj]
  · simp only [hj, if_false]
    exact x.2 j fun z => hj (h j z)
theorem wipe_wipe (σ : L2.St) (vs : List Nat) : wipe (wipe σ vs) vs = wipe σ vs := by
  apply List.ext_getElem?
  intro j
  rw [wipe_at, wipe_len, wipe_at]
  by_cases hj : j ∈ vs <;> simp [hj]
theorem ARel.wipe {K : PySem.W.Frag} {S : AS} {ρ : Rho} {σ : L2.St} (a : ARel K S ρ σ) : ∀ vs, ARel K S (wipeT ρ vs) (wipe σ vs)
  | [] => a
  | v :: vs => by
    have b := ARel.wipe a vs
    refine ⟨by show ((wipeT ρ vs).set v none).length = ((L2.wipe σ vs).set v none).length; rw [List.length_set, List.length_set]; exact b.1, fun i t q => ?_⟩
    have q : ((wipeT ρ vs).set v none)[i]? = some (some t) := q
    by_cases hi : v = i
    · subst hi
      by_cases hl : v < (wipeT ρ vs).length
      · rw [List.getElem?_set_self hl] at q; cases q
      · rw [List.getElem?_eq_none (by rw [List.length_set]; exact Nat.le_of_not_lt hl)] at q; cases q
    · rw [List.getElem?_set_ne hi] at q
      obtain ⟨u, h1, h2⟩ := b.2 i t q
      exact ⟨u, by show ((L2.wipe σ vs).set v none)[i]? = _; rw [List.getElem?_set_ne hi]; exact h1, h2⟩
section
variable {X : Cx} {W : WX} {σ : L2.St} {S S' : AS} {H H' : Hp} {e a b c o tg : Expr} {es : List Expr} {w wa wb wc : WEx} {pos p p2 : Pos} {wr : WAr} {x : Str} {D : Ends} {E : EndsT} {wt : WTe} {g : WTg}
theorem sgc_name (i : Nat) {x : Str} (hN : X.N.Nodup) (hi : X.N[i]? = some x := by rfl) (hx : Loc X.env.scope x := by first | exact .inl rfl | exact .inr rfl) (hf : X.fn x = true ∨ X.env.scope.names.lookup x = some .local := by first | exact .inl rfl | exact .inr rfl | assumption) : SGc X (.Name x pos) [i] (gNm i) :=
  PG.imp (pg_name hN hi hx hf) fun v σ H Q ⟨S, ρ, h, t, R, ar, hr, rt, hw, hR⟩ => hR _ h hw S _ H (Ext.refl S H) hr (ar.set i rt) sameBut_set
theorem sgcs_nil : SGcs X [] [] gNils := PGs.imp pgs_nil fun v σ H Q ⟨S, ρ, h, ts, R, ar, hr, rt, ⟨e, hw⟩, hR⟩ => by
  subst e
  simp only [RelTs] at rt
  exact ⟨rt, hR ρ h hw S σ H (Ext.refl S H) hr ar ⟨rfl, fun _ _ => rfl⟩⟩
theorem sgcs_cons {gs : WTgs} {is js : List Nat} (h1 : SGc X e is g) (h2 : SGcs X es js gs) (hs : (assignEach (e :: es) X.env).map (·.2) = assign e X.env :: (assignEach es X.env).map (·.2) := by rfl) : SGcs X (e :: es) (is ++ js) (gConss g gs) :=
  PGs.imp (pgs_cons h1 h2 hs) fun vs σ H Q ⟨S, ρ, h, ts, R, ar, hr, rt, ⟨t, r, et, hw⟩, hR⟩ => by
    subst et
    simp only [RelTs] at rt
    obtain ⟨v, vr, rfl, r1, r2⟩ := rt
    refine ⟨v, vr, rfl, S, ρ, h, t, _, ar, hr, r1, hw, fun ρ1 h1 q S1 σ1 H1 E1 R1 a1 m1 => ?_⟩
    exact ⟨S1, ρ1, h1, r, R, a1, R1, r2.mono E1.sub, q, fun ρ2 h2 q2 S2 σ2 H2 E2 R2 a2 m2 => hR ρ2 h2 q2 S2 σ2 H2 (E1.trans E2) R2 a2 (m1.trans m2)⟩
theorem sgc_tup {k n : Nat} {gs : WTgs} {is : List Nat} (h : SGcs X es is gs) (hc : X.calm = true := by rfl) (hn : (assignEach es X.env).length = n := by rfl) (hst : (assignEach es X.env).findIdx? (·.1) = none := by rfl) : SGc X (.Tuple es k pos) is (gTu n gs) :=
  PG.imp (pg_tup hc h hn hst) fun v σ H Q ⟨S, ρ, h, t, R, ar, hr, rt, ⟨ts, et, hl, hw⟩, hR⟩ => by
    obtain ⟨a, us, rfl, h1, r1⟩ := asT_rel hr rt et
    exact ⟨a, us, rfl, h1, by rw [← r1.length]; exact hl, S, ρ, h, ts, R, ar, hr, r1, hw, hR⟩
def wYes : WTe := fun _ h R _ => R true h
abbrev WF : WX := fun _ _ _ _ => False
abbrev SCs (X : Cx) (es : List Expr) (w : WTe) : Prop := PTs X es (tWT X WF w)
theorem PTs.imp {t t' : TT} (h : PTs X es t) (i : ∀ σ H Q, t' σ H Q → t σ H Q) : PTs X es t' := ⟨fun pins s σ H Q I q => h.run pins s σ H Q I (i σ H Q q)⟩
theorem sc_nil : SCs X [] wYes := PTs.imp pts_nil fun σ H Q ⟨S, ρ, h, R, RX, ar, hr, hw, hR, hX⟩ => hR true h hw S H (Ext.refl S H) hr
theorem sc_one (h : ST X WF c wt) : SCs X [c] wt := pts_one h
def wCompL (P : AH → Prop) (g : WTg) (wt : WTe) (w : WEx) (vs : List Nat) (ρ : Rho) : List T → List T → AH → (List T → AH → Prop) → Prop
  | [], acc, h, R => P h ∧ R acc h
  | t :: ts, acc, h, R => P h ∧ g t (wipeT ρ vs) h (fun ρ2 h2 => wt ρ2 h2 (fun k h3 => if k = true then w ρ2 h3 (fun y h4 => acc.length < lim ∧ wCompL P g wt w vs ρ ts (acc ++ [y]) h4 R) (fun _ _ => False) else wCompL P g wt w vs ρ ts acc h3 R) (fun _ _ => False)) (fun _ _ => False)
/-- the list is a value | a cell -/
def wCompF (wi : WIt) (g : WTg) (wt : WTe) (w : WEx) (vs : List Nat) : WEx := fun ρ h R RX => wi ρ h (fun items P h1 => wCompL P g wt w vs ρ items [] h1 (fun acc h2 => R (.lst acc) h2)) RX
def wCompC (wi : WIt) (g : WTg) (wt : WTe) (w : WEx) (vs : List Nat) : WEx := fun ρ h R RX => wi ρ h (fun items P h1 => wCompL P g wt w vs ρ items [] h1 (fun acc h2 => R (.ref h2.length) (h2 ++ [.lst acc]))) RX
theorem lc_sound {J : It} {Q : VK} {wi : WIt} {is vs : List Nat} (hv : ∀ i ∈ is, i ∈ vs) {S1 : AS} {H1 : Hp} {ρ : Rho} {h1 : AH} {items : List T} {P : AH → Prop} {Rf : List T → AH → Prop} (ar : ARel X.K S1 ρ σ) (R1 : HRel X.K X.mg S1 h1 H1) (it : ItRel X J items P S1 H1)
    (q : wCompL P g wt w vs ρ items [] h1 Rf) {Dl : Addr} (hD : H1 Dl = none)
    (hQ : ∀ acc h' us S' H', Rf acc h' → HRel X.K X.mg S' h' H' → Ext S1 H1 S' H' → Apart S' H' Dl (.lst us) → RelTs X.K S' acc us → Q (.ref Dl) H') :
    ∃ Wm : Nat → Nat → Hp → Prop, (∃ m, Wm 0 m (upd H1 Dl (.lst []))) ∧ ∀ i m H, Wm i m H →
      (J.stop i H ∧ Q (.ref Dl) H) ∨ (J.go i H ∧ ∃ Nx : Hp → Prop, (∀ H', Nx H' → ∃ m', m' < m ∧ Wm (i + 1) m' H') ∧ ∀ x H', J.yld i H x H' → tWGc X is g x (wipe σ vs) H' fun σ2 H2 => wipe σ2 vs = wipe σ vs ∧ tWT X WF wt σ2 H2 fun b H3 =>
        if b = true then tW X WF w σ2 H3 fun y H4 => ∃ acc, H4 Dl = some (.lst acc) ∧ acc.length < sizeLine ∧ Nx (upd H4 Dl (.lst (acc ++ [y]))) else Nx H3) := by
  refine ⟨fun i m H => m = items.length - i ∧ i ≤ items.length ∧ ∃ S' h' acc us, HRel X.K X.mg S' h' H ∧ Ext S1 H1 S' H ∧ Apart S' H Dl (.lst us) ∧ RelTs X.K S' acc us ∧ wCompL P g wt w vs ρ (items.drop i) acc h' Rf, ?_, ?_⟩
  · have gn : S1.G Dl = none := by
      cases z : S1.G Dl with
      | none => rfl
      | some u => have := R1.g Dl u z; rw [hD] at this; cases this
    have nc : ∀ n, n < S1.k → S1.m n ≠ Dl := fun n hn z => by
      obtain ⟨o, q⟩ := R1.lv n hn
      rw [z, hD] at q; cases q
    obtain ⟨R2, E2⟩ := R1.other (o := .lst []) hD
    exact ⟨_, rfl, Nat.zero_le _, S1, h1, [], [], R2, E2, ⟨upd_same, nc, gn, fun _ z => nomatch z⟩, .nil, by simpa using q⟩
  · rintro i m H ⟨rfl, hle, S2, h2, acc, us, R2, E2, ap, rs, q2⟩
    by_cases hlt : i < items.length
    · have hd : items.drop i = items[i] :: items.drop (i + 1) := List.drop_eq_getElem_cons hlt
      rw [hd] at q2
      obtain ⟨hP, q2⟩ := q2
      obtain ⟨go, _⟩ := it i S2 h2 H E2 R2 hP
      obtain ⟨go, yl⟩ := go items[i] (List.getElem?_eq_getElem hlt)
      refine .inr ⟨go, fun H => ∃ S' h' acc us, HRel X.K X.mg S' h' H ∧ Ext S1 H1 S' H ∧ Apart S' H Dl (.lst us) ∧ RelTs X.K S' acc us ∧ wCompL P g wt w vs ρ (items.drop (i + 1)) acc h' Rf, fun H' r => ⟨_, by omega, rfl, hlt, r⟩, fun x H3 y => ?_⟩
      obtain ⟨S3, E3, R3, rx⟩ := yl x H3 y
      have E13 := E2.trans E3
      refine ⟨S3, wipeT ρ vs, h2, items[i], _, (ar.mono E13.sub).wipe vs, R3, rx, q2, fun ρ4 h4 q4 S4 σ4 H4 E4 R4 a4 sb => ⟨?_, ?_⟩⟩
      · rw [sb.wipe hv]
        exact wipe_wipe σ vs
      refine ⟨S4, ρ4, h4, _, _, a4, R4, q4, fun k h5 q5 S5 H5 E5 R5 => ?_, noX⟩
      have E15 := (E13.trans E4).trans E5
      have F15 := (E3.trans E4).trans E5
      have ap5 := ap.go F15
      cases k with
      | false => exact iteF ⟨S5, h5, acc, us, R5, E15, ap5, rs.mono F15.sub, by simpa using q5⟩
      | true =>
        refine iteT ⟨S5, ρ4, h5, _, _, a4.mono E5.sub, R5, by simpa using q5, fun t h6 q6 S6 v H6 E6 R6 r6 => ?_, noX⟩
        have ap6 := ap5.go E6
        have F16 := F15.trans E6
        obtain ⟨R7, ap7⟩ := R6.apart (u := .lst (us ++ [v])) ap6
        refine ⟨us, ap6.at', ?_, S6, h6, acc ++ [t], us ++ [v], R7, (E15.trans E6).apart hD, ap7, (rs.mono F16.sub).append (.cons r6 .nil), q6.2⟩
        rw [← rs.length]
        exact Nat.lt_of_lt_of_le q6.1 (by decide)
    · have hl : i = items.length := by omega
      subst hl
      rw [List.drop_length] at q2
      obtain ⟨hP, q2⟩ := q2
      obtain ⟨_, stop⟩ := it items.length S2 h2 H E2 R2 hP
      exact .inl ⟨stop (Nat.le_refl _), hQ acc h2 us S2 H q2 R2 E2 ap rs⟩
theorem tW_compF {wi : WIt} {is vs : List Nat} (hv : ∀ i ∈ is, i ∈ vs) {Q : VK} (q : tW X W (wCompF wi g wt w vs) σ H Q) : tLc (tWI X W wi) (tWGc X is g) (tWT X WF wt) (tW X WF w) vs σ H Q := by
  obtain ⟨S, ρ, h, R, RX, ar, hr, hw, hR, hX⟩ := q
  refine ⟨S, ρ, h, _, RX, ar, hr, hw, fun items P h1 q1 S1 H1 J E1 R1 it Dl hD => ?_, hX⟩
  refine lc_sound (wi := wi) hv (ar.mono E1.sub) R1 it q1 hD fun acc h' us S' H' rf r e ap rs => ?_
  obtain ⟨R3, E3, sb⟩ := r.adopt ap e hD
  exact hR _ h' rf _ _ H' (E1.trans E3) R3 (by simp only [RelT]; exact ⟨Dl, us, rfl, .inl upd_same, rs.mono sb⟩)
theorem tW_compC {wi : WIt} {is vs : List Nat} (hv : ∀ i ∈ is, i ∈ vs) {Q : VK} (q : tW X W (wCompC wi g wt w vs) σ H Q) : tLc (tWI X W wi) (tWGc X is g) (tWT X WF wt) (tW X WF w) vs σ H Q := by
  obtain ⟨S, ρ, h, R, RX, ar, hr, hw, hR, hX⟩ := q
  refine ⟨S, ρ, h, _, RX, ar, hr, hw, fun items P h1 q1 S1 H1 J E1 R1 it Dl hD => ?_, hX⟩
  refine lc_sound (wi := wi) hv (ar.mono E1.sub) R1 it q1 hD fun acc h' us S' H' rf r e ap rs => ?_
  obtain ⟨R3, E3⟩ := r.adoptC ap rs e hD
  exact hR _ _ rf _ _ H' (E1.trans E3) R3 (by simp only [RelT]; exact ⟨by show h'.length < S'.k + 1; rw [r.k]; exact Nat.lt_succ_self _, by rw [← r.k, AS.more_at]⟩)
section
variable {elt iter : Expr} {ifs : List Expr} {scope : Scope} {own : List (Str × Nat)} {wi : WIt} {is : List Nat}
abbrev Blk (X : Cx) (scope : Scope) (P : Cx → Prop) : Prop := ∀ (s : Shared) (H : Hp) (C : Addr) (cl : List (Str × Addr)) (fp : List Addr), P (X.blk s H scope (compEnvC scope cl C X.env) fp)
theorem se_compF (own : List (Str × Nat)) (hN : X.N.Nodup) (hi : SI X W tg iter wi) (hg : Blk X scope fun Y => SGc Y tg is g) (ht : Blk X scope fun Y => SCs Y ifs wt) (he : Blk X scope fun Y => SE Y WF elt w)
    (ok : BlkOk X.N X.env.scope scope own := by exact blkOk_by (by kernel_rfl)) (hv : ∀ i ∈ is, i ∈ own.map (·.2) := by decide) (hc : X.calm = true := by rfl) (hs : ∀ x, foldedSetIterable iter X.env x = pure x := by intro _; rfl) :
    SE X W (.ListComp elt [⟨tg, iter, ifs, 0⟩] scope pos) (wCompF wi g wt w (own.map (·.2))) := PE.imp (pe_lc hc hN hi ok hg ht he hs) fun _ _ _ q => tW_compF hv q
theorem se_compC (own : List (Str × Nat)) (hN : X.N.Nodup) (hi : SI X W tg iter wi) (hg : Blk X scope fun Y => SGc Y tg is g) (ht : Blk X scope fun Y => SCs Y ifs wt) (he : Blk X scope fun Y => SE Y WF elt w)
    (ok : BlkOk X.N X.env.scope scope own := by exact blkOk_by (by kernel_rfl)) (hv : ∀ i ∈ is, i ∈ own.map (·.2) := by decide) (hc : X.calm = true := by rfl) (hs : ∀ x, foldedSetIterable iter X.env x = pure x := by intro _; rfl) :
    SE X W (.ListComp elt [⟨tg, iter, ifs, 0⟩] scope pos) (wCompC wi g wt w (own.map (·.2))) := PE.imp (pe_lc hc hN hi ok hg ht he hs) fun _ _ _ q => tW_compC hv q
/-- y = [..] -/
theorem s_setCompF (i : Nat) {y : Str} {py spos : Pos} (own : List (Str × Nat)) (hN : X.N.Nodup) (hi : SI X W tg iter wi) (hg : Blk X scope fun Y => SGc Y tg is g) (ht : Blk X scope fun Y => SCs Y ifs wt) (he : Blk X scope fun Y => SE Y WF elt w)
    (hy : X.N[i]? = some y := by rfl) (hyl : X.env.scope.names.lookup y = some .local := by rfl) (hsw : swapsWith (.ListComp elt [⟨tg, iter, ifs, 0⟩] scope pos) (some (.Name y py)) spos.line X.env = pure true := by exact sw_true rfl rfl rfl (by decide +kernel))
    (ok : BlkOk X.N X.env.scope scope own := by exact blkOk_by (by kernel_rfl)) (hv : ∀ i ∈ is, i ∈ own.map (·.2) := by decide) (hc : X.calm = true := by rfl) (hs : ∀ x, foldedSetIterable iter X.env x = pure x := by intro _; rfl) :
    SS X W (.Assign [.Name y py] (.ListComp elt [⟨tg, iter, ifs, 0⟩] scope pos) spos) (wAsg (wCompF wi g wt w (own.map (·.2))) (gNm i)) := PS.imp (ps_setLc hc hN hy hyl hsw hi ok hg ht he hs) fun D σ H ⟨S, ρ, h, E, ar, hr, hw, k⟩ => by
  refine tW_compF hv ⟨S, ρ, h, _, _, ar, hr, hw, fun t h1 q1 S1 u H1 E1 R1 rx => ?_, k.xok ar⟩
  exact k.nx _ h1 q1 S1 _ H1 E1 R1 ((ar.mono E1.sub).set i rx)
theorem s_setCompC (i : Nat) {y : Str} {py spos : Pos} (own : List (Str × Nat)) (hN : X.N.Nodup) (hi : SI X W tg iter wi) (hg : Blk X scope fun Y => SGc Y tg is g) (ht : Blk X scope fun Y => SCs Y ifs wt) (he : Blk X scope fun Y => SE Y WF elt w)
    (hy : X.N[i]? = some y := by rfl) (hyl : X.env.scope.names.lookup y = some .local := by rfl) (hsw : swapsWith (.ListComp elt [⟨tg, iter, ifs, 0⟩] scope pos) (some (.Name y py)) spos.line X.env = pure true := by exact sw_true rfl rfl rfl (by decide +kernel))
    (ok : BlkOk X.N X.env.scope scope own := by exact blkOk_by (by kernel_rfl)) (hv : ∀ i ∈ is, i ∈ own.map (·.2) := by decide) (hc : X.calm = true := by rfl) (hs : ∀ x, foldedSetIterable iter X.env x = pure x := by intro _; rfl) :
    SS X W (.Assign [.Name y py] (.ListComp elt [⟨tg, iter, ifs, 0⟩] scope pos) spos) (wAsg (wCompC wi g wt w (own.map (·.2))) (gNm i)) := PS.imp (ps_setLc hc hN hy hyl hsw hi ok hg ht he hs) fun D σ H ⟨S, ρ, h, E, ar, hr, hw, k⟩ => by
  refine tW_compC hv ⟨S, ρ, h, _, _, ar, hr, hw, fun t h1 q1 S1 u H1 E1 R1 rx => ?_, k.xok ar⟩
  exact k.nx _ h1 q1 S1 _ H1 E1 R1 ((ar.mono E1.sub).set i rx)
end

def wApp (wo w : WEx) : WEx := fun ρ h R RX => wo ρ h (fun x h1 => w ρ h1 (fun y h2 => ∃ n ts, x = .ref n ∧ h2[n]? = some (.lst ts) ∧ ts.length < lim ∧ R .non (h2.set n (.lst (ts ++ [y])))) RX) RX
def isLst (h : AH) (x : T) : Prop := ∃ n ts, x = .ref n ∧ h[n]? = some (.lst ts)
/-- the receiver is a list cell ahead of the arguments, too -/
def wBM (op : AH → T → List T → (T → AH → Prop) → Prop) (wo : WEx) (wr : WAr) : WEx := fun ρ h R RX => wo ρ h (fun x h1 => isLst h1 x ∧ wr ρ h1 (fun ts h2 => op h2 x ts R) RX) RX
def mAppend (h : AH) (x : T) (ys : List T) (R : T → AH → Prop) : Prop := ∃ n ts y, x = .ref n ∧ ys = [y] ∧ h[n]? = some (.lst ts) ∧ ts.length < lim ∧ R .non (h.set n (.lst (ts ++ [y])))
def mPop (h : AH) (x : T) (ys : List T) (R : T → AH → Prop) : Prop := ∃ n ts y, x = .ref n ∧ ys = [] ∧ h[n]? = some (.lst ts) ∧ ts[ts.length - 1]? = some y ∧ R y (h.set n (.lst ts.dropLast))
def mPopAt (h : AH) (x : T) (ys : List T) (R : T → AH → Prop) : Prop := ∃ n ts i k y, x = .ref n ∧ ys = [.int i] ∧ h[n]? = some (.lst ts) ∧ -(2 ^ 63) ≤ i ∧ i < 2 ^ 63 ∧ seqIndex? i ts.length = some k ∧ ts[k]? = some y ∧ R y (h.set n (.lst (ts.eraseIdx k)))
/-- how a rule of the layer answers a method as op has it -/
def MtS (X : Cx) (r : V → List V → Hp → VK → Prop) (op : AH → T → List T → (T → AH → Prop) → Prop) : Prop := ∀ (S : AS) (h : AH) (H : Hp) (x : T) (ts : List T) (v : V) (vs : List V) (R : T → AH → Prop) (Q : VK), HRel X.K X.mg S h H → RelT X.K S x v → RelTs X.K S ts vs → op h x ts R →
  (∀ t h', R t h' → ∀ S' v H', Ext S H S' H' → HRel X.K X.mg S' h' H' → RelT X.K S' t v → Q v H') → r v vs H Q
theorem tyV_lst {K : PySem.W.Frag} {mg : Str → Option Value} {h : AH} {x : T} {v : V} (hr : HRel K mg S h H) (r : RelT K S x v) (l : isLst h x) : tyV K "list" v H := by
  obtain ⟨n, ts, rfl, q⟩ := l
  simp only [RelT] at r
  obtain ⟨_, rfl⟩ := r
  obtain ⟨us, q1, _⟩ := hr.c n _ q
  exact .inl ⟨rfl, us, .of q1⟩
theorem tW_bm {r : V → List V → Hp → VK → Prop} {op : AH → T → List T → (T → AH → Prop) → Prop} (hm : MtS X r op) {wo : WEx} {Q : VK} (q : tW X W (wBM op wo wr) σ H Q) : tBM X.K "list" r (tW X W wo) (tWA X W wr) σ H Q := by
  obtain ⟨S, ρ, h, R, RX, ar, hr, hw, hR, hX⟩ := q
  refine ⟨S, ρ, h, _, RX, ar, hr, hw, fun x h1 q1 S1 u H1 E1 R1 rx => ⟨tyV_lst R1 rx q1.1, ?_⟩, hX⟩
  refine ⟨S1, ρ, h1, _, RX, ar.mono E1.sub, R1, q1.2, fun ts h2 q2 S2 us H2 E2 R2 rs => ?_, hX.mono E1⟩
  exact hm S2 h2 H2 x ts u us R Q R2 (rx.mono E2.sub) rs q2 fun t h' q S' v H' e => hR t h' q S' v H' ((E1.trans E2).trans e)
theorem tW_bm0 {r : V → List V → Hp → VK → Prop} {op : AH → T → List T → (T → AH → Prop) → Prop} (hm : MtS X r op) {wo : WEx} {Q : VK} (q : tW X W (wBM op wo wNil) σ H Q) : tBM0 X.K "list" r (tW X W wo) σ H Q := by
  obtain ⟨S, ρ, h, R, RX, ar, hr, hw, hR, hX⟩ := q
  refine ⟨S, ρ, h, _, RX, ar, hr, hw, fun x h1 q1 S1 u H1 E1 R1 rx => ⟨tyV_lst R1 rx q1.1, ?_⟩, hX⟩
  exact hm S1 h1 H1 x [] u [] R Q R1 rx .nil q1.2 fun t h' q S' v H' e => hR t h' q S' v H' (E1.trans e)
theorem ms_append : MtS X rAppend mAppend := fun S h H x ts v vs R Q hr rx rs ⟨n, us, y, ex, ey, hn, hz, q⟩ hR => by
  subst ex ey
  simp only [RelT] at rx
  obtain ⟨_, rfl⟩ := rx
  obtain ⟨w, rfl, rw'⟩ := rel1 rs
  obtain ⟨ws, q1, r1⟩ := hr.c n _ hn
  have r2 := r1.append (.cons rw' .nil)
  obtain ⟨R3, E3⟩ := hr.write (o := .lst (ws ++ [w])) (c := .lst (us ++ [y])) hn (fun z => by cases z) ⟨_, upd_same, r2⟩
  exact ⟨_, ws, w, rfl, rfl, q1, by rw [← r1.length]; exact Nat.lt_of_lt_of_le hz (by decide), hR _ _ q S _ _ E3 R3 (by simp [RelT])⟩
theorem dropLast_rel {K : PySem.W.Frag} {ts : List T} {us : List V} (r : RelTs K S ts us) : RelTs K S ts.dropLast us.dropLast := by
  rw [List.dropLast_eq_take, List.dropLast_eq_take, r.length]
  exact r.take _
theorem ms_pop : MtS X rPop mPop := fun S h H x ts v vs R Q hr rx rs ⟨n, us, y, ex, ey, hn, hy, q⟩ hR => by
  subst ex ey
  simp only [RelT] at rx
  obtain ⟨_, rfl⟩ := rx
  simp only [RelTs] at rs
  subst rs
  obtain ⟨ws, q1, r1⟩ := hr.c n _ hn
  obtain ⟨w, e1, rw'⟩ := r1.get hy
  rw [r1.length] at e1
  obtain ⟨R3, E3⟩ := hr.write (o := .lst ws.dropLast) (c := .lst us.dropLast) hn (fun z => by cases z) ⟨_, upd_same, dropLast_rel r1⟩
  exact ⟨_, ws, w, rfl, rfl, q1, e1, hR _ _ q S _ _ E3 R3 (rw'.mono E3.sub)⟩
theorem ms_popAt : MtS X rPopAt mPopAt := fun S h H x ts v vs R Q hr rx rs ⟨n, us, i, k, y, ex, ey, hn, b1, b2, hk, hy, q⟩ hR => by
  subst ex ey
  simp only [RelT] at rx
  obtain ⟨_, rfl⟩ := rx
  obtain ⟨wi, rfl, rw1⟩ := rel1 rs
  simp only [RelT] at rw1
  subst rw1
  obtain ⟨ws, q1, r1⟩ := hr.c n _ hn
  obtain ⟨w, e1, rw'⟩ := r1.get hy
  rw [r1.length] at hk
  obtain ⟨R3, E3⟩ := hr.write (o := .lst (ws.eraseIdx k)) (c := .lst (us.eraseIdx k)) hn (fun z => by cases z) ⟨_, upd_same, r1.eraseIdx k⟩
  exact ⟨_, ws, i, k, w, rfl, rfl, q1, b1, b2, hk, e1, hR _ _ q S _ _ E3 R3 (rw'.mono E3.sub)⟩
end
end TL

namespace TL
open PySem PySem.Spec PyProof.Rows L2

section
variable {X : Cx} {W : WX} {σ : L2.St} {S S' : AS} {H H' : Hp} {e a b c o tg : Expr} {es : List Expr} {w wa wb wo : WEx} {pos p p2 apos cpos : Pos} {wr : WAr} {x : Str}
theorem se_append (ho : SE X W o wo) (ha : SA X W [e] wr) (hbase : attributeBase o "append" X.env (eval o X.env) = eval o X.env := by rfl)
    (hfew : ((backTo cpos (starEach [e] X.env)).all (fun x => !x.1) && (backToKw cpos (keywordEach [] X.env)).all (fun x => x.1.isSome) && decide (([e] : List Expr).length + ([] : List Keyword).length + (if ([] : List Keyword).isEmpty then 0 else 1) < 30)) = true := by rfl)
    (hline : (apos.endLine == cpos.line) = true := by rfl) (hs : starEach [e] X.env = (false, eval e X.env) :: starEach [] X.env := by rfl) (hpl : (backTo cpos (starEach [] X.env)).any (·.1) = false := by rfl) :
    SE X W (.Call (.Attribute o "append" apos) [e] [] cpos) (wBM mAppend wo wr) :=
  PE.imp (pe_bm PySem.F.plainAttrs_list PySem.F.slot_list_append PySem.F.type_list_append mt_append ho ha hbase hfew hline hs hpl) fun _ _ _ q => tW_bm ms_append q
theorem se_popAt (ho : SE X W o wo) (ha : SA X W [e] wr) (hbase : attributeBase o "pop" X.env (eval o X.env) = eval o X.env := by rfl)
    (hfew : ((backTo cpos (starEach [e] X.env)).all (fun x => !x.1) && (backToKw cpos (keywordEach [] X.env)).all (fun x => x.1.isSome) && decide (([e] : List Expr).length + ([] : List Keyword).length + (if ([] : List Keyword).isEmpty then 0 else 1) < 30)) = true := by rfl)
    (hline : (apos.endLine == cpos.line) = true := by rfl) (hs : starEach [e] X.env = (false, eval e X.env) :: starEach [] X.env := by rfl) (hpl : (backTo cpos (starEach [] X.env)).any (·.1) = false := by rfl) :
    SE X W (.Call (.Attribute o "pop" apos) [e] [] cpos) (wBM mPopAt wo wr) :=
  PE.imp (pe_bm PySem.F.plainAttrs_list PySem.F.slot_list_pop PySem.F.type_list_pop mt_popAt ho ha hbase hfew hline hs hpl) fun _ _ _ q => tW_bm ms_popAt q
theorem se_pop (ho : SE X W o wo) (hbase : attributeBase o "pop" X.env (eval o X.env) = eval o X.env := by rfl) (hline : (apos.endLine == cpos.line) = true := by rfl) :
    SE X W (.Call (.Attribute o "pop" apos) [] [] cpos) (wBM mPop wo wNil) :=
  PE.imp (pe_bm0 PySem.F.plainAttrs_list PySem.F.slot_list_pop PySem.F.type_list_pop mt_pop ho hbase hline) fun _ _ _ q => tW_bm0 ms_pop q
def flatT : T → Bool
  | .non => true
  | .bl _ => true
  | .int _ => true
  | .str _ => true
  | _ => false
def toV : T → V
  | .non => .non
  | .bl b => .bl b
  | .int i => .int i
  | .str s => .str s
  | _ => .non
theorem flat_rel {K : PySem.W.Frag} {t : T} {v : V} (r : RelT K S t v) (f : flatT t = true) : v = toV t ∧ flatV v = true := by
  cases t <;> simp only [flatT, Bool.false_eq_true] at f <;> simp only [RelT] at r <;> subst r <;> exact ⟨rfl, rfl⟩
theorem flats_rel {K : PySem.W.Frag} : ∀ {ts : List T} {us : List V}, RelTs K S ts us → ts.all flatT = true → us = ts.map toV ∧ us.all flatV = true
  | [], us, r, _ => by simp only [RelTs] at r; subst r; exact ⟨rfl, rfl⟩
  | t :: ts, us, r, f => by
    simp only [RelTs] at r
    obtain ⟨u, vs, rfl, r1, r2⟩ := r
    simp only [List.all_cons, Bool.and_eq_true] at f
    obtain ⟨e1, f1⟩ := flat_rel r1 f.1
    obtain ⟨e2, f2⟩ := flats_rel r2 f.2
    exact ⟨by rw [e1, e2, List.map_cons], by rw [List.all_cons, f1, f2]; rfl⟩
def eqT (x y : T) : Bool := eqV (toV x) (toV y)
/-- the first place of y -/
def idxT (ts : List T) (y : T) : Option Nat := ts.findIdx? fun z => eqT z y
def wIndex (wo w : WEx) : WEx := fun ρ h R RX => wo ρ h (fun x h1 => (∃ ts, asL h1 x = some ts) ∧ w ρ h1 (fun y h2 => ∃ ts j, asL h2 x = some ts ∧ flatT y = true ∧ ts.all flatT = true ∧ idxT ts y = some j ∧ R (.int j) h2) RX) RX
theorem se_index (ho : SE X W o wo) (he : SE X W e w) (hbase : attributeBase o "index" X.env (eval o X.env) = eval o X.env := by rfl)
    (hfew : ((backTo cpos (starEach [e] X.env)).all (fun x => !x.1) && (backToKw cpos (keywordEach [] X.env)).all (fun x => x.1.isSome) && decide (([e] : List Expr).length + ([] : List Keyword).length + (if ([] : List Keyword).isEmpty then 0 else 1) < 30)) = true := by rfl)
    (hline : (apos.endLine == cpos.line) = true := by rfl) (hs : starEach [e] X.env = (false, eval e X.env) :: starEach [] X.env := by rfl) (hpl : (backTo cpos (starEach [] X.env)).any (·.1) = false := by rfl) :
    SE X W (.Call (.Attribute o "index" apos) [e] [] cpos) (wIndex wo w) :=
  PE.imp (pe_bm PySem.F.plainAttrs_list PySem.F.slot_list_index PySem.F.type_list_index mt_index ho (pa_cons he pa_nil hs) hbase hfew hline hs hpl) fun σ H Q ⟨S, ρ, h, R, RX, ar, hr, hw, hR, hX⟩ => by
    refine ⟨S, ρ, h, _, RX, ar, hr, hw, fun x h1 q1 S1 u H1 E1 R1 rx => ?_, hX⟩
    obtain ⟨⟨ts0, e0⟩, q1⟩ := q1
    obtain ⟨a0, us0, rfl, l0, _⟩ := asL_rel R1 rx e0
    refine ⟨.inl ⟨rfl, us0, l0⟩, S1, ρ, h1, _, RX, ar.mono E1.sub, R1, q1, fun y h2 q2 S2 u2 H2 E2 R2 ry => ?_, hX.mono E1⟩
    obtain ⟨ts, j, e1, f1, f2, ej, q⟩ := q2
    obtain ⟨a, us, e2, l, r⟩ := asL_rel R2 (rx.mono E2.sub) e1
    cases e2
    obtain ⟨ey, fy⟩ := flat_rel ry f1
    obtain ⟨eus, fus⟩ := flats_rel r f2
    unfold idxT at ej
    rw [List.findIdx?_eq_some_iff_getElem] at ej
    obtain ⟨hj, h3, h4⟩ := ej
    refine ⟨a0, us, u2, j, toV ts[j], rfl, rfl, l, fy, fus, ?_, ?_, fun m z' hm hz' => ?_, hR _ h2 q S2 _ H2 (E1.trans E2) R2 (by simp [RelT])⟩
    · rw [eus, List.getElem?_map, List.getElem?_eq_getElem hj]; rfl
    · rw [ey]; exact h3
    · have h5 := h4 m hm
      rw [eus, List.getElem?_map] at hz'
      have hm' : m < ts.length := Nat.lt_trans hm hj
      rw [List.getElem?_eq_getElem hm'] at hz'
      cases hz'
      rw [ey]
      simpa [eqT] using h5
end

abbrev ASp := List T → AH → (T → AH → Prop) → XC → Prop
def spA (K : PySem.W.Frag) (mg : Str → Option Value) (sp : ASp) : Sp := fun vs H Q E => ∃ S h ts R RX, RelTs K S ts vs ∧ HRel K mg S h H ∧ sp ts h R RX ∧
  (∀ t h', R t h' → ∀ S' v H', Ext S H S' H' → HRel K mg S' h' H' → RelT K S' t v → Q v H') ∧
  (∀ c h', RX c h' → ∀ S' H', Ext S H S' H' → HRel K mg S' h' H' → ∀ C d, mg c.name = some (.ref C) → ExcD K S' H' c.fs d → E (.ref C) d H')
/-- as the layer's promise of a def, called where no display is under way -/
structure FnG (P : Program) (w : World) (K : PySem.W.Frag) (mg : Str → Option Value) (base : Heap) (k : Nat) (f : Addr) (fd : FuncData) (ps : List Str) (sp : Sp) : Prop where
  len : ∀ vs H Q E, sp vs H Q E → vs.length = ps.length
  run : ∀ (A : Around) (outer : List Env) (s : Shared) (H : Hp) (args : Args) (us : List Value) (vs : List V) (Q : VK) (E : XK), Room k A → A.guards = some [] → Env0 P w K mg base A outer s H →
    BindsTo s fd args (ps.zip us) → Vals vs us → sp vs H Q E → codeAny (model P w) A (.call (.ref f) args) (CR (L2.CX P w) outer P w H s Q E) s
section
variable {P : Program} {w : World} {K : PySem.W.Frag} {mg : Str → Option Value} {base : Heap}
theorem FnG.mono {j k : Nat} {f : Addr} {fd : FuncData} {ps : List Str} {sp : Sp} (F : FnG P w K mg base j f fd ps sp) (h : j ≤ k) : FnG P w K mg base k f fd ps sp :=
  ⟨F.len, fun A outer s H args us vs Q E hr => F.run A outer s H args us vs Q E (hr.mono h)⟩
/-- what holds where a def's body runs -/
structure Here (X : Cx) (W : WX) (k : Nat) : Prop where
  room : Room k X.A
  guards : X.A.guards = some []
  takes : Takes X W
/-- a def, whatever its defaults -/
structure FunX (K : PySem.W.Frag) (x qual : Str) (st : Stmt) (f : Addr) (fd : FuncData) : Prop where
  ex : ∃ (oc : Value) (od : Option Addr) (dV kV doc pm : Value) (an : Option Addr) (cdv ct : Value) (osl : Array (Option Value)),
    fd = PySem.W.fnOf x qual (defArgs st) (defBody st) (defScope st) dV kV doc pm an cdv ct ∧ K.lookup f = some ⟨oc, od, .func fd, osl⟩ ∧ PySem.W.codeIn K cdv qual = true
theorem _root_.L2.Fun.x {x qual : Str} {st : Stmt} {f : Addr} {fd : FuncData} (F : Fun K x qual st f fd) : FunX K x qual st f fd :=
  let ⟨oc, od, kV, doc, pm, an, cdv, ct, osl, e, lk, hcd⟩ := F.ex
  ⟨oc, od, _, kV, doc, pm, an, cdv, ct, osl, e, lk, hcd⟩
theorem fnG_of {qual : Str} {st : Stmt} {x : Str} {f : Addr} {fd : FuncData} {N ps : List Str} {k : Nat} {sp : Sp} (F : FunX K x qual st f fd) (Sc : FnScope N ps (defScope st)) (len : ∀ vs H Q E, sp vs H Q E → vs.length = ps.length)
    (hbody : ∀ (cdv : Value) (A : Around) (outer : List Env) (s : Shared) (H : Hp) (vs : List V) (Q : VK) (E : XK), Room k (A.deeper (envOfC qual (defScope st) s.heap.objs.size f cdv)) → A.guards = some [] → sp vs H Q E →
      ∃ t, PSs (cxOf (L2.CX P w) P w K mg base N qual (defScope st) f cdv A outer s H E) (defBody st) t ∧ t { nx := fun _ H' => Q .non H', rt := Q } (start N vs) H) : FnG P w K mg base (k + 1) f fd ps sp := by
  obtain ⟨oc, od, dV, kV, doc, pm, an, cdv, ct, osl, rfl, lk, hcd⟩ := F.ex
  refine ⟨len, fun A outer s H args us vs Q E hr hg e0 hb r hsp => ?_⟩
  have hl := len _ _ _ _ hsp
  have up : ∀ b o, base.get? b = some o → s.heap.get? b = some o := fun b o e => (e0.bs b o e).1
  have kin := e0.mod.kin.keeps up
  have par : ∀ y ∈ ps.zip us, (defScope st).names.lookup y.1 = some .local ∨ ((defScope st).names.lookup y.1 = some .cell ∧ ((cellsFrom (s.heap.objs.size + 1) (defScope st).names []).lookup y.1).isSome = true) := by
    rintro ⟨n, v⟩ hy
    cases Sc.par n (List.of_mem_zip hy).1 with
    | inl q => exact .inl q
    | inr q => exact .inr ⟨q, PySem.W.cellsFrom_some _ _ _ (.inl q)⟩
  refine codeAny_call_function hr.depth (kin _ _ lk) rfl Sc.co Sc.gen rfl (PySem.W.codeRec_of kin hcd) (hb _ _ _ _ ?_)
  refine wpAny_newFunctionEnv_cells Sc.kind par fun env he s1 x => ?_
  subst he
  refine ⟨(e0.mod.nolimit.keeps up).keeps x.toInCall.keep, codeAny_func ?_⟩
  obtain ⟨t, ht, hq⟩ := hbody cdv A outer s H vs Q E (hr.deeper _) hg hsp
  have I0 := inv_start (CX := L2.CX P w) (mg := mg) (base := base) (E := E) Sc hr.hd e0 hl r x
  refine wpAny_mono (ht.run [] s1 (start N vs) H _ I0 hq) (fun fl s' hs => ?_) fun e s' hs => hs
  cases fl with
  | ret u => obtain ⟨v, σ', H', J, rv, q⟩ := hs; exact ⟨v, H', J.os, J.bare, J.base, J.hok, rv, q⟩
  | next => obtain ⟨σ', H', J, q⟩ := hs; exact ⟨.non, H', J.os, J.bare, J.base, J.hok, rfl, q⟩
  | brk => obtain ⟨_, _, _, q⟩ := hs; exact q.elim
  | cont => obtain ⟨_, _, _, q⟩ := hs; exact q.elim

/-- what a call leaves: as it is, or without the cells that were made in it -/
def RetP (h : AH) (R : T → AH → Prop) (t : T) (h' : AH) : Prop := R t h' ∨ ∃ h2, Pop h h' h2 [t] ∧ R t h2
def RetX (h : AH) (RX : XC) (c : Exc) (h' : AH) : Prop := RX c h' ∨ ∃ h2, Pop h h' h2 ((c.fs.getD []).map (·.2)) ∧ RX c h2
def wBody (n : Nat) (u : WSt) : ASp := fun ts h R RX => u ⟨fun _ h' => RetP h R .non h', RetP h R, fun _ _ => False, fun _ _ => False, fun c _ h' => RetX h RX c h'⟩ (ts.map some ++ List.replicate (n - ts.length) none) h
theorem start_rel {S : AS} {ts : List T} {vs : List V} {N : List Str} (r : RelTs K S ts vs) : ARel K S (ts.map some ++ List.replicate (N.length - ts.length) none) (start N vs) := by
  have hl := r.length
  refine ⟨by simp [L2.start, hl], fun i t q => ?_⟩
  by_cases hi : i < ts.length
  · rw [List.getElem?_append_left (by simpa using hi), List.getElem?_map, List.getElem?_eq_getElem hi] at q
    simp only [Option.map_some, Option.some.injEq] at q
    obtain ⟨u, h1, h2⟩ := r.get (i := i) (t := t) (by rw [List.getElem?_eq_getElem hi, q])
    refine ⟨u, ?_, h2⟩
    unfold L2.start
    rw [List.getElem?_append_left (by simpa [← hl] using hi), List.getElem?_map, h1]; rfl
  · rw [List.getElem?_append_right (by simpa using Nat.le_of_not_lt hi), List.getElem?_replicate] at q
    split at q <;> cases q
/-- THE RULE for a def: its body's trees, its promise -/
theorem fnG_mkX {qual : Str} {st : Stmt} {x : Str} {f : Addr} {fd : FuncData} {N ps : List Str} {k : Nat} {sp : ASp} {u : WSt} (F : FunX K x qual st f fd) (Sc : FnScope N ps (defScope st))
    (hbody : ∀ (cdv : Value) (A : Around) (outer : List Env) (s : Shared) (H : Hp) (E : XK), Here (cxOf (L2.CX P w) P w K mg base N qual (defScope st) f cdv A outer s H E) (fun c d _ H => E c d H) k →
      PassesOwn (model P w) (A.deeper (envOfC qual (defScope st) s.heap.objs.size f cdv)) (envOfC qual (defScope st) s.heap.objs.size f cdv) (cxOf (L2.CX P w) P w K mg base N qual (defScope st) f cdv A outer s H E).xe →
      SSs (cxOf (L2.CX P w) P w K mg base N qual (defScope st) f cdv A outer s H E) (fun c d _ H => E c d H) (defBody st) u)
    (hlen : ∀ ts h R RX, sp ts h R RX → ts.length = ps.length) (hsp : ∀ ts h R RX, sp ts h R RX → wBody N.length u ts h R RX) : FnG P w K mg base (k + 1) f fd ps (spA K mg sp) := by
  refine fnG_of F Sc (fun vs H Q E ⟨S, h, ts, R, RX, rs, hr, q, _⟩ => by rw [← rs.length]; exact hlen _ _ _ _ q) fun cdv A outer s H vs Q E hroom hg hs => ?_
  obtain ⟨S, h, ts, R, RX, rs, hr, q, hR, hX⟩ := hs
  refine ⟨_, hbody cdv A outer s H E ⟨hroom, hg, takes_of rfl rfl rfl rfl⟩ (passes_of rfl), ?_⟩
  have ret : ∀ t h', RetP h R t h' → ∀ S' v H', Ext S H S' H' → HRel K mg S' h' H' → RelT K S' t v → Q v H' := fun t h' rp S' v H' e r rv => by
    rcases rp with rp | ⟨h2, pp, rp⟩
    · exact hR t h' rp S' v H' e r rv
    · obtain ⟨S2, R2, E2, cut⟩ := hr.pop r e pp
      obtain ⟨v', e1, r2⟩ := rel1 (cut [v] (.cons rv .nil))
      cases e1
      exact hR t h2 rp S2 v H' E2 R2 r2
  refine ⟨S, _, h, _, start_rel rs, hr, hsp _ _ _ _ q, ⟨fun ρ' h' rp S' σ' H' e r a => ret .non h' rp S' .non H' e r (by simp [RelT]), ret, fun _ _ q => q.elim, fun _ _ q => q.elim, fun c ρ' h' rp S' σ' H' e r a C d hC hd => ?_⟩⟩
  rcases rp with rp | ⟨h2, pp, rp⟩
  · exact hX c h' rp S' H' e r C d hC hd
  · obtain ⟨S2, R2, E2, cut⟩ := hr.pop r e pp
    refine hX c h2 rp S2 H' E2 R2 C d hC ?_
    unfold ExcD at hd ⊢
    split at hd
    · exact hd
    · rename_i fs hfs
      obtain ⟨dx, us, e1, e2, e3⟩ := hd
      rw [hfs] at cut
      exact ⟨dx, us, e1, e2, e3.1, cut _ e3.2⟩
theorem fnG_mk {qual : Str} {st : Stmt} {x : Str} {f : Addr} {fd : FuncData} {N ps : List Str} {k : Nat} {sp : ASp} {u : WSt} (F : Fun K x qual st f fd) (Sc : FnScope N ps (defScope st))
    (hbody : ∀ (cdv : Value) (A : Around) (outer : List Env) (s : Shared) (H : Hp) (E : XK), Here (cxOf (L2.CX P w) P w K mg base N qual (defScope st) f cdv A outer s H E) (fun c d _ H => E c d H) k →
      PassesOwn (model P w) (A.deeper (envOfC qual (defScope st) s.heap.objs.size f cdv)) (envOfC qual (defScope st) s.heap.objs.size f cdv) (cxOf (L2.CX P w) P w K mg base N qual (defScope st) f cdv A outer s H E).xe →
      SSs (cxOf (L2.CX P w) P w K mg base N qual (defScope st) f cdv A outer s H E) (fun c d _ H => E c d H) (defBody st) u)
    (hlen : ∀ ts h R RX, sp ts h R RX → ts.length = ps.length) (hsp : ∀ ts h R RX, sp ts h R RX → wBody N.length u ts h R RX) : FnG P w K mg base (k + 1) f fd ps (spA K mg sp) := fnG_mkX F.x Sc hbody hlen hsp
end

/-- a def of the module that may be called by its name -/
def Callee (P : Program) (w : World) (K : PySem.W.Frag) (mg : Str → Option Value) (base : Heap) (x : Str) (k : Nat) (ps : List Str) (sp : ASp) : Prop :=
  ∃ f fd, FnG P w K mg base k f fd ps (spA K mg sp) ∧ mg x = some (.ref f) ∧ PySem.W.keepIn K (.ref f) = true ∧ Binds K fd ps []
theorem Callee.mono {P : Program} {w : World} {K : PySem.W.Frag} {mg : Str → Option Value} {base : Heap} {x : Str} {j k : Nat} {ps : List Str} {sp : ASp} (c : Callee P w K mg base x j ps sp) (h : j ≤ k) : Callee P w K mg base x k ps sp :=
  let ⟨f, fd, a, b⟩ := c
  ⟨f, fd, a.mono h, b⟩
def wCall (sp : ASp) (wr : WAr) : WEx := fun ρ h R RX => wr ρ h (fun ts h1 => sp ts h1 R RX) RX
section
variable {X : Cx} {W : WX} {σ : L2.St} {S S' : AS} {H H' : Hp} {e a b c o tg : Expr} {es : List Expr} {pos p p2 : Pos} {wr : WAr} {x : Str} {k : Nat} {ps : List Str} {sp : ASp}
theorem Here.blk (h : Here X W k) {s : Shared} {H : Hp} {scope : Scope} {cenv : Env} {fp : List Addr} : Here (X.blk s H scope cenv fp) WF k := ⟨h.room, h.guards, takes0⟩
theorem run_fnG {pins : List (Addr × Obj)} {s : Shared} {Q : VK} {us : List Value} {vs : List V} {f : Addr} {fd : FuncData} {psp : Sp} {E : XK} (F : FnG X.prog X.w X.K X.mg X.base k f fd ps psp) (hh : Here X W k) (hW : ∀ c d H', E c d H' → W c d σ H') (hb : Binds X.K fd ps [])
    (I : Inv X pins σ H s) (r : Vals vs us) (h : psp vs H Q E) : wpAny (model X.prog X.w) X.A (call (.ref f) us) (EP X pins σ Q) X.xe s := by
  have hl : us.length = ps.length := by rw [← r.length]; exact F.len _ _ _ _ h
  have bb := hb s us I.kIn (by rw [List.append_nil]; exact hl)
  rw [List.append_nil] at bb
  refine wpAny_call (codeAny_mono (F.run X.A X.stack s H ⟨us, []⟩ us vs Q E hh.room hh.guards I.env0 bb r h) fun r s' hq => ?_)
  match r, hq with
  | .error e, hq => exact hh.takes e s' (XE.of_call I hW hq)
  | .ok (.ret u), hq => exact I.after hq
theorem se_call (C : Callee X.prog X.w X.K X.mg X.base x k ps sp) (hh : Here X W k) (ha : SA X W (e :: es) wr) (hg : Gl X x := by rfl) (hdb : (x == ("__debug__" : Str)) = false := by decide)
    (he : starEach (e :: es) X.env = (false, eval e X.env) :: starEach es X.env := by rfl) (hpl : (backTo pos (starEach es X.env)).any (·.1) = false := by rfl) : SE X W (.Call (.Name x p) (e :: es) [] pos) (wCall sp wr) := by
  obtain ⟨f, fd, F, hm, hk, hb⟩ := C
  refine ⟨fun pins s σ H Q I ⟨S, ρ, h, R, RX, ar, hr, hw, hR, hX⟩ => ?_⟩
  refine wpAny_Call_Name_kw (ld_glob I hg hm ?_ hdb)
  refine PySem.W.callWith_K (h₀ := X.base) I.ok.mod.kin hk (thn (ha.run pos pins s σ H (fun vs H1 => spA X.K X.mg sp vs H1 Q fun c d H' => W c d σ H') I ?_) fun us s1 ⟨vs, H1, I1, r, q⟩ => ⟨I1.kIn, ?_⟩) he hpl
  · refine ⟨S, ρ, h, _, RX, ar, hr, hw, fun ts h1 q1 S1 vs H1 E1 R1 rs => ?_, hX⟩
    exact ⟨S1, h1, ts, R, RX, rs, R1, q1, fun t h' q S' v H' e => hR t h' q S' v H' (E1.trans e), fun c h' q S' H' e => hX c h' q S' H' (E1.trans e)⟩
  · exact run_fnG (W := W) F hh (fun _ _ _ w => w) hb I1 r q
theorem se_call0 (C : Callee X.prog X.w X.K X.mg X.base x k [] sp) (hh : Here X W k) (hg : Gl X x := by rfl) (hdb : (x == ("__debug__" : Str)) = false := by decide) : SE X W (.Call (.Name x p) [] [] pos) (wCall sp wNil) := by
  obtain ⟨f, fd, F, hm, hk, hb⟩ := C
  refine ⟨fun pins s σ H Q I ⟨S, ρ, h, R, RX, ar, hr, hw, hR, hX⟩ => ?_⟩
  refine wpAny_Call_Name_kw (ld_glob I hg hm ?_ hdb)
  exact PySem.W.callWith_K0 I.kIn hk (run_fnG (W := W) (us := []) F hh (E := fun c d H' => W c d σ H') (fun _ _ _ w => w) hb I .nil ⟨S, h, [], R, RX, .nil, hr, hw, hR, hX⟩)
end
end TL

namespace TL
open PySem PySem.Spec PyProof.Rows L2

def opRepr : OpN := fun h ts => match ts with
  | [t] => match toD h deep t with
    | some d => if d.showable = true ∧ d.shown.length ≤ sizeLine then some (.str d.shown) else none
    | none => none
  | _ => none
section
variable {X : Cx} {S : AS} {H : Hp}
theorem repr_any {v : V} {d : PyData} {pins : List (Addr × Obj)} {s : Shared} {σ : L2.St} {u : Value} {Q : VK} (hg : X.A.guards = some []) (hu : X.A.units + 64 < cLine) (hd : d.depth ≤ 40) (hl : d.canLay0 = true) (hs : d.showable = true) (hz : d.shown.length ≤ sizeLine)
    (I : Inv X pins σ H s) (r : RelV v u) (dp : Dp X.K H v d) (q : Q (.str d.shown) H) : wpAny (model X.prog X.w) X.A (call (.builtin "repr") [u]) (EP X pins σ Q) X.xe s := by
  cases dp with
  | non => cases r; simp only [PyData.shown] at q; exact PySem.P.repr_of_none ⟨.str _, H, I.tok _, ⟨_, rfl⟩, q⟩
  | bl b => cases r; simp only [PyData.shown] at q; exact PySem.P.repr_of_bool ⟨.str _, H, I.tok _, ⟨_, rfl⟩, q⟩
  | int i =>
    obtain ⟨t, rfl⟩ := r
    simp only [PyData.shown] at q
    simp only [PyData.showable, decide_eq_true_eq] at hs
    exact PySem.P.repr_of_int hs ⟨.str _, H, I.tok _, ⟨_, rfl⟩, q⟩
  | str y =>
    obtain ⟨t, rfl⟩ := r
    simp only [PyData.shown] at q hz
    exact PySem.P.repr_of_str ⟨.str _, H, I.tok _, ⟨_, rfl⟩, q⟩ hz
  | @lst a xs ds h1 h2 =>
    obtain ⟨as, rr⟩ := Dp.reads I _ _ u (.lst h1 h2) r
    cases r
    exact repr_of_reads' rr hs (PyData.noDict_hsm (PyData.hasDict_of_canLay _ hl)) hg (by omega) (fun _ _ e => e) (fun h' u tk k => ⟨.str _, H, I.kept k, ⟨_, rfl⟩, q⟩) hz
  | @tup a xs ds h1 h2 =>
    obtain ⟨as, rr⟩ := Dp.reads I _ _ u (.tup h1 h2) r
    cases r
    exact repr_of_reads' rr hs (PyData.noDict_hsm (PyData.hasDict_of_canLay _ hl)) hg (by omega) (fun _ _ e => e) (fun h' u tk k => ⟨.str _, H, I.kept k, ⟨_, rfl⟩, q⟩) hz
theorem c_repr (hg : X.A.guards = some []) (hu : X.A.units + 64 < cLine) : CallR X (.builtin "repr") (rN X.K X.mg opRepr) := by
  intro pins s σ H xs us Q I r ⟨S, h, ts, z, hr, rs, e, q⟩
  unfold opRepr at e
  split at e
  · obtain ⟨v, rfl, rv⟩ := rel1 rs
    cases r with
    | cons r r' =>
      cases r'
      split at e
      · rename_i d q2
        split at e
        · rename_i hz
          cases e
          obtain ⟨c1, c2⟩ := shaped_of deep _ _ q2
          exact repr_any hg hu c2 c1 hz.1 hz.2 I r (dp_of hr _ _ _ _ rv q2) (q S _ H (Ext.refl S H) hr (by simp [RelT]))
        · cases e
      · cases e
  · cases e
end

/-- what the law's def is asked: at this script it hands back True, and raises nothing -/
def Truth (sp : ASp) (n : Nat) : Prop := ∀ ns : List Int, ns.length ≤ n → (∀ z ∈ ns, Builtin.Int.intBits z ≤ 1048576) → sp [.scr (ns.map T.int)] [] (fun t _ => t = .bl true) fun _ _ => False
theorem law_at {P : Program} {w : World} {K : PySem.W.Frag} {mg mb : Str → Option Value} {k : Nat} {fa a : Addr} {fd : FuncData} {x : Str} {sp : ASp} {s1 : Shared} {vs : List Value} {ns : List Int}
    (kin : K.In s1.heap) (nsm : s1.heap.Ns mainGlobals mg) (nsb : s1.heap.Ns builtinsNs mb) (hbb : ∀ x : Str, x ≠ "__name__" → mb x = bootBuiltins x) (lim : s1.heap.NoLimit) (gens : s1.gens = #[])
    (ha : s1.heap.get? a = some { cls := .type "list", data := .seq vs.toArray }) (hi : IntsAre vs ns) (hl : ns.length ≤ sizeLine) (hr : Room k callerA)
    (F : ∀ base : Heap, K.In base → base.Ns mainGlobals mg → FnG P w K mg base k fa fd [x] (spA K mg sp)) (hbind : ∀ (s : Shared) (u : Value), BindsTo s fd ⟨[u], []⟩ [(x, u)])
    (truth : sp [.scr (ns.map T.int)] [] (fun t _ => t = .bl true) fun _ _ => False) :
    codeAny (model P w) callerA (.call (.ref fa) ⟨[.ref a], []⟩) (fun r s' => r = .ok (.ret (.bool true)) ∧ OldK s1.heap s'.heap ∧ s'.os = s1.os ∧ AllBare s'.gens) s1 := by
  -- for any abstract heap that knows the script at most
  suffices key : ∀ H : Hp, Only H → SqS K H a (ns.map V.int) → HOk P w H s1.heap → (∀ b, H b ≠ none → b = a ∧ K.lookup a = none) →
      codeAny (model P w) callerA (.call (.ref fa) ⟨[.ref a], []⟩) (fun r s' => r = .ok (.ret (.bool true)) ∧ OldK s1.heap s'.heap ∧ s'.os = s1.os ∧ AllBare s'.gens) s1 by
    cases hk : K.lookup a with
    | some o =>
      have e := kin a o hk
      rw [ha] at e
      cases e
      exact key (fun _ => none) (fun _ => .inl rfl) (.inr ⟨vs, hk, by rw [hi.length]; exact hl, vals_of_ints hi⟩) (fun b u z => nomatch z) fun b z => absurd rfl z
    | none =>
      have at' : ∀ b, (fun b => if b = a then some (HO.frz { cls := .type "list", data := .seq vs.toArray } (.lst (ns.map V.int))) else none : Hp) b ≠ none → b = a := fun b z => by
        by_cases hb : b = a
        · exact hb
        · exact absurd (if_neg hb) z
      refine key (fun b => if b = a then some (.frz { cls := .type "list", data := .seq vs.toArray } (.lst (ns.map V.int))) else none) (fun b => ?_) (.inl (.inr ⟨_, if_pos rfl⟩)) (fun b u z => ?_) fun b z => ⟨at' b z, hk⟩
      · by_cases hb : b = a
        · exact .inr ⟨_, _, if_pos hb⟩
        · exact .inl (if_neg hb)
      · have hb := at' b (by rw [z]; simp)
        subst hb
        have z' := (if_pos rfl).symm.trans z
        cases z'
        exact ⟨ha, by rw [List.length_map]; exact hl, vs, _, vals_of_ints hi, ha⟩
  intro H only sq hok own
  have free : ∀ b o, s1.heap.get? b = some o → (b = a → False) → H b = none := fun b o _ n => by
    cases q : H b with
    | none => rfl
    | some u => exact (n (own b (by rw [q]; simp)).1).elim
  have ns' : ∀ b m, s1.heap.Ns b m → (hidT s1.heap H).Ns b m := fun b m ⟨o, es, ep, e, d, r⟩ => by
    refine ⟨o, es, ep, hidT_get e (free b o e fun z => ?_), d, r⟩
    subst z
    rw [ha] at e; cases e
    cases (show Data.seq vs.toArray _ = Data.dict es ep from d)
  have kin' : K.In (hidT s1.heap H) := fun b o e => by
    refine hidT_get (kin b o e) (by
      cases q : H b with
      | none => rfl
      | some u =>
        obtain ⟨rfl, z⟩ := own b (by rw [q]; simp)
        rw [e] at z; cases z)
  have e0 : Env0 P w K mg (hidT s1.heap H) callerA [] s1 H :=
    ⟨rfl, ⟨kin', ns' _ _ nsm, ⟨mb, ns' _ _ nsb, hbb⟩, let ⟨mc, h1, h2⟩ := lim; ⟨mc, ns' _ _ h1, h2⟩⟩, fun b o e => of_hidT e, Nat.le_of_eq (hidT_size _ _), trivial, fun b hb => (List.not_mem_nil hb).elim, hok, .of_eq gens⟩
  have rl : HRel K mg ⟨0, fun _ => 0, H⟩ [] H := ⟨rfl, fun _ _ e => e, fun n c e => by simp at e, fun n c e => by simp at e, fun n hn => absurd hn (Nat.not_lt_zero _), fun i j hi => absurd hi (Nat.not_lt_zero _)⟩
  refine codeAny_mono ((F _ kin' (ns' _ _ nsm)).run callerA [] s1 H ⟨[.ref a], []⟩ [.ref a] [.ref a] (fun v _ => v = .bl true) (fun _ _ _ => False) hr rfl e0 (hbind s1 (.ref a)) (.cons rfl .nil)
    ⟨⟨0, fun _ => 0, H⟩, [], [.scr (ns.map T.int)], _, _, .cons (by simp only [RelT]; exact ⟨a, _, rfl, sq, relTs_ints ns⟩) .nil, rl, truth, fun t h' q S' v H' e r rv => by subst q; simpa [RelT] using rv, fun c h' q => q.elim⟩) fun r s' h => ?_
  match r, h with
  | .error e, h => obtain ⟨_, _, _, _, _, _, _, _, _, _, _, _, z⟩ := h; exact z.elim
  | .ok (.ret u), ⟨v, H', os, bare, un, hok', rv, q⟩ =>
    subst q
    obtain rfl : u = Value.bool true := rv
    refine ⟨rfl, OldK.of_keep fun b o e => ?_, os, bare⟩
    rcases only b with z | ⟨ob, xs, z⟩
    · exact un.keep b o e z List.not_mem_nil List.not_mem_nil
    · obtain ⟨e1, _⟩ := hok b _ z
      obtain ⟨e2, _⟩ := hok' b _ (un.frzs b ob _ z)
      rw [e] at e1; cases e1
      exact e2
/-- the goal that k_head leaves -/
theorem walk_tl {l : PySem.W.OpenLaw} {n k : Nat} {q : Program} {loose : List Str} {XP : (Str → Option Value) → Heap → Prop} {YP : World → Heap → Prop} {d : DefRec} {K : Params → PySem.W.Frag} {sp : ASp} {x : Str}
    (hn : l.most = some n) (hn2 : n ≤ sizeLine) (hdf : d.params.defaults = []) (hr : Room k callerA) (hY : ∀ (w : World) (h : Heap), YP w h → (K w.params).In h) (truth : Truth sp n)
    (F : ∀ (w : World) (mg : Str → Option Value) (fa : Addr) (h : Heap), (K w.params).In h → h.Ns mainGlobals mg → mg d.name = some (.ref fa) →
      ∃ fd : FuncData, (∀ (s : Shared) (u : Value), BindsTo s fd ⟨[u], []⟩ [(x, u)]) ∧ ∀ base : Heap, (K w.params).In base → base.Ns mainGlobals mg → FnG l.prog w (K w.params) mg base k fa fd [x] (spA (K w.params) mg sp)) :
    PySem.W.WalkO q loose XP YP l.row.toRowW d [] (fun f vs => PySem.call f vs) := by
  refine Att.attach_callB hn hdf fun w s0 s1 mg mb fa o pm cd doc a vs ns G Y ho hd hcd hmg hobj hints hlen hbits hg => ?_
  obtain ⟨fd, hb, hF⟩ := F w mg fa _ (hY w _ Y) G.T.g hmg
  exact law_at (hY w _ Y) G.T.g G.T.b G.T.builtins G.T.nolimit hg hobj hints (Nat.le_trans hlen hn2) hr hF hb (truth ns hlen hbits)
end TL

namespace TL
open PySem PySem.Spec PyProof.Rows L2
section
variable {X : Cx} {W : WX} {σ : L2.St} {S S' : AS} {H H' : Hp} {e a b c o tg l : Expr} {es : List Expr} {w wa wb wo : WEx} {pos p p2 apos cpos : Pos} {wr : WAr} {x : Str}
def iSeq (K : PySem.W.Frag) (tl : TE) : TI := fun σ H R => tl σ H fun x H1 => ∃ a, x = .ref a ∧ (((∃ xs, SqL K H1 a xs) ∧ R (Itl K a) H1) ∨ ((∃ xs, SqT K H1 a xs) ∧ R (Itt K a) H1))
theorem newIter {pins : List (Addr × Obj)} {s : Shared} {ob : Obj} {R : It → Hp → Prop} {J : It} {tn : Nat → Heap → Prop} (I : Inv X pins σ H s) (T : Turn X.prog X.w X.K tg J [s.heap.objs.size] s.heap.objs.size tn) (ht : tn 0 (s.heap.push ob)) (q : R J H) :
    PIE X pins σ tg R (.ref s.heap.objs.size) { s with heap := s.heap.push ob } := by
  refine ⟨_, _, tn, J, H, rfl, I.kept (t' := s.toks) fun b o e => Heap.get?_push_of_some _ e, T, ht, fun b hb => ?_, q⟩
  obtain rfl : b = s.heap.objs.size := by simpa using hb
  exact I.fpOk (Nat.le_refl _) (I.hok.fresh (Nat.le_refl _))
theorem pi_seq {tl : TE} (hl : PE X l tl) : PI X tg l (iSeq X.K tl) := by
  refine ⟨fun pins s σ H R I h => thn (hl.run pins s σ H _ I h) fun v s1 ⟨x, H1, I1, r1, a, e, q⟩ => ?_⟩
  subst e
  cases r1
  rcases q with ⟨⟨xs, hq⟩, q⟩ | ⟨⟨xs, hq⟩, q⟩
  · obtain ⟨its, rv, pl, hz⟩ := I1.list hq
    exact wpAny_pyIter_list pl.isList (newIter I1 (turn_list a _) ⟨_, Heap.get?_push_size _ rfl, rfl, rfl⟩ q)
  · obtain ⟨its, rv, pt, hz⟩ := I1.tuple hq
    exact wpAny_pyIter_tuple (show s1.heap.IsTuple a its.toArray from pt) (newIter I1 (turn_tuple a _) ⟨_, Heap.get?_push_size _ rfl, rfl, rfl⟩ q)
def wItS (w : WEx) : WIt := fun ρ h R RX => w ρ h (fun x h1 => (∃ ts, asT x = some ts ∧ R ts (fun _ => True) h1) ∨ (∃ ts, x = .lst ts ∧ R ts (fun _ => True) h1) ∨ (∃ ts, x = .scr ts ∧ R ts (fun _ => True) h1) ∨ ∃ n ts, x = .ref n ∧ h1[n]? = some (.lst ts) ∧ R ts (fun h' => h'[n]? = some (.lst ts)) h1) RX
theorem itt_rel {a : Addr} {ts : List T} {P : AH → Prop} {S0 : AS} {H0 : Hp} (hs : ∀ S' h' H', Ext S0 H0 S' H' → HRel X.K X.mg S' h' H' → P h' → ∃ us, SqT X.K H' a us ∧ RelTs X.K S' ts us) : ItRel X (Itt X.K a) ts P S0 H0 := fun i S' h' H' e r hP => by
  obtain ⟨us, q, rs⟩ := hs S' h' H' e r hP
  refine ⟨fun t ht => ?_, fun hl => ⟨us, q, by rw [← rs.length]; exact hl⟩⟩
  obtain ⟨u, hu, ru⟩ := rs.get ht
  refine ⟨⟨us, u, q, hu⟩, fun x H'' ⟨e1, y⟩ => ?_⟩
  subst e1
  have := y us q
  rw [hu] at this
  cases this
  exact ⟨S', Ext.refl _ _, r, ru⟩
theorem si_seq (ha : SE X W e w) : SI X W tg e (wItS w) := PI.imp (pi_seq ha) fun σ H Q ⟨S, ρ, h, R, RX, ar, hr, hw, hR, hX⟩ => by
  refine ⟨S, ρ, h, _, RX, ar, hr, hw, fun x h1 q1 S1 u H1 E1 R1 rx => ?_, hX⟩
  have frz : ∀ ts, asL h1 x = some ts → (∀ h', asL h' x = some ts) → R ts (fun _ => True) h1 → ∃ a, u = V.ref a ∧ (((∃ xs, SqL X.K H1 a xs) ∧ Q (Itl X.K a) H1) ∨ ((∃ xs, SqT X.K H1 a xs) ∧ Q (Itt X.K a) H1)) := fun ts e1 e2 q => by
    obtain ⟨a, us, rfl, h2, r2⟩ := asL_rel R1 rx e1
    refine ⟨a, rfl, .inl ⟨⟨us, h2⟩, hR ts _ h1 q S1 H1 _ E1 R1 (itl_rel (us := us) fun S' h' H' e r _ => ?_)⟩⟩
    obtain ⟨a', us', e3, h3, r3⟩ := asL_rel r (rx.mono e.sub) (e2 h')
    cases e3
    exact ⟨us', h3, r3⟩
  rcases q1 with ⟨ts, et, q⟩ | ⟨ts, rfl, q⟩ | ⟨ts, rfl, q⟩ | ⟨n, ts, rfl, hn, q⟩
  · obtain ⟨a, us, rfl, h2, r2⟩ := asT_rel R1 rx (ts := ts) et
    refine ⟨a, rfl, .inr ⟨⟨us, h2⟩, hR ts _ h1 q S1 H1 _ E1 R1 (itt_rel fun S' h' H' e r _ => ?_)⟩⟩
    obtain ⟨a', us', e1, h3, r3⟩ := asT_rel r (rx.mono e.sub) (ts := ts) et
    cases e1
    exact ⟨us', h3, r3⟩
  · exact frz ts rfl (fun _ => rfl) q
  · exact frz ts rfl (fun _ => rfl) q
  · simp only [RelT] at rx
    obtain ⟨hk, rfl⟩ := rx
    obtain ⟨us, h2, r2⟩ := R1.c n _ hn
    refine ⟨_, rfl, .inl ⟨⟨us, .of h2⟩, hR ts _ h1 q S1 H1 _ E1 R1 (itl_rel (us := us) fun S' h' H' e r hP => ?_)⟩⟩
    obtain ⟨us', h3, r3⟩ := r.c n _ hP
    rw [e.m n hk] at h3
    exact ⟨us', .of h3, r3⟩

def wFrz (w : WEx) : WEx := fun ρ h R RX => w ρ h (fun x h1 => ∃ n ts, x = .ref n ∧ h1[n]? = some (.lst ts) ∧ R (.lst ts) (h1.set n .dead)) RX
theorem se_frz (he : SE X W e w) : SE X W e (wFrz w) := PE.imp he fun σ H Q ⟨S, ρ, h, R, RX, ar, hr, hw, hR, hX⟩ => by
  refine ⟨S, ρ, h, _, RX, ar, hr, hw, fun x h1 q1 S1 u H1 E1 R1 rx => ?_, hX⟩
  obtain ⟨n, ts, rfl, hn, q⟩ := q1
  simp only [RelT] at rx
  obtain ⟨_, rfl⟩ := rx
  obtain ⟨S2, R2, E2, r2⟩ := R1.freeze hn
  exact hR _ _ q S2 _ H1 (E1.trans E2) R2 r2

def wListC (wr : WAr) : WEx := fun ρ h R RX => wr ρ h (fun ts h1 => ∃ t xs, ts = [t] ∧ asQ h1 t = some xs ∧ R (.ref h1.length) (h1 ++ [.lst xs])) RX
theorem se_listC (hm : X.mg "list" = none) (ha : SA X W (e :: es) wr) (hg : Gl X "list" := by rfl) (he : starEach (e :: es) X.env = (false, eval e X.env) :: starEach es X.env := by rfl) (hpl : (backTo pos (starEach es X.env)).any (·.1) = false := by rfl) :
    SE X W (.Call (.Name "list" p) (e :: es) [] pos) (wListC wr) := PE.imp (pe_callTy call_list_of hg hm (by decide +kernel) ha (by decide) (by decide) he hpl) fun σ H Q ⟨S, ρ, h, R, RX, ar, hr, hw, hR, hX⟩ => by
  refine ⟨S, ρ, h, _, RX, ar, hr, hw, fun ts h1 q1 S1 us H1 E1 R1 rs => ?_, hX⟩
  obtain ⟨t, xs, rfl, e1, q⟩ := q1
  obtain ⟨u, rfl, r⟩ := rel1 rs
  obtain ⟨a, vs, rfl, l, r1⟩ := asQ_rel R1 r e1
  exact ⟨a, vs, rfl, l, new_cell R1 r1 fun S' v H' e2 => hR _ _ q S' v H' (E1.trans e2)⟩
theorem rgV_rel {K : PySem.W.Frag} (i j : Int) : RelTs K S (rangeT i (j - i).toNat) (rgV i j) := by
  unfold rangeT rgV
  have : ∀ l : List Nat, RelTs K S (l.map fun (n : Nat) => T.int (i + n)) (l.map fun n => V.int (i + (n : Nat))) := fun l => by
    induction l with
    | nil => exact .nil
    | cons n l ih => exact .cons (by simp [RelT]) ih
  exact this _
abbrev WRg := Rho → AH → (Int → Int → AH → Prop) → XC → Prop
def wR1 (w : WEx) : WRg := fun ρ h R RX => w ρ h (fun x h1 => ∃ n, x = .int n ∧ R 0 n h1) RX
def wR2 (w u : WEx) : WRg := fun ρ h R RX => w ρ h (fun x h1 => u ρ h1 (fun y h2 => ∃ i j, x = .int i ∧ y = .int j ∧ R i j h2) RX) RX
def tWRg (X : Cx) (W : WX) (w : WRg) : L2.St → Hp → (Int → Int → Hp → Prop) → Prop := fun σ H Q => ∃ S ρ h R RX, ARel X.K S ρ σ ∧ HRel X.K X.mg S h H ∧ w ρ h R RX ∧ (∀ i j h', R i j h' → ∀ S' H', Ext S H S' H' → HRel X.K X.mg S' h' H' → Q i j H') ∧ XOk X W S H σ RX
abbrev SRg (X : Cx) (W : WX) (e : Expr) (w : WRg) : Prop := PRg X e (tWRg X W w)
theorem PRg.imp {t t' : L2.St → Hp → (Int → Int → Hp → Prop) → Prop} (h : PRg X e t) (i : ∀ σ H Q, t' σ H Q → t σ H Q) : PRg X e t' := fun pins s σ H Q I q => h pins s σ H Q I (i σ H Q q)
theorem srg_1 (hm : X.mg "range" = none) (ha : SE X W a wa) (hg : Gl X "range" := by rfl) (na : starEach [a] X.env = (false, eval a X.env) :: starEach [] X.env := by rfl) : SRg X W (.Call (.Name "range" p) [a] [] pos) (wR1 wa) :=
  PRg.imp (prg_1 hg hm ha na) fun σ H Q ⟨S, ρ, h, R, RX, ar, hr, hw, hR, hX⟩ => by
    refine ⟨S, ρ, h, _, RX, ar, hr, hw, fun x h1 q1 S1 u H1 E1 R1 rx => ?_, hX⟩
    obtain ⟨n, rfl, q⟩ := q1
    simp only [RelT] at rx
    exact ⟨n, rx, hR _ _ h1 q S1 H1 E1 R1⟩
/-- tuple(range(..)) -/
def rgOk (a b : Int) : Bool := decide (-(2 ^ 62) ≤ a ∧ a < 2 ^ 62 ∧ -(2 ^ 62) ≤ b ∧ b < 2 ^ 62 ∧ (b - a).toNat ≤ 2 ^ 24)
theorem rgOk_ok {a b : Int} (h : rgOk a b = true) : RgOk a b := by
  unfold rgOk at h
  exact (decide_eq_true_iff (p := (-(2 ^ 62) ≤ a ∧ a < 2 ^ 62 ∧ -(2 ^ 62) ≤ b ∧ b < 2 ^ 62 ∧ (b - a).toNat ≤ 2 ^ 24))).mp h
def wTupRg (w : WRg) : WEx := fun ρ h R RX => w ρ h (fun i j h1 => rgOk i j = true ∧ R (.tup (rangeT i (j - i).toNat)) h1) RX
theorem se_tupRg {wg : WRg} (hm : X.mg "tuple" = none) (he : SRg X W e wg) (hc : X.calm = true := by rfl) (hg : Gl X "tuple" := by rfl) (na : starEach [e] X.env = (false, eval e X.env) :: starEach [] X.env := by rfl) : SE X W (.Call (.Name "tuple" p) [e] [] pos) (wTupRg wg) :=
  PE.imp (pe_tupRg hc hg hm he na) fun σ H Q ⟨S, ρ, h, R, RX, ar, hr, hw, hR, hX⟩ => by
    refine ⟨S, ρ, h, _, RX, ar, hr, hw, fun i j h1 q1 S1 H1 E1 R1 => ⟨rgOk_ok q1.1, ?_⟩, hX⟩
    exact new_tup R1 (rgV_rel i j) fun S' v H' e2 => hR _ _ q1.2 S' v H' (E1.trans e2)
def wLstRgC (w : WRg) : WEx := fun ρ h R RX => w ρ h (fun i j h1 => rgOk i j = true ∧ R (.ref h1.length) (h1 ++ [.lst (rangeT i (j - i).toNat)])) RX
theorem se_lstRgC {wg : WRg} (hm : X.mg "list" = none) (he : SRg X W e wg) (hc : X.calm = true := by rfl) (hg : Gl X "list" := by rfl) (na : starEach [e] X.env = (false, eval e X.env) :: starEach [] X.env := by rfl) : SE X W (.Call (.Name "list" p) [e] [] pos) (wLstRgC wg) :=
  PE.imp (pe_listRg hc hg hm he na) fun σ H Q ⟨S, ρ, h, R, RX, ar, hr, hw, hR, hX⟩ => by
    refine ⟨S, ρ, h, _, RX, ar, hr, hw, fun i j h1 q1 S1 H1 E1 R1 => ⟨rgOk_ok q1.1, ?_⟩, hX⟩
    exact new_cell R1 (rgV_rel i j) fun S' v H' e2 => hR _ _ q1.2 S' v H' (E1.trans e2)

end
section
variable {prog : Program} {w : World} {A : Around} {E : Value → Shared → Prop} {s : Shared}
theorem back_run (sl : Addr) (t : Tok) {n : Nat} {Q : Int × Int × Nat → Shared → Prop} (hs : s.heap.IsSliceOf sl .none .none (.int (-1) t)) (h : Q (((n : Nat) : Int) - 1, -1, n) s) :
    wpAny (model prog w) A (Builtin.Slice.sliceApplied (.ref sl) (pure (n : Int))) Q E s := by
  obtain ⟨os, ho, hc, hd⟩ := id hs
  unfold Builtin.Slice.sliceApplied Builtin.Slice.sliceFields
  refine wpAny_bind (wpAny_bind (wpAny_field ho hd (x := .none) rfl (wpAny_bind (wpAny_field ho hd (x := .none) rfl (wpAny_bind (wpAny_field ho hd (x := .int (-1) t) rfl (wpAny_pure ?_)))))))
  refine wpAny_bind (HT.slicePart_ (.int _ _) ?_)
  show wpAny _ _ (if ((-1 : Int) == 0) = true then _ else _) _ _ s
  rw [if_neg (by decide)]
  refine wpAny_bind (slicePart_none (wpAny_bind (slicePart_none (wpAny_bind (wpAny_pure ?_)))))
  show wpAny _ _ (match Builtin.Slice.sliceAdjust none none (-1) (n : Int) with | (lo, hi) => pure (lo, (-1 : Int), Builtin.Slice.slicePlaces lo hi (-1))) _ _ s
  have e1 : Builtin.Slice.sliceAdjust none none (-1) (n : Int) = ((n : Int) - 1, -1) := by unfold Builtin.Slice.sliceAdjust; simp
  have e2 : Builtin.Slice.slicePlaces ((n : Int) - 1) (-1) (-1) = n := by unfold Builtin.Slice.slicePlaces; simp; omega
  rw [e1]
  show wpAny _ _ (pure ((n : Int) - 1, (-1 : Int), Builtin.Slice.slicePlaces ((n : Int) - 1) (-1) (-1))) _ _ s
  rw [e2]
  exact wpAny_pure h
theorem pick_back (xs : Array Value) : ((List.range xs.size).filterMap fun (m : Nat) => xs[(((xs.size : Nat) : Int) - 1 + (m : Int) * -1).toNat]?).toArray = xs.toList.reverse.toArray := by
  have e : ∀ l : List Nat, (∀ m ∈ l, m < xs.size) → (l.filterMap fun (m : Nat) => xs[(((xs.size : Nat) : Int) - 1 + (m : Int) * -1).toNat]?) = l.filterMap fun m => xs[xs.size - 1 - m]? := fun l hl => by
    induction l with
    | nil => rfl
    | cons m l ih =>
      have := hl m List.mem_cons_self
      simp only [List.filterMap_cons]
      rw [show (((xs.size : Nat) : Int) - 1 + (m : Int) * -1).toNat = xs.size - 1 - m by omega, ih fun k hk => hl k (List.mem_cons_of_mem _ hk)]
  rw [e _ fun m hm => List.mem_range.mp hm]
  have := PySem.W.krv_all xs
  have e3 : (List.range xs.size).filterMap (fun m => xs[xs.size - 1 - m]?) = ((List.range xs.size).map fun m => xs.size - 1 - m).filterMap (xs[·]?) := by
    rw [List.filterMap_map]; rfl
  rw [e3, PySem.W.krv_range, List.filterMap_reverse, this]
theorem getItem_back {t sl : Addr} {tk : Tok} {items : Array Value} {Q : Value → Shared → Prop} (ht : IsTup s.heap t items) (hs : s.heap.IsSliceOf sl .none .none (.int (-1) tk))
    (h : Q (.ref s.heap.objs.size) { s with heap := s.heap.push { cls := .type "tuple", data := .seq items.toList.reverse.toArray } }) (hz : items.size ≤ sizeLine) : wpAny (model prog w) A (getItem (.ref t) (.ref sl)) Q E s := by
  have hsz : sizeOk (.seq items.toList.reverse.toArray) := by
    show items.toList.reverse.toArray.size ≤ sizeLine
    rw [List.size_toArray, List.length_reverse, Array.length_toList]; exact hz
  obtain ⟨os, ho, hc, hd⟩ := id hs
  have hT : s.TypeIs (.ref sl) "slice" := ⟨os, ho, hc⟩
  unfold getItem
  try with_reducible refine wpAny_holding ?_
  first | refine wpAny_bind (wpAny_pure ?_) | skip
  refine wpAny_bind (wpAny_sequenceKey ht.typeIs (by decide) ?_)
  refine wpAny_bind (wpAny_callSpecial?_slot (name := Str.ofString "__getitem__") ht.typeIs PyProof.Rows.slot_tuple_getitem (wpAny_call_entry PyProof.Rows.slot_tuple_getitem ht.typeIs entry_tuple_getitem ?_ (args_tuple_getitem _ _)))
  show wpAny _ _ (Builtin.Tuple.tupleItemsOf (.ref t) >>= _) _ _ s
  refine wpAny_bind (tupleItemsOf_ ht (wpAny_bind (wpAny_typeOf hT ?_)))
  rw [if_pos (by decide)]
  refine wpAny_bind (back_run sl tk hs ?_)
  have no : ¬ (((((items.size : Nat) : Int) - 1) == 0 && (-1 : Int) == 1 && items.size == items.size) = true) := by simp
  show wpAny _ _ (if ((((items.size : Nat) : Int) - 1) == 0 && (-1 : Int) == 1 && items.size == items.size) = true then _ else _) _ _ s
  rw [if_neg no, pick_back]
  first
    | exact wpAny_bind (m := Builtin.Tuple.tupleExact _) (wpAny_newObj_type (wpAny_pure ⟨_, rfl, wpAny_pure h⟩) hsz)
    | exact wpAny_bind (m := Builtin.Tuple.tupleExact _) (wpAny_newObj_type (wpAny_bind (wpAny_pure (wpAny_pure ⟨_, rfl, wpAny_pure h⟩))) hsz)
    | exact wpAny_bind (wpAny_bind (m := Builtin.Tuple.tupleExact _) (wpAny_newObj_type (wpAny_pure (wpAny_pure ⟨_, rfl, wpAny_pure h⟩)) hsz))
    | exact wpAny_bind (wpAny_bind (m := Builtin.Tuple.tupleExact _) (wpAny_newObj_type (wpAny_pure ⟨_, rfl, wpAny_pure h⟩) hsz))
end
section
variable {X : Cx} {W : WX} {σ : L2.St} {S S' : AS} {H H' : Hp} {e a b c o tg l : Expr} {es : List Expr} {w wa wb wo : WEx} {pos p p1 p2 p3 apos cpos : Pos} {wr : WAr} {x : Str}
def tRevA (K : PySem.W.Frag) (te : TE) : TE := fun σ H Q => te σ H fun x H1 => ∃ a xs, x = .ref a ∧ ((SqT K H1 a xs ∧ ∀ p, H1 p = none → Q (.ref p) (upd H1 p (.tup xs.reverse))) ∨ (SqL K H1 a xs ∧ ∀ p, H1 p = none → Q (.ref p) (upd H1 p (.lst xs.reverse))))
/-- t[::-1], a list or a tuple -/
theorem pe_revA {te : TE} {k : Nat} (he : PE X e te) : PE X (.Subscript e (.Slice none none (some (.UnaryOp .USub (.Constant (.int 1) k p1) p2)) p3) pos) (tRevA X.K te) := by
  refine ⟨fun pins s σ H Q I h => Subscript_ (thn (he.run pins s σ H _ I h) fun v s1 ⟨x, H1, I1, r1, a, xs, ex, q⟩ => ?_)⟩
  subst ex
  cases r1
  have hneg : PE X (.UnaryOp .USub (.Constant (.int 1) k p1) p2) _ := pe_un un_neg pe_int
  refine wpAny_Slice ?_
  rw [evalPart_none]
  refine wpAny_pure (wpAny_pure ?_)
  refine thn ((po_some hneg).run pins s1 σ H1 (fun o H4 => o = some (-1) ∧ H4 = H1) I1 ⟨1, rfl, -1, rfl, rfl, rfl⟩) fun vs s4 ⟨o, H4, I4, ps, eo, e4⟩ => ?_
  subst eo e4
  cases ps with
  | int _ tk =>
    have I5 : Inv X pins σ H4 { s4 with heap := s4.heap.push { cls := .type "slice", data := .fields #[.none, .none, .int (-1) tk] } } := I4.kept (t' := s4.toks) fun b ob q => Heap.get?_push_of_some _ q
    show wpAny (model X.prog X.w) X.A (subscriptTail e (.Slice none none (some (.UnaryOp .USub (.Constant (.int 1) k p1) p2)) p3) (.ref a) (.ref s4.heap.objs.size)) (EP X pins σ Q) X.xe { s4 with heap := s4.heap.push { cls := .type "slice", data := .fields #[.none, .none, .int (-1) tk] } }
    rcases q with ⟨hx, q⟩ | ⟨hx, q⟩
    · obtain ⟨its, r, ht, hz⟩ := I5.tuple hx
      have hl := r.length
      refine tail_any (ops := [.ref a, .ref s4.heap.objs.size]) ht.typeIs (PyProof.Rows.slot_tuple_getitem.lookup) ?_ (by with_unfolding_all rfl)
      refine getItem_back ht (Heap.IsSliceOf.new _ .none .none (.int (-1) tk)) ?_ (by rw [List.size_toArray, ← hl]; exact hz)
      refine ⟨.ref _, _, I5.laid (t' := s4.toks) (o := .tup xs.reverse) (fun b ob q => Heap.get?_push_of_some _ q) (Nat.le_refl _) ?_, rfl, q _ (I5.hok.fresh (Nat.le_refl _))⟩
      exact ⟨by rw [List.length_reverse]; exact hz, _, r.reverse, IsTup.new _ _⟩
    · obtain ⟨its, r, ht, hz⟩ := I5.list hx
      have hl := r.length
      refine tail_any (ops := [.ref a, .ref s4.heap.objs.size]) ht.isList.typeIs (PySem.slot_list_getitem.lookup) ?_ (by with_unfolding_all rfl)
      refine wpAny_getItem_list_slice ht.isList (Heap.IsSliceOf.new _ .none .none (.int (-1) tk)) .none .none (.int _ _) (by decide) ?_ (by rw [List.size_toArray]; omega)
      rw [PySem.W.krv_pick]
      refine ⟨.ref _, _, I5.laid (t' := s4.toks) (o := .lst xs.reverse) (fun b ob q => Heap.get?_push_of_some _ q) (Nat.le_refl _) ?_, rfl, q _ (I5.hok.fresh (Nat.le_refl _))⟩
      exact ⟨by rw [List.length_reverse]; exact hz, _, 0, r.reverse, Heap.get?_push_size _ rfl⟩
def revT (h : AH) : T → Option T
  | .tup xs => some (.tup xs.reverse)
  | t => (asL h t).map fun xs => .lst xs.reverse
def wRev (w : WEx) : WEx := fun ρ h R RX => w ρ h (fun x h1 => ∃ z, revT h1 x = some z ∧ R z h1) RX
theorem se_rev {k : Nat} (he : SE X W e w) : SE X W (.Subscript e (.Slice none none (some (.UnaryOp .USub (.Constant (.int 1) k p1) p2)) p3) pos) (wRev w) :=
  PE.imp (pe_revA he) fun σ H Q ⟨S, ρ, h, R, RX, ar, hr, hw, hR, hX⟩ => by
    refine ⟨S, ρ, h, _, RX, ar, hr, hw, fun x h1 q1 S1 u H1 E1 R1 rx => ?_, hX⟩
    obtain ⟨z, ez, q⟩ := q1
    unfold revT at ez
    split at ez
    · cases ez
      obtain ⟨a, us, rfl, h2, r2⟩ := asT_rel R1 rx rfl
      exact ⟨a, us, rfl, .inl ⟨h2, new_tup R1 r2.reverse fun S' v H' e2 => hR _ _ q S' v H' (E1.trans e2)⟩⟩
    · simp only [Option.map_eq_some_iff] at ez
      obtain ⟨xs, e1, rfl⟩ := ez
      obtain ⟨a, us, rfl, h2, r2⟩ := asL_rel R1 rx e1
      exact ⟨a, us, rfl, .inr ⟨h2, new_lst R1 r2.reverse fun S' v H' e2 => hR _ _ q S' v H' (E1.trans e2)⟩⟩

def wDict0 : WEx := fun _ h R _ => R (.ref h.length) (h ++ [.dct []])
theorem se_dict0 : SE X W (.Dict [] [] pos) wDict0 := PE.imp pe_dnewK fun σ H Q ⟨S, ρ, h, R, RX, ar, hr, hw, hR, hX⟩ p hp => by
  obtain ⟨R', E⟩ := hr.cell (o := .dK []) (c := .dct []) hp ⟨[], rfl, upd_same, .nil⟩
  exact hR _ _ hw _ _ _ E R' (by simp only [RelT]; exact ⟨by show h.length < S.k + 1; rw [hr.k]; exact Nat.lt_succ_self _, by rw [← hr.k, AS.more_at]⟩)
/-- keys that are tuples -/
def wDict0T : WEx := fun _ h R _ => R (.ref h.length) (h ++ [.dtt []])
theorem se_dict0T : SE X W (.Dict [] [] pos) wDict0T := PE.imp pe_dnewT fun σ H Q ⟨S, ρ, h, R, RX, ar, hr, hw, hR, hX⟩ p hp => by
  obtain ⟨R', E⟩ := hr.cell (o := .dT []) (c := .dtt []) hp ⟨[], rfl, upd_same, .nil⟩
  exact hR _ _ hw _ _ _ E R' (by simp only [RelT]; exact ⟨by show h.length < S.k + 1; rw [hr.k]; exact Nat.lt_succ_self _, by rw [← hr.k, AS.more_at]⟩)
/-- one written int key and value -/
def wDictII (i j : Int) : WEx := fun _ h R _ => R (.ref h.length) (h ++ [.dct [(.inl i, .int j)]])
theorem se_dictII {i j : Int} {k1 k2 : Nat} : SE X W (.Dict [some (.Constant (.int i) k1 p1)] [.Constant (.int j) k2 p2] pos) (wDictII i j) :=
  PE.imp (pe_disp (pps_cons pe_int pe_int pps_nil) rfl rfl (fun z => by cases z) (by show 1 ≤ 15; decide)) fun σ H Q ⟨S, ρ, h, R, RX, ar, hr, hw, hR, hX⟩ p hp => by
    refine ⟨upd_same, [(.inl i, .int j)], rfl, by show 1 ≤ 15; decide, ?_⟩
    rw [upd_upd]
    obtain ⟨R', E⟩ := hr.cell (o := .dK (mergeK [] [(.inl i, .int j)])) (c := .dct [(.inl i, .int j)]) hp ⟨[.int j], rfl, upd_same, .cons (by simp [RelT]) .nil⟩
    exact hR _ _ hw _ _ _ E R' (by simp only [RelT]; exact ⟨by show h.length < S.k + 1; rw [hr.k]; exact Nat.lt_succ_self _, by rw [← hr.k, AS.more_at]⟩)
def wTB (w : WEx) : WTe := fun ρ h R RX => w ρ h (fun x h1 => ∃ k, x = .bl k ∧ R k h1) RX
theorem st_cmp {op : CmpOp} {f : Op2} (ho : OpR X (compareOp op) (rO X.K X.mg f)) (ha : SE X W a wa) (hb : SE X W b wb) (hm : behindInMarks op b = false := by first | exact nomark _ | rfl | with_unfolding_all rfl) : ST X W (.Compare a [op] [b] pos) (wTB (wBin f wa wb)) :=
  PT.imp (pt_cmpR ho ha hb hm) fun σ H Q ⟨S, ρ, h, R, RX, ar, hr, hw, hR, hX⟩ => by
    have q : tW X W (wBin f wa wb) σ H fun x H' => ∃ k, x = .bl k ∧ Q k H' := ⟨S, ρ, h, _, RX, ar, hr, hw, fun x h1 q1 S1 u H1 E1 R1 rx => by
      obtain ⟨k, rfl, q⟩ := q1
      simp only [RelT] at rx
      exact ⟨k, rx, hR k h1 q S1 H1 E1 R1⟩, hX⟩
    exact tW_bin q
theorem st_chain {op op' : CmpOp} {f g : Op2} (ho : OpR X (compareOp op) (rO X.K X.mg f)) (ho' : OpR X (compareOp op') (rO X.K X.mg g)) (ha : SE X W a wa) (hb : SE X W b wb) (hc : SE X W c w)
    (hm : lastMarks [op, op'] [b, c] = false := by with_unfolding_all rfl) : ST X W (.Compare a [op, op'] [b, c] pos) (wTB (wChain f g wa wb w)) :=
  PT.imp (pt_chain ho ho' ha hb hc hm) fun σ H Q ⟨S, ρ, h, R, RX, ar, hr, hw, hR, hX⟩ =>
    tW_chain ⟨S, ρ, h, _, RX, ar, hr, hw, fun x h1 q1 S1 u H1 E1 R1 rx => by
      obtain ⟨k, rfl, q⟩ := q1
      simp only [RelT] at rx
      exact ⟨k, rx, hR k h1 q S1 H1 E1 R1⟩, hX⟩
end
end TL

namespace TL
open PySem PySem.Spec PyProof.Rows L2
section
variable {P : Program} {w : World} {K : PySem.W.Frag} {mg : Str → Option Value} {S : AS} {h : AH} {H : Hp} {hp : Heap}
mutual
theorem nk_is (hr : HRel K mg S h H) (ok : HOk P w H hp) : ∀ {t : T} {v : V} {u : Value} {k : NestedKey}, RelT K S t v → RelV v u → toNK t = some k → NestedIs hp k u
  | .non, v, u, k, r, rv, e => by
    simp only [RelT] at r; subst r
    simp only [toNK, Option.some.injEq] at e; subst e
    cases (show u = Value.none from rv)
    exact .none
  | .bl b, v, u, k, r, rv, e => by
    simp only [RelT] at r; subst r
    simp only [toNK, Option.some.injEq] at e; subst e
    cases (show u = Value.bool b from rv)
    exact .bool rfl
  | .int i, v, u, k, r, rv, e => by
    simp only [RelT] at r; subst r
    simp only [toNK, Option.some.injEq] at e; subst e
    obtain ⟨t, rfl⟩ := (show ∃ t, u = Value.int i t from rv)
    exact .int _ _
  | .str _, _, _, _, _, _, e => by simp [toNK] at e
  | .lst _, _, _, _, _, _, e => by simp [toNK] at e
  | .scr _, _, _, _, _, _, e => by simp [toNK] at e
  | .ref _, _, _, _, _, _, e => by simp [toNK] at e
  | .edi, _, _, _, _, _, e => by simp [toNK] at e
  | .fdt _ _, _, _, _, _, _, e => by simp [toNK] at e
  | .fst _, _, _, _, _, _, e => by simp [toNK] at e
  | .kt _, _, _, _, _, _, e => by simp [toNK] at e
  | .fv _, _, _, _, _, _, e => by simp [toNK] at e
  | .ftp _, _, _, _, _, _, e => by simp [toNK] at e
  | .tup ts, v, u, k, r, rv, e => by
    simp only [RelT] at r
    obtain ⟨a, us, rfl, q, r⟩ := r
    simp only [toNK] at e
    obtain ⟨ks, e2, rfl⟩ := Option.map_eq_some_iff.mp e
    cases (show u = Value.ref a from rv)
    obtain ⟨_, its, rr, o, h1, h2, n, h3⟩ := (show ObjOk P w H hp a (.tup us) from ok a _ (hr.g _ _ q))
    exact .tup h1 h2 h3 (by simpa using nks_is hr ok r rr e2)
theorem nks_is (hr : HRel K mg S h H) (ok : HOk P w H hp) : ∀ {ts : List T} {vs : List V} {us : List Value} {ks : List NestedKey}, RelTs K S ts vs → Vals vs us → toNKs ts = some ks → NestedAll hp ks us
  | [], vs, us, ks, r, rv, e => by
    simp only [RelTs] at r; subst r
    cases rv
    simp only [toNKs, Option.some.injEq] at e; subst e
    exact .nil
  | t :: ts, vs, us, ks, r, rv, e => by
    simp only [RelTs] at r
    obtain ⟨v, r', rfl, r1, r2⟩ := r
    cases rv with
    | cons q1 q2 =>
      simp only [toNKs] at e
      split at e
      · rename_i k ks' e1 e2
        cases e
        exact .cons (nk_is hr ok r1 q1 e1) (nks_is hr ok r2 q2 e2)
      · cases e
end
mutual
theorem nk_hash (w w' : World) : ∀ {t : T} {k : NestedKey}, toNK t = some k → k.hash w = k.hash w'
  | .non, _, e => by simp only [toNK, Option.some.injEq] at e; subst e; rfl
  | .bl _, _, e => by simp only [toNK, Option.some.injEq] at e; subst e; rfl
  | .int _, _, e => by simp only [toNK, Option.some.injEq] at e; subst e; rfl
  | .str _, _, e => by simp [toNK] at e
  | .lst _, _, e => by simp [toNK] at e
  | .scr _, _, e => by simp [toNK] at e
  | .ref _, _, e => by simp [toNK] at e
  | .edi, _, e => by simp [toNK] at e
  | .fdt _ _, _, e => by simp [toNK] at e
  | .fst _, _, e => by simp [toNK] at e
  | .kt _, _, e => by simp [toNK] at e
  | .fv _, _, e => by simp [toNK] at e
  | .ftp _, _, e => by simp [toNK] at e
  | .tup ts, _, e => by
    simp only [toNK] at e
    obtain ⟨ks, e2, rfl⟩ := Option.map_eq_some_iff.mp e
    simp only [NestedKey.hash, nks_hash w w' e2]
theorem nks_hash (w w' : World) : ∀ {ts : List T} {ks : List NestedKey}, toNKs ts = some ks → NestedKey.hashes w ks = NestedKey.hashes w' ks
  | [], _, e => by simp only [toNKs, Option.some.injEq] at e; subst e; rfl
  | t :: ts, _, e => by
    simp only [toNKs] at e
    split at e
    · rename_i k ks' e1 e2
      cases e
      simp only [NestedKey.hashes, nk_hash w w' e1, nks_hash w w' e2]
    · cases e
end
/-- the tuple at b is the key k, as long as it is tracked -/
def KeyAt (H : Hp) (b : Addr) (k : NestedKey) : Prop := k.depth ≤ 8 ∧ (∀ w w' : World, k.hash w = k.hash w') ∧ ∀ (P : Program) (w : World) (hp : Heap), HOk P w H hp → NestedIs hp k (.ref b)
theorem key_at (hr : HRel K mg S h H) {t : T} {v : V} {k : NestedKey} (r : RelT K S t v) (e : nkOf t = some k) (ht : ∃ ts, t = .tup ts) : ∃ b, v = .ref b ∧ KeyAt H b k := by
  obtain ⟨e1, e2⟩ := nkOf_some e
  obtain ⟨ts, rfl⟩ := ht
  have r0 := r
  simp only [RelT] at r
  obtain ⟨a, us, rfl, q, _⟩ := r
  exact ⟨a, rfl, e2, fun w w' => nk_hash w w' e1, fun P w hp ok => nk_is hr ok r0 rfl e1⟩
end

abbrev ZY : List (NestedKey × Addr × V) → List (NestedKey × Addr × Value) → Prop := Paired fun p q => p.1 = q.1 ∧ p.2.1 = q.2.1 ∧ RelV p.2.2 q.2.2
def valZ (zs : List (NestedKey × Addr × V)) (k : NestedKey) : Option V := (zs.find? fun z => decide (z.1 = k)).map fun z => z.2.2
def putZ (zs : List (NestedKey × Addr × V)) (k : NestedKey) (b : Addr) (v : V) : List (NestedKey × Addr × V) :=
  if zs.any fun z => decide (z.1 = k) then zs.map fun z => if z.1 = k then (z.1, z.2.1, v) else z else zs ++ [(k, b, v)]
theorem ZY.val {zs : List (NestedKey × Addr × V)} {ys : List (NestedKey × Addr × Value)} (r : ZY zs ys) (k : NestedKey) : RelO (valZ zs k) ((atKey ys k).map (·.2)) := by
  induction r with
  | nil => exact True.intro
  | @cons p q ps qs h t ih =>
    obtain ⟨h1, _, h2⟩ := h
    by_cases e : p.1 = k
    · have e' : q.1 = k := h1.symm.trans e
      have a : valZ (p :: ps) k = some p.2.2 := by simp [valZ, List.find?_cons, e]
      have b : atKey (q :: qs) k = some q.2 := by simp [atKey, List.find?_cons, e']
      rw [a, b]; exact h2
    · have e' : ¬ q.1 = k := fun z => e (h1.trans z)
      have a : valZ (p :: ps) k = valZ ps k := by simp [valZ, List.find?_cons, e]
      have b : atKey (q :: qs) k = atKey qs k := by simp [atKey, List.find?_cons, e']
      rw [a, b]; exact ih
theorem any_val {zs : List (NestedKey × Addr × V)} {k : NestedKey} : (zs.any fun z => decide (z.1 = k)) = (valZ zs k).isSome := by
  unfold valZ
  rw [Option.isSome_map]
  induction zs with
  | nil => rfl
  | cons z zs ih =>
    by_cases e : z.1 = k
    · simp [e]
    · simp [e, ih]
theorem ZY.repl {zs : List (NestedKey × Addr × V)} {ys : List (NestedKey × Addr × Value)} (r : ZY zs ys) (k : NestedKey) {v : V} {u : Value} (rv : RelV v u) : ZY (zs.map fun z => if z.1 = k then (z.1, z.2.1, v) else z) (ys.map (putAt k u)) := by
  induction r with
  | nil => exact .nil
  | @cons p q ps qs h t ih =>
    rw [List.map_cons, List.map_cons]
    refine .cons ?_ ih
    obtain ⟨h1, h2, h3⟩ := h
    unfold putAt
    by_cases e : p.1 = k
    · rw [if_pos e, if_pos (h1.symm.trans e)]; exact ⟨h1, h2, rv⟩
    · rw [if_neg e, if_neg (fun z => e (h1.trans z))]; exact ⟨h1, h2, h3⟩
theorem ZY.put {zs : List (NestedKey × Addr × V)} {ys : List (NestedKey × Addr × Value)} (r : ZY zs ys) (k : NestedKey) {b : Addr} {v : V} {u : Value} (rv : RelV v u) : ZY (putZ zs k b v) (storedH ys k b u) := by
  have e : (zs.any fun z => decide (z.1 = k)) = (atKey ys k).isSome := by
    rw [any_val, (r.val k).isSome_eq, Option.isSome_map]
  unfold putZ storedH
  rw [e]
  split
  · exact r.repl k rv
  · exact Paired.snoc r ⟨rfl, rfl, rv⟩
theorem length_putZ (zs : List (NestedKey × Addr × V)) (k : NestedKey) (b : Addr) (v : V) : (putZ zs k b v).length ≤ zs.length + 1 := by
  unfold putZ; split <;> simp
theorem mem_putZ {zs : List (NestedKey × Addr × V)} {k : NestedKey} {b : Addr} {v : V} {z : NestedKey × Addr × V} (h : z ∈ putZ zs k b v) : (∃ z' ∈ zs, z.1 = z'.1 ∧ z.2.1 = z'.2.1) ∨ (z.1 = k ∧ z.2.1 = b) := by
  unfold putZ at h
  split at h
  · obtain ⟨z', hz, rfl⟩ := List.mem_map.mp h
    refine .inl ⟨z', hz, ?_⟩
    split <;> exact ⟨rfl, rfl⟩
  · rcases List.mem_append.mp h with q | q
    · exact .inl ⟨z, q, rfl, rfl⟩
    · rw [List.mem_singleton.mp q]; exact .inr ⟨rfl, rfl⟩
/-- a tracked dict keyed by nested tuples -/
structure DAt (H : Hp) (a : Addr) (zs : List (NestedKey × Addr × V)) : Prop where
  at_ : H a = some (.ext (DicN a zs))
  sys : (a == sysModules) = false
  len : zs.length ≤ sizeLine
  ks : ∀ z ∈ zs, KeyAt H z.2.1 z.1
def DGetN (H : Hp) (a : Addr) (y : V) (r : Option V) : Prop := ∃ zs k b, DAt H a zs ∧ y = .ref b ∧ KeyAt H b k ∧ r = valZ zs k
def DPutN (H : Hp) (a : Addr) (y v : V) (H' : Hp) : Prop := ∃ zs k b, DAt H a zs ∧ y = .ref b ∧ KeyAt H b k ∧ zs.length < sizeLine ∧ H' = upd H a (.ext (DicN a (putZ zs k b v)))
section
variable {P : Program} {w : World} {H : Hp} {hp : Heap} {a : Addr} {zs : List (NestedKey × Addr × V)}
theorem dn_of (ok : HOk P w H hp) (d : DAt H a zs) : ∃ ys, ZY zs ys ∧ hp.DictOfH (nestedKind P w) a ys := by
  obtain ⟨⟨ys, r, o, es, ep, h1, h2, h3, h4, h5⟩, _, _⟩ := (show ObjOk P w H hp a (.ext (DicN a zs)) from ok a _ d.at_)
  refine ⟨ys, r, o, es, ep, h1, h2, h3, h4 w, fun x hx => ?_, h5⟩
  have all : ∀ {l : List (NestedKey × Addr × V)} {m : List (NestedKey × Addr × Value)}, ZY l m → (∀ z ∈ l, KeyAt H z.2.1 z.1) → ∀ x ∈ m, (nestedKind P w).is hp x.1 x.2.1 := by
    intro l m q
    induction q with
    | nil => intro _ x hx; exact nomatch hx
    | @cons p q ps qs hq t ih =>
      intro hk x hx
      rcases List.mem_cons.mp hx with e | hx
      · subst e
        have k := hk p (List.mem_cons_self ..)
        rw [hq.1, hq.2.1] at k
        exact ⟨k.2.2 P w hp ok, k.1⟩
      · exact ih (fun z hz => hk z (List.mem_cons_of_mem _ hz)) x hx
  exact all r d.ks x hx
theorem dn_ext {zs : List (NestedKey × Addr × V)} {ys : List (NestedKey × Addr × Value)} {h : Heap} (r : ZY zs ys) (dd : h.DictOfH (nestedKind P w) a ys) (hh : ∀ x ∈ ys, ∀ w w' : World, x.1.hash w = x.1.hash w') (H : Hp) : ObjOk P w H h a (.ext (DicN a zs)) := by
  obtain ⟨o, es, ep, h1, h2, h3, h4, _, h5⟩ := dd
  refine ⟨⟨ys, r, o, es, ep, h1, h2, h3, fun w' => ?_, h5⟩, ⟨o, h1⟩, fun g1 g2 ⟨ys, r, o, es, ep, h1, h2, h3, h4, h5⟩ k => ⟨ys, r, o, es, ep, k o h1, h2, h3, h4, h5⟩⟩
  rw [h4]
  refine List.map_congr_left fun x hx => ?_
  show (⟨x.1.hash w, _, _⟩ : DictEntry) = _
  rw [hh x hx w w']
end
theorem nk_room {A : Around} {P : Program} {w : World} (hu : A.units + 64 < cLine) : (nestedKind P w).room A.in1 := show A.in1.units + 8 < cLine by
  have : A.in1.units = A.units + 1 := rfl
  omega
theorem nk_room0 {A : Around} {P : Program} {w : World} (hu : A.units + 64 < cLine) : (nestedKind P w).room A := show A.units + 8 < cLine by omega
section
variable {X : Cx} {pins : List (Addr × Obj)} {σ : L2.St} {H : Hp} {s : Shared} {a : Addr} {y v : V} {u r : Value} {o : Option V} {A : Around} {E : Value → Shared → Prop}
theorem dn_getItem {Q : Value → Shared → Prop} (hu : A.units + 64 < cLine) (I : Inv X pins σ H s) (g : DGetN H a y (some v)) (ry : RelV y u) (h : ∀ w' s', Inv X pins σ H s' → RelV v w' → Q w' s') :
    wpAny (model X.prog X.w) A (getItem (.ref a) u) Q E s := by
  obtain ⟨zs, k, b, d, rfl, kb, l⟩ := g
  cases (show u = Value.ref b from ry)
  obtain ⟨ys, rel, dd⟩ := dn_of I.hok d
  obtain ⟨w', hw, rw'⟩ := RelO.some_of (v := v) (o := (atKey ys k).map (·.2)) (by rw [l]; exact rel.val k)
  obtain ⟨p, hp, hp2⟩ := Option.map_eq_some_iff.mp hw
  refine wpAny_getItem_heap (nk_room hu) ⟨kb.2.2 _ _ _ I.hok, kb.1⟩ dd hp ?_
  rw [hp2]
  exact h w' _ (I.tok _) rw'
theorem dn_in {Q : Value → Shared → Prop} (hu : A.units + 64 < cLine) (I : Inv X pins σ H s) (g : DGetN H a y o) (ry : RelV y u) (h : ∀ s', Inv X pins σ H s' → Q (.bool o.isSome) s') :
    wpAny (model X.prog X.w) A (compareOp .In u (.ref a)) Q E s := by
  obtain ⟨zs, k, b, d, rfl, kb, l⟩ := g
  cases (show u = Value.ref b from ry)
  obtain ⟨ys, rel, dd⟩ := dn_of I.hok d
  refine wpAny_in_heap (nk_room hu) ⟨kb.2.2 _ _ _ I.hok, kb.1⟩ d.sys dd ?_
  have q := (rel.val k).isSome_eq
  rw [Option.isSome_map] at q
  rw [← q, ← l]
  exact h _ (I.tok _)
theorem dn_notIn {Q : Value → Shared → Prop} (hu : A.units + 64 < cLine) (I : Inv X pins σ H s) (g : DGetN H a y o) (ry : RelV y u) (h : ∀ s', Inv X pins σ H s' → Q (.bool (!o.isSome)) s') :
    wpAny (model X.prog X.w) A (compareOp .NotIn u (.ref a)) Q E s := by
  obtain ⟨zs, k, b, d, rfl, kb, l⟩ := g
  cases (show u = Value.ref b from ry)
  obtain ⟨ys, rel, dd⟩ := dn_of I.hok d
  refine wpAny_notIn_heap (nk_room hu) ⟨kb.2.2 _ _ _ I.hok, kb.1⟩ d.sys dd ?_
  have q := (rel.val k).isSome_eq
  rw [Option.isSome_map] at q
  rw [← q, ← l]
  exact h _ (I.tok _)
theorem dn_setItem {H' : Hp} {Q : Unit → Shared → Prop} (hu : A.units + 64 < cLine) (I : Inv X pins σ H s) (g : DPutN H a y v H') (ry : RelV y u) (rv : RelV v r) (h : ∀ s', Inv X pins σ H' s' → Q () s') :
    wpAny (model X.prog X.w) A (setItem (.ref a) u r) Q E s := by
  obtain ⟨zs, k, b, d, rfl, kb, l, rfl⟩ := g
  cases (show u = Value.ref b from ry)
  obtain ⟨ys, rel, dd⟩ := dn_of I.hok d
  have hz : ys.length ≤ sizeLine := by rw [← Paired.length rel]; exact d.len
  refine wpAny_setItem_heap (hsz := hz) (nk_room hu) ⟨kb.2.2 _ _ _ I.hok, kb.1⟩ dd fun h' dd' hs => h _ ?_
  have hq : ∃ q, h'.get? a = some q := by obtain ⟨q, _, _, hq, _⟩ := dd'; exact ⟨q, hq⟩
  refine d_write I (by rw [d.at_]; exact True.intro) hs hq (dn_ext (rel.put k rv) dd' (fun x hx => ?_) _)
  have all : ∀ {l : List (NestedKey × Addr × V)} {m : List (NestedKey × Addr × Value)}, ZY l m → (∀ z ∈ l, ∀ w w' : World, z.1.hash w = z.1.hash w') → ∀ x ∈ m, ∀ w w' : World, x.1.hash w = x.1.hash w' := by
    intro l m q
    induction q with
    | nil => intro _ x hx; exact nomatch hx
    | @cons p q ps qs hq t ih =>
      intro hk x hx
      rcases List.mem_cons.mp hx with e | hx
      · subst e
        have k := hk p (List.mem_cons_self ..)
        rw [hq.1] at k
        exact k
      · exact ih (fun z hz => hk z (List.mem_cons_of_mem _ hz)) x hx
  refine all (rel.put k (b := b) rv) (fun z hz => ?_) x hx
  rcases mem_putZ hz with ⟨z', hz', e, _⟩ | ⟨e, _⟩
  · rw [e]; exact (d.ks z' hz').2.1
  · rw [e]; exact kb.2.1
end
def DGetU (H : Hp) (a : Addr) (y : V) (r : Option V) : Prop := DGet H a y r ∨ DGetN H a y r
def DPutU (H : Hp) (a : Addr) (y v : V) (H' : Hp) : Prop := DPut H a y v H' ∨ DPutN H a y v H'
def tDGetU (td ty : TE) : TE := fun σ H Q => td σ H fun x H1 => ty σ H1 fun y H2 => ∃ a v, x = .ref a ∧ DGetU H2 a y (some v) ∧ Q v H2
def tDInU (ty td : TE) : TE := fun σ H Q => ty σ H fun y H1 => td σ H1 fun x H2 => ∃ a o, x = .ref a ∧ DGetU H2 a y o ∧ Q (.bl o.isSome) H2
def tDNotInU (ty td : TE) : TE := fun σ H Q => ty σ H fun y H1 => td σ H1 fun x H2 => ∃ a o, x = .ref a ∧ DGetU H2 a y o ∧ Q (.bl (!o.isSome)) H2
section
variable {X : Cx} {o i e value : Expr} {pos pos' tpos : Pos} {td ty tv : TE}
theorem dictU_typeIs {pins : List (Addr × Obj)} {σ : L2.St} {H : Hp} {s : Shared} {a : Addr} {y : V} {o : Option V} (I : Inv X pins σ H s) (g : DGetU H a y o) : s.TypeIs (.ref a) "dict" := by
  rcases g with g | ⟨zs, k, b, d, _⟩
  · exact dict_typeIs I g
  · obtain ⟨ys, _, dd⟩ := dn_of I.hok d
    exact dd.typeIs
theorem pe_dgetU (hu : X.A.units + 64 < cLine) (ho : PE X o td) (hi : PE X i ty) (hs : NoSl i) : PE X (.Subscript o i pos) (tDGetU td ty) := by
  refine ⟨fun pins s σ H Q I h => ?_⟩
  refine subD_of PySem.F.slot_dict_getitem.lookup hs (thn (ho.run pins s σ H _ I h) fun u s1 ⟨x, H1, I1, rx, q1⟩ => thn (hi.run pins s1 σ H1 _ I1 q1) fun iv s2 ⟨y, H2, I2, ry, a, v, ex, g, q2⟩ => ?_)
  subst ex
  obtain rfl : u = Value.ref a := rx
  refine ⟨dictU_typeIs I2 g, ?_⟩
  rcases g with g | g
  · exact d_getItem (by omega) I2 g ry fun w' s3 I3 rw' => ⟨v, H2, I3, rw', q2⟩
  · exact dn_getItem hu I2 g ry fun w' s3 I3 rw' => ⟨v, H2, I3, rw', q2⟩
theorem pc_dinU (hu : X.A.units + 64 < cLine) (hi : PE X i ty) (ho : PE X o td) : PC X .In i o (tDInU ty td) := by
  refine ⟨fun pins s σ H Q I h => ?_⟩
  refine thn (hi.run pins s σ H _ I h) fun iv s1 ⟨y, H1, I1, ry, q1⟩ => thn (ho.run pins s1 σ H1 _ I1 q1) fun u s2 ⟨x, H2, I2, rx, a, ov, ex, g, q2⟩ => ?_
  subst ex
  obtain rfl : u = Value.ref a := rx
  rcases g with g | g
  · exact d_in (by omega) I2 g ry fun s3 I3 => ⟨.bl ov.isSome, H2, I3, rfl, q2⟩
  · exact dn_in hu I2 g ry fun s3 I3 => ⟨.bl ov.isSome, H2, I3, rfl, q2⟩
theorem pc_dnotinU (hu : X.A.units + 64 < cLine) (hi : PE X i ty) (ho : PE X o td) : PC X .NotIn i o (tDNotInU ty td) := by
  refine ⟨fun pins s σ H Q I h => ?_⟩
  refine thn (hi.run pins s σ H _ I h) fun iv s1 ⟨y, H1, I1, ry, q1⟩ => thn (ho.run pins s1 σ H1 _ I1 q1) fun u s2 ⟨x, H2, I2, rx, a, ov, ex, g, q2⟩ => ?_
  subst ex
  obtain rfl : u = Value.ref a := rx
  rcases g with g | g
  · exact d_notIn (by omega) I2 g ry fun s3 I3 => ⟨.bl (!ov.isSome), H2, I3, rfl, q2⟩
  · exact dn_notIn hu I2 g ry fun s3 I3 => ⟨.bl (!ov.isSome), H2, I3, rfl, q2⟩
/-- {} -/
def tDNewN : TE := fun _ H Q => ∀ p, H p = none → (p == sysModules) = false → Q (.ref p) (upd H p (.ext (DicN p [])))
theorem pe_dnewN : PE X (.Dict [] [] pos) tDNewN := ⟨fun pins s σ H Q I h => by
  have hs : (s.heap.objs.size == sysModules) = false := beq_eq_false_iff_ne.mpr (Ne.symm (Nat.ne_of_lt I.big))
  refine wpAny_Dict_empty ⟨.ref s.heap.objs.size, _, I.laid (a := s.heap.objs.size) (o := .ext (DicN s.heap.objs.size [])) (t' := s.toks) (fun _ _ q => Heap.get?_push_of_some _ q) (Nat.le_refl _) ?_, rfl, h _ (I.hok.fresh (Nat.le_refl _)) hs⟩
  refine ⟨⟨[], .nil, _, #[], 0, Heap.get?_push_size _ rfl, ⟨rfl, rfl, rfl⟩, rfl, fun _ => rfl, List.nodup_nil⟩, ⟨_, Heap.get?_push_size _ rfl⟩, fun g1 g2 ⟨ys, r, o, es, ep, h1, h2, h3, h4, h5⟩ k => ⟨ys, r, o, es, ep, k o h1, h2, h3, h4, h5⟩⟩⟩
def rLenN : List V → Hp → VK → Prop := fun xs H Q => ∃ (p : Addr) (zs : List (NestedKey × Addr × V)), xs = [.ref p] ∧ DAt H p zs ∧ Q (.int ((zs.length : Nat) : Int)) H
theorem call_len_dN {X : Cx} : CallR X (.builtin "len") rLenN := by
  intro pins s σ H xs us Q I r h
  obtain ⟨p, zs, rfl, d, q⟩ := h
  obtain ⟨u, rfl, rx⟩ := vals1 r
  obtain rfl : u = .ref p := rx
  obtain ⟨ys, rel, dd⟩ := dn_of I.hok d
  have hl : zs.length = ys.length := Paired.length rel
  have z := d.len
  refine call_len_dictH d.sys dd (by rw [← hl]; rw [sizeLine_eq] at z; omega) ?_
  rw [← hl]
  exact ⟨.int ((zs.length : Nat) : Int), H, I.tok _, ⟨_, rfl⟩, q⟩
end
section
variable {K : PySem.W.Frag} {mg : Str → Option Value} {S : AS} {h : AH} {H : Hp}
theorem nks_all (hr : HRel K mg S h H) : ∀ {zs : List (NestedKey × Addr × V)} {kts : List T}, RelTs K S kts (zs.map fun z => V.ref z.2.1) → kts.map nkOf = (zs.map (·.1)).map some → ∀ z ∈ zs, KeyAt H z.2.1 z.1
  | [], _, _, _, z, hz => by cases hz
  | z0 :: zs, [], r, e, z, hz => by simp at e
  | z0 :: zs, t :: kts, r, e, z, hz => by
    simp only [List.map_cons, RelTs] at r
    obtain ⟨u, r', e0, r1, r2⟩ := r
    injection e0 with e1 e2
    subst e1 e2
    rw [List.map_cons, List.map_cons, List.map_cons] at e
    injection e with e1 e2
    rcases List.mem_cons.mp hz with rfl | hz
    · have ht : ∃ ts, t = .tup ts := by
        cases t <;> simp only [RelT, reduceCtorEq] at r1 <;> first | exact ⟨_, rfl⟩ | (simp [nkOf, toNK] at e1)
      obtain ⟨b, eb, kb⟩ := key_at hr r1 e1 ht
      injection eb with eb
      rw [eb]; exact kb
    · exact nks_all hr r2 e2 z hz
theorem DntRel.dat (hr : HRel K mg S h H) {a : Addr} {kvs : List (NestedKey × T)} {zs : List (NestedKey × Addr × V)} {kts : List T} (d : DntRel K S H a kvs zs kts) : DAt H a zs :=
  ⟨d.at_, d.sys, d.len, nks_all hr d.rk (by rw [d.kt, d.ks, List.map_map]; rfl)⟩
end
end TL

namespace TL
open PySem PySem.Spec PyProof.Rows L2
def keyOf : T → Option L2.Key
  | .int i => some (.inl i)
  | .str s => some (.inr s)
  | _ => none
def keysOf : T → Option (List L2.Key)
  | .tup ts => ts.mapM keyOf
  | _ => none
section
variable {κ : Type} [DecidableEq κ]
def aget (kvs : List (κ × T)) (k : κ) : Option T := (kvs.find? fun kv => decide (kv.1 = k)).map (·.2)
def aput (kvs : List (κ × T)) (k : κ) (t : T) : List (κ × T) := if kvs.any fun kv => decide (kv.1 = k) then kvs.map fun kv => if kv.1 = k then (kv.1, t) else kv else kvs ++ [(k, t)]
end
def getC : Cell → T → Option (Option T)
  | .dct kvs, y => (keyOf y).map (aget kvs)
  | .dtt kvs, y => (keysOf y).map (aget kvs)
  | .dnt kvs, .tup ts => (nkOf (.tup ts)).map (aget kvs)
  | _, _ => none
def putC : Cell → T → T → Option Cell
  | .dct kvs, y, t => if kvs.length < lim then (keyOf y).map fun k => .dct (aput kvs k t) else none
  | .dtt kvs, y, t => if kvs.length < lim then (keysOf y).map fun k => .dtt (aput kvs k t) else none
  | .dnt kvs, .tup ts, t => if kvs.length < lim then (nkOf (.tup ts)).map fun k => .dnt (aput kvs k t) else none
  | _, _, _ => none
def dgetO (h : AH) (x y : T) : Option (Option T) := match x with
  | .ref n => (h[n]?).bind fun c => getC c y
  | _ => none
def opDGet : Op2 := fun h x y => (dgetO h x y).join
def opDIn (neg : Bool) : Op2 := fun h y x => (dgetO h x y).map fun o => .bl (if neg then !o.isSome else o.isSome)
section
variable {X : Cx} {W : WX} {σ : L2.St} {S S' : AS} {H H' : Hp} {e a b c o i tg l : Expr} {es : List Expr} {w wa wb wo wi wv : WEx} {pos p p2 pos' apos cpos : Pos} {wr : WAr} {x : Str}
theorem key_rel {K : PySem.W.Frag} {t : T} {v : V} {k : L2.Key} (r : RelT K S t v) (e : keyOf t = some k) : v = kV k := by
  cases t <;> simp only [keyOf, Option.some.injEq, reduceCtorEq] at e
  all_goals (subst e; simp only [RelT] at r; subst r; rfl)
theorem keys_rel0 {K : PySem.W.Frag} : ∀ {ts : List T} {us : List V} {ks : List L2.Key}, RelTs K S ts us → ts.mapM keyOf = some ks → us = ks.map kV
  | [], us, ks, r, e => by
    simp only [RelTs] at r; subst r
    simp at e; subst e; rfl
  | t :: ts, us, ks, r, e => by
    simp only [RelTs] at r
    obtain ⟨u, r', rfl, r1, r2⟩ := r
    rw [List.mapM_cons] at e
    cases e1 : keyOf t with
    | none => rw [e1] at e; cases e
    | some d =>
      cases e2 : ts.mapM keyOf with
      | none => rw [e1, e2] at e; cases e
      | some ds =>
        rw [e1, e2] at e
        cases e
        rw [key_rel r1 e1, keys_rel0 r2 e2]; rfl
theorem keys_rel {K : PySem.W.Frag} {mg : Str → Option Value} {h : AH} {t : T} {v : V} {ks : List L2.Key} (hr : HRel K mg S h H) (r : RelT K S t v) (e : keysOf t = some ks) : ∃ b, v = .ref b ∧ H b = some (.tup (ks.map kV)) := by
  cases t <;> simp only [keysOf, reduceCtorEq] at e
  simp only [RelT] at r
  obtain ⟨a, us, rfl, q, r⟩ := r
  exact ⟨a, rfl, by rw [← keys_rel0 r e]; exact hr.g _ _ q⟩
theorem aget_rel {κ : Type} [DecidableEq κ] {K : PySem.W.Frag} (k : κ) : ∀ {kvs : List (κ × T)} {us : List V}, kvs.length = us.length → RelTs K S (kvs.map (·.2)) us →
    match aget kvs k with | some t => ∃ v, valV ((kvs.map (·.1)).zip us) k = some v ∧ RelT K S t v | none => valV ((kvs.map (·.1)).zip us) k = none
  | [], us, _, _ => by simp [aget, valV]
  | (k', t) :: kvs, us, hl, r => by
    simp only [List.map_cons, RelTs] at r
    obtain ⟨u, us', rfl, r1, r2⟩ := r
    have ih := aget_rel k (kvs := kvs) (us := us') (by simpa using hl) r2
    by_cases hk : k' = k
    · subst hk
      simp only [aget, List.find?_cons, decide_true, Option.map_some, List.map_cons, List.zip_cons_cons, valV]
      exact ⟨u, rfl, r1⟩
    · have e1 : aget ((k', t) :: kvs) k = aget kvs k := by simp [aget, List.find?_cons, hk]
      have e2 : valV ((List.map (·.1) ((k', t) :: kvs)).zip (u :: us')) k = valV ((kvs.map (·.1)).zip us') k := by simp [valV, List.find?_cons, hk]
      rw [e1, e2]; exact ih
theorem any_zip {κ : Type} [DecidableEq κ] (k : κ) : ∀ {kvs : List (κ × T)} {us : List V}, kvs.length = us.length → (((kvs.map (·.1)).zip us).any fun kv => decide (kv.1 = k)) = kvs.any fun kv => decide (kv.1 = k)
  | [], us, _ => by simp
  | (k', t) :: kvs, [], hl => by simp at hl
  | (k', t) :: kvs, u :: us, hl => by
    simp only [List.map_cons, List.zip_cons_cons, List.any_cons]
    rw [any_zip k (by simpa using hl)]
theorem map_zip {κ : Type} [DecidableEq κ] {K : PySem.W.Frag} {t : T} {v : V} (k : κ) (rv : RelT K S t v) : ∀ {kvs : List (κ × T)} {us : List V}, kvs.length = us.length → RelTs K S (kvs.map (·.2)) us →
    ∃ us', (((kvs.map (·.1)).zip us).map fun kv => if kv.1 = k then (kv.1, v) else kv) = ((kvs.map fun kv => if kv.1 = k then (kv.1, t) else kv).map (·.1)).zip us' ∧ us'.length = us.length ∧ RelTs K S ((kvs.map fun kv => if kv.1 = k then (kv.1, t) else kv).map (·.2)) us'
  | [], us, hl, r => ⟨us, by simp, rfl, by simpa using r⟩
  | (k', t') :: kvs, us, hl, r => by
    simp only [List.map_cons, RelTs] at r
    obtain ⟨u, us0, rfl, r1, r2⟩ := r
    obtain ⟨us', e, hl', r'⟩ := map_zip k rv (kvs := kvs) (us := us0) (by simpa using hl) r2
    by_cases hk : k' = k
    · refine ⟨v :: us', ?_, by simp [hl'], ?_⟩
      · simp only [List.map_cons, List.zip_cons_cons, hk, if_true]; rw [← e]
      · simp only [List.map_cons, hk, if_true]; exact .cons rv r'
    · refine ⟨u :: us', ?_, by simp [hl'], ?_⟩
      · simp only [List.map_cons, List.zip_cons_cons, hk, if_false]; rw [← e]
      · simp only [List.map_cons, hk, if_false]; exact .cons r1 r'
theorem aput_rel {κ : Type} [DecidableEq κ] {K : PySem.W.Frag} {t : T} {v : V} (k : κ) (rv : RelT K S t v) {kvs : List (κ × T)} {us : List V} (hl : kvs.length = us.length) (r : RelTs K S (kvs.map (·.2)) us) :
    ∃ us', putK ((kvs.map (·.1)).zip us) k v = ((aput kvs k t).map (·.1)).zip us' ∧ (aput kvs k t).length = us'.length ∧ RelTs K S ((aput kvs k t).map (·.2)) us' := by
  unfold putK aput
  rw [any_zip k hl]
  split
  · obtain ⟨us', e, l, r'⟩ := map_zip k rv hl r
    exact ⟨us', e, by rw [List.length_map, l, hl], r'⟩
  · refine ⟨us ++ [v], ?_, by simp [hl], by rw [List.map_append]; exact r.append (.cons rv .nil)⟩
    rw [List.map_append, List.zip_append (by simpa using hl)]; rfl
theorem aget_relN {K : PySem.W.Frag} (k : NestedKey) : ∀ {kvs : List (NestedKey × T)} {zs : List (NestedKey × Addr × V)}, zs.map (·.1) = kvs.map (·.1) → RelTs K S (kvs.map (·.2)) (zs.map fun z => z.2.2) →
    match aget kvs k with | some t => ∃ v, valZ zs k = some v ∧ RelT K S t v | none => valZ zs k = none
  | [], [], _, _ => by simp [aget, valZ]
  | [], z :: zs, e, _ => by simp at e
  | p :: kvs, [], e, _ => by simp at e
  | (k', t) :: kvs, (k2, b, v) :: zs, e, r => by
    simp only [List.map_cons, RelTs] at r
    obtain ⟨u, us', e0, r1, r2⟩ := r
    injection e0 with e1 e2
    subst e1 e2
    rw [List.map_cons, List.map_cons] at e
    injection e with e1 e2
    have e1 : k2 = k' := e1
    subst e1
    have ih := aget_relN k e2 r2
    by_cases hk : k2 = k
    · subst hk
      simp only [aget, List.find?_cons, decide_true, Option.map_some, valZ]
      exact ⟨v, rfl, r1⟩
    · have e3 : aget ((k2, t) :: kvs) k = aget kvs k := by simp [aget, List.find?_cons, hk]
      have e4 : valZ ((k2, b, v) :: zs) k = valZ zs k := by simp [valZ, List.find?_cons, hk]
      rw [e3, e4]; exact ih
theorem put_map {K : PySem.W.Frag} {t : T} {v : V} (k : NestedKey) (rv : RelT K S t v) : ∀ {kvs : List (NestedKey × T)} {zs : List (NestedKey × Addr × V)}, zs.map (·.1) = kvs.map (·.1) → RelTs K S (kvs.map (·.2)) (zs.map fun z => z.2.2) →
    RelTs K S ((kvs.map fun kv => if kv.1 = k then (kv.1, t) else kv).map (·.2)) ((zs.map fun z => if z.1 = k then (z.1, z.2.1, v) else z).map fun z => z.2.2)
  | [], [], _, _ => by simpa using RelTs.nil
  | [], z :: zs, e, _ => by simp at e
  | p :: kvs, [], e, _ => by simp at e
  | (k', t') :: kvs, (k2, b, v') :: zs, e, r => by
    simp only [List.map_cons, RelTs] at r
    obtain ⟨u, us', e0, r1, r2⟩ := r
    injection e0 with e1 e2
    subst e1 e2
    rw [List.map_cons, List.map_cons] at e
    injection e with e1 e2
    have e1 : k2 = k' := e1
    subst e1
    have ih := put_map k rv e2 r2
    by_cases hk : k2 = k
    · simp only [List.map_cons, hk, if_true]; exact .cons rv ih
    · simp only [List.map_cons, hk, if_false]; exact .cons r1 ih
theorem any_ks {kvs : List (NestedKey × T)} {zs : List (NestedKey × Addr × V)} (k : NestedKey) (e : zs.map (·.1) = kvs.map (·.1)) : (zs.any fun z => decide (z.1 = k)) = kvs.any fun kv => decide (kv.1 = k) := by
  have a : (zs.any fun z => decide (z.1 = k)) = (zs.map (·.1)).any fun x => decide (x = k) := by rw [List.any_map]; rfl
  have b : (kvs.any fun z => decide (z.1 = k)) = (kvs.map (·.1)).any fun x => decide (x = k) := by rw [List.any_map]; rfl
  rw [a, b, e]
theorem put_relN {K : PySem.W.Frag} {a : Addr} {kvs : List (NestedKey × T)} {zs : List (NestedKey × Addr × V)} {kts : List T} (d : DntRel K S H a kvs zs kts) {kt t : T} {b : Addr} {v : V} {k : NestedKey} (ek : nkOf kt = some k) (rk : RelT K S kt (.ref b)) (rv : RelT K S t v) (hl : zs.length < sizeLine) (H' : Hp) (hH : H' a = some (.ext (DicN a (putZ zs k b v)))) :
    ∃ kts', DntRel K S H' a (aput kvs k t) (putZ zs k b v) kts' := by
  have ea := any_ks k d.ks
  by_cases hm : (kvs.any fun kv => decide (kv.1 = k)) = true
  · have e1 : aput kvs k t = kvs.map fun kv => if kv.1 = k then (kv.1, t) else kv := by unfold aput; rw [if_pos hm]
    have e2 : putZ zs k b v = zs.map fun z => if z.1 = k then (z.1, z.2.1, v) else z := by unfold putZ; rw [ea, if_pos hm]
    refine ⟨kts, ?_, ?_, d.sys, Nat.le_trans (length_putZ zs k b v) hl, hH, ?_, ?_⟩
    · rw [e1, e2, List.map_map, List.map_map]
      have x1 : ∀ z : NestedKey × Addr × V, ((·.1) ∘ fun z : NestedKey × Addr × V => if z.1 = k then (z.1, z.2.1, v) else z) z = z.1 := fun z => by simp only [Function.comp]; split <;> rfl
      have x2 : ∀ z : NestedKey × T, ((·.1) ∘ fun kv : NestedKey × T => if kv.1 = k then (kv.1, t) else kv) z = z.1 := fun z => by simp only [Function.comp]; split <;> rfl
      rw [funext x1, funext x2]; exact d.ks
    · rw [e1, List.map_map, d.kt]
      refine List.map_congr_left fun z _ => ?_
      simp only [Function.comp]; split <;> rfl
    · rw [e2, List.map_map]
      have x1 : ∀ z : NestedKey × Addr × V, ((fun z : NestedKey × Addr × V => V.ref z.2.1) ∘ fun z => if z.1 = k then (z.1, z.2.1, v) else z) z = V.ref z.2.1 := fun z => by simp only [Function.comp]; split <;> rfl
      rw [funext x1]; exact d.rk
    · rw [e1, e2]; exact put_map k rv d.ks d.rv
  · have e1 : aput kvs k t = kvs ++ [(k, t)] := by unfold aput; rw [if_neg hm]
    have e2 : putZ zs k b v = zs ++ [(k, b, v)] := by unfold putZ; rw [ea, if_neg hm]
    refine ⟨kts ++ [kt], by rw [e1, e2, List.map_append, List.map_append, d.ks]; rfl, by rw [e1, List.map_append, List.map_append, d.kt]; simp [ek], d.sys, Nat.le_trans (length_putZ zs k b v) hl, hH, by rw [e2, List.map_append]; exact d.rk.append (.cons rk .nil), by rw [e1, e2, List.map_append, List.map_append]; exact d.rv.append (.cons rv .nil)⟩
theorem dget_rel {K : PySem.W.Frag} {mg : Str → Option Value} {h : AH} {t k : T} {v u : V} {r : Option T} (hr : HRel K mg S h H) (rt : RelT K S t v) (rk : RelT K S k u) (e : dgetO h t k = some r) :
    ∃ a ov, v = .ref a ∧ DGetU H a u ov ∧ ov.isSome = r.isSome ∧ ∀ z, r = some z → ∃ v', ov = some v' ∧ RelT K S z v' := by
  cases t <;> simp only [dgetO, reduceCtorEq] at e
  rename_i n
  simp only [RelT] at rt
  obtain ⟨hk, rfl⟩ := rt
  obtain ⟨c, hc, e⟩ := Option.bind_eq_some_iff.mp e
  have rc := hr.c n c hc
  cases c <;> simp only [getC, reduceCtorEq] at e
  · rename_i kvs
    obtain ⟨k', e1, rfl⟩ := Option.map_eq_some_iff.mp e
    obtain ⟨us, hl, hH, rs⟩ := rc
    have g := aget_rel k' hl rs
    refine ⟨_, valV ((kvs.map (·.1)).zip us) k', rfl, by rw [key_rel rk e1]; exact .inl (DGet.k hH), ?_, fun z hz => ?_⟩
    · cases q : aget kvs k' with
      | none => rw [q] at g; rw [g]; rfl
      | some z => rw [q] at g; obtain ⟨v', g1, _⟩ := g; rw [g1]; rfl
    · rw [hz] at g; exact g
  · rename_i kvs
    obtain ⟨k', e1, rfl⟩ := Option.map_eq_some_iff.mp e
    obtain ⟨us, hl, hH, rs⟩ := rc
    have g := aget_rel k' hl rs
    obtain ⟨b, rfl, hb⟩ := keys_rel hr rk e1
    refine ⟨_, valV ((kvs.map (·.1)).zip us) k', rfl, .inl (DGet.t hH hb), ?_, fun z hz => ?_⟩
    · cases q : aget kvs k' with
      | none => rw [q] at g; rw [g]; rfl
      | some z => rw [q] at g; obtain ⟨v', g1, _⟩ := g; rw [g1]; rfl
    · rw [hz] at g; exact g
  · rename_i kvs
    cases k <;> simp only [getC, reduceCtorEq] at e
    rename_i ts
    obtain ⟨k', e1, rfl⟩ := Option.map_eq_some_iff.mp e
    obtain ⟨zs, kts, d⟩ := rc
    have g := aget_relN k' d.ks d.rv
    obtain ⟨b, rfl, kb⟩ := key_at hr rk e1 ⟨_, rfl⟩
    refine ⟨_, valZ zs k', rfl, .inr ⟨zs, k', b, d.dat hr, rfl, kb, rfl⟩, ?_, fun z hz => ?_⟩
    · cases q : aget kvs k' with
      | none => rw [q] at g; rw [g]; rfl
      | some z => rw [q] at g; obtain ⟨v', g1, _⟩ := g; rw [g1]; rfl
    · rw [hz] at g; exact g
theorem se_dget (hu : X.A.units + 64 < cLine) (ha : SE X W o wo) (hb : SE X W i wi) (hs : NoSl i := by exact fun _ _ => rfl) : SE X W (.Subscript o i pos) (wBin opDGet wo wi) :=
  PE.imp (pe_dgetU hu ha hb hs) fun σ H Q ⟨S, ρ, h, R, RX, ar, hr, hw, hR, hX⟩ => by
    refine ⟨S, ρ, h, _, RX, ar, hr, hw, fun x h1 q1 S1 u H1 E1 R1 rx => ?_, hX⟩
    refine ⟨S1, ρ, h1, _, RX, ar.mono E1.sub, R1, q1, fun y h2 q2 S2 u2 H2 E2 R2 ry => ?_, hX.mono E1⟩
    obtain ⟨z, ez, rz⟩ := q2
    unfold opDGet at ez
    cases q : dgetO h2 x y with
    | none => rw [q] at ez; cases ez
    | some r =>
      rw [q] at ez
      have ez : r = some z := ez
      obtain ⟨a, ov, e1, g, _, hz⟩ := dget_rel R2 (rx.mono E2.sub) ry q
      obtain ⟨v', e2, r'⟩ := hz z ez
      exact ⟨a, v', e1, by rw [← e2]; exact g, hR z h2 rz S2 v' H2 (E1.trans E2) R2 r'⟩
theorem tW_din {neg : Bool} {Q : VK} {D : TE} (hD : D = (if neg then tDNotInU (tW X W wi) (tW X W wo) else tDInU (tW X W wi) (tW X W wo))) (q : tW X W (wBin (opDIn neg) wi wo) σ H Q) : D σ H Q := by
  have key : ∀ (b : V → Option V → V), (∀ o : Option V, ∀ v, b v o = .bl (if neg then !o.isSome else o.isSome)) → tW X W wi σ H fun y H1 => tW X W wo σ H1 fun x H2 => ∃ a o, x = .ref a ∧ DGetU H2 a y o ∧ Q (.bl (if neg then !o.isSome else o.isSome)) H2 := fun _ _ => by
    obtain ⟨S, ρ, h, R, RX, ar, hr, hw, hR, hX⟩ := q
    refine ⟨S, ρ, h, _, RX, ar, hr, hw, fun y h1 q1 S1 u H1 E1 R1 ry => ?_, hX⟩
    refine ⟨S1, ρ, h1, _, RX, ar.mono E1.sub, R1, q1, fun x h2 q2 S2 u2 H2 E2 R2 rx => ?_, hX.mono E1⟩
    obtain ⟨z, ez, rz⟩ := q2
    obtain ⟨r, er, ez⟩ := Option.map_eq_some_iff.mp ez
    subst ez
    obtain ⟨a, ov, e1, g, hs, _⟩ := dget_rel R2 rx (ry.mono E2.sub) er
    exact ⟨a, ov, e1, g, hR _ h2 rz S2 _ H2 (E1.trans E2) R2 (by rw [hs]; simp [RelT])⟩
  have key := key (fun _ o => .bl (if neg then !o.isSome else o.isSome)) fun _ _ => rfl
  subst hD
  cases neg
  · exact key
  · exact key
theorem se_din (hu : X.A.units + 64 < cLine) (hb : SE X W i wi) (ha : SE X W o wo) (h1 : behindInMarks .In o = false := by first | exact nobehind _ (by decide) (by decide) | rfl | with_unfolding_all rfl) : SE X W (.Compare i [.In] [o] pos) (wBin (opDIn false) wi wo) :=
  PE.imp (pe_cmp (pc_dinU hu hb ha) h1) fun σ H Q q => tW_din (neg := false) rfl q
theorem se_dnotin (hu : X.A.units + 64 < cLine) (hb : SE X W i wi) (ha : SE X W o wo) (h1 : behindInMarks .NotIn o = false := by first | exact nobehind _ (by decide) (by decide) | rfl | with_unfolding_all rfl) : SE X W (.Compare i [.NotIn] [o] pos) (wBin (opDIn true) wi wo) :=
  PE.imp (pe_cmp (pc_dnotinU hu hb ha) h1) fun σ H Q q => tW_din (neg := true) rfl q
theorem tWT_din {neg : Bool} {Q : Bool → Hp → Prop} {D : TE} (hD : D = (if neg then tDNotInU (tW X W wi) (tW X W wo) else tDInU (tW X W wi) (tW X W wo))) (q : tWT X W (wTB (wBin (opDIn neg) wi wo)) σ H Q) : D σ H fun v H' => ∃ b, v = .bl b ∧ Q b H' := by
  refine tW_din hD ?_
  obtain ⟨S, ρ, h, R, RX, ar, hr, hw, hR, hX⟩ := q
  refine ⟨S, ρ, h, _, RX, ar, hr, hw, fun t h1 ⟨k, e, q⟩ S1 v H1 E1 R1 rv => ?_, hX⟩
  subst e
  simp only [RelT] at rv
  exact ⟨k, rv, hR k h1 q S1 H1 E1 R1⟩
theorem st_din (hu : X.A.units + 64 < cLine) (hb : SE X W i wi) (ha : SE X W o wo) (h1 : behindInMarks .In o = false := by first | exact nobehind _ (by decide) (by decide) | rfl | with_unfolding_all rfl) : ST X W (.Compare i [.In] [o] pos) (wTB (wBin (opDIn false) wi wo)) :=
  PT.imp (pt_cmp (pc_dinU hu hb ha) h1) fun σ H Q q => tWT_din (neg := false) rfl q
theorem st_dnotin (hu : X.A.units + 64 < cLine) (hb : SE X W i wi) (ha : SE X W o wo) (h1 : behindInMarks .NotIn o = false := by first | exact nobehind _ (by decide) (by decide) | rfl | with_unfolding_all rfl) : ST X W (.Compare i [.NotIn] [o] pos) (wTB (wBin (opDIn true) wi wo)) :=
  PT.imp (pt_cmp (pc_dnotinU hu hb ha) h1) fun σ H Q q => tWT_din (neg := true) rfl q
def rSetD : V → V → V → Hp → (Hp → Prop) → Prop := fun o i v H Q => ∃ p H', o = .ref p ∧ DPutU H p i v H' ∧ Q H'
theorem set_dict (hu : X.A.units + 64 < cLine) : PSet X rSetD := by
  intro pins s σ H o i v ov iv u Q I ro ri rv h
  obtain ⟨p, H', rfl, g, q⟩ := h
  cases ro
  rcases g with g | g
  · exact d_setItem (by omega) I g ri rv fun s' I' => ⟨H', I', q⟩
  · exact dn_setItem hu I g ri rv fun s' I' => ⟨H', I', q⟩
def gSubD (wo wi : WEx) : WTg := fun t ρ h R RX => wo ρ h (fun x h1 => wi ρ h1 (fun y h2 => ∃ n c c', x = .ref n ∧ h2[n]? = some c ∧ putC c y t = some c' ∧ R ρ (h2.set n c')) RX) RX
theorem put_rel {K : PySem.W.Frag} {mg : Str → Option Value} {h : AH} {n : Nat} {k t : T} {u v : V} {c c' : Cell} (hr : HRel K mg S h H) (hk : n < S.k) (hc : h[n]? = some c) (e : putC c k t = some c') (rk : RelT K S k u) (rt : RelT K S t v) :
    ∃ H', DPutU H (S.m n) u v H' ∧ HRel K mg S (h.set n c') H' ∧ Ext S H S H' := by
  have rc := hr.c n c hc
  cases c <;> simp only [putC, reduceCtorEq] at e
  · rename_i kvs
    split at e
    · rename_i hl2
      obtain ⟨k', e1, rfl⟩ := Option.map_eq_some_iff.mp e
      obtain ⟨us, hl, hH, rs⟩ := rc
      obtain ⟨us', e3, l3, r3⟩ := aput_rel k' rt hl rs
      obtain ⟨R', E⟩ := hr.write (n := n) (o := .dK (putK ((kvs.map (·.1)).zip us) k' v)) (c := .dct (aput kvs k' t)) hc (fun z => by cases z) ⟨us', l3, by rw [upd_same, e3], r3⟩
      refine ⟨_, ?_, R', E⟩
      rw [key_rel rk e1]
      exact .inl (DPut.k hH (by rw [List.length_zip, List.length_map, ← hl, Nat.min_self]; exact Nat.lt_of_lt_of_le hl2 (lim_le (Nat.le_refl _))))
    · cases e
  · rename_i kvs
    split at e
    · rename_i hl2
      obtain ⟨k', e1, rfl⟩ := Option.map_eq_some_iff.mp e
      obtain ⟨us, hl, hH, rs⟩ := rc
      obtain ⟨us', e3, l3, r3⟩ := aput_rel k' rt hl rs
      obtain ⟨b, rfl, hb⟩ := keys_rel hr rk e1
      obtain ⟨R', E⟩ := hr.write (n := n) (o := .dT (putK ((kvs.map (·.1)).zip us) k' v)) (c := .dtt (aput kvs k' t)) hc (fun z => by cases z) ⟨us', l3, by rw [upd_same, e3], r3⟩
      exact ⟨_, .inl (DPut.t hH hb (by rw [List.length_zip, List.length_map, ← hl, Nat.min_self]; exact Nat.lt_of_lt_of_le hl2 (lim_le (Nat.le_refl _)))), R', E⟩
    · cases e
  · rename_i kvs
    cases k <;> simp only [putC, reduceCtorEq] at e
    rename_i ts
    split at e
    · rename_i hl2
      obtain ⟨k', e1, rfl⟩ := Option.map_eq_some_iff.mp e
      obtain ⟨zs, kts, d⟩ := rc
      have ez : zs.length = kvs.length := by have := congrArg List.length d.ks; simpa using this
      obtain ⟨b, rfl, kb⟩ := key_at hr rk e1 ⟨_, rfl⟩
      have hl3 : zs.length < sizeLine := by rw [ez]; exact Nat.lt_of_lt_of_le hl2 (lim_le (Nat.le_refl _))
      obtain ⟨kts', d'⟩ := put_relN d e1 rk rt hl3 (upd H (S.m n) (.ext (DicN (S.m n) (putZ zs k' b v)))) upd_same
      obtain ⟨R', E⟩ := hr.write (n := n) (o := .ext (DicN (S.m n) (putZ zs k' b v))) (c := .dnt (aput kvs k' t)) hc (fun z => by cases z) ⟨_, kts', d'⟩
      exact ⟨_, .inr ⟨zs, k', b, d.dat hr, rfl, kb, hl3, rfl⟩, R', E⟩
    · cases e
theorem sg_subD (hu : X.A.units + 64 < cLine) (ho : SE X W o wo) (hi : SE X W i wi) (ha : ∀ v, assign (.Subscript o i pos) X.env v = (do
      let ov ← holding [v] (eval o X.env)
      let iv ← holding [v, ov] (eval i X.env)
      standAt pos
      holding [v, ov, iv] (setItem ov iv v)
      release [v, ov, iv] []) := by intro _; rfl) : SG X W (.Subscript o i pos) (gSubD wo wi) :=
  PG.imp (pg_sub ho hi (set_dict hu) ha) fun v σ H Q ⟨S, ρ, h, t, R, RX, ar, hr, rt, hw, hR, hX⟩ => by
    refine ⟨S, ρ, h, _, RX, ar, hr, hw, fun x h1 q1 S1 u H1 E1 R1 rx => ?_, hX⟩
    refine ⟨S1, ρ, h1, _, RX, ar.mono E1.sub, R1, q1, fun y h2 q2 S2 u2 H2 E2 R2 ry => ?_, hX.mono E1⟩
    obtain ⟨n, c, c', rfl, hn, hp, q⟩ := q2
    have rx := rx.mono E2.sub
    simp only [RelT] at rx
    obtain ⟨hk, rfl⟩ := rx
    obtain ⟨H3, g, R3, E3⟩ := put_rel R2 hk hn hp ry (rt.mono (E1.trans E2).sub)
    have E := (E1.trans E2).trans E3
    exact ⟨_, H3, rfl, g, hR _ _ q S2 σ _ E R3 (ar.mono E.sub)⟩
def wDict0N : WEx := fun _ h R _ => R (.ref h.length) (h ++ [.dnt []])
theorem se_dict0N : SE X W (.Dict [] [] pos) wDict0N := PE.imp pe_dnewN fun σ H Q ⟨S, ρ, h, R, RX, ar, hr, hw, hR, hX⟩ p hp hs => by
  obtain ⟨R', E⟩ := hr.cell (o := .ext (DicN p [])) (c := .dnt []) hp ⟨[], [], rfl, rfl, hs, Nat.zero_le _, upd_same, .nil, .nil⟩
  exact hR _ _ hw _ _ _ E R' (by simp only [RelT]; exact ⟨by show h.length < S.k + 1; rw [hr.k]; exact Nat.lt_succ_self _, by rw [← hr.k, AS.more_at]⟩)
def opLenD : OpN := fun h ts => match ts with
  | [.ref n] => match h[n]? with
    | some (.dct kvs) => some (.int kvs.length)
    | some (.dtt kvs) => some (.int kvs.length)
    | some (.dnt kvs) => some (.int kvs.length)
    | _ => none
  | _ => none
theorem call_len_dK : CallR X (.builtin "len") (fun xs H Q => ∃ a kvs, xs = [V.ref a] ∧ H a = some (.dK kvs) ∧ Q (.int (kvs.length : Nat)) H) := by
  intro pins s σ H xs us Q I r ⟨a, kvs, e, hd, q⟩
  subst e
  rw [Vals.ref1 r]
  exact d_len I (.inl hd) fun t s' I' => ⟨.int _, H, I', ⟨_, rfl⟩, q⟩
theorem c_lenD : CallR X (.builtin "len") (rN X.K X.mg opLenD) := CallR.imp (CallR.or call_len_dK (CallR.or call_len_dT call_len_dN)) fun vs H Q ⟨S, h, ts, z, hr, rs, e, q⟩ => by
  unfold opLenD at e
  split at e
  · rename_i n
    obtain ⟨u, rfl, r⟩ := rel1 rs
    simp only [RelT] at r
    obtain ⟨hk, rfl⟩ := r
    split at e
    · rename_i kvs hc
      cases e
      obtain ⟨us, hl, hH, _⟩ := hr.c n _ hc
      exact .inl ⟨_, _, rfl, hH, q S _ H (Ext.refl S H) hr (by rw [List.length_zip, List.length_map, ← hl, Nat.min_self]; simp [RelT])⟩
    · rename_i kvs hc
      cases e
      obtain ⟨us, hl, hH, _⟩ := hr.c n _ hc
      exact .inr (.inl ⟨_, _, rfl, hH, q S _ H (Ext.refl S H) hr (by rw [List.length_zip, List.length_map, ← hl, Nat.min_self]; simp [RelT])⟩)
    · rename_i kvs hc
      cases e
      obtain ⟨zs, kts, d⟩ := hr.c n _ hc
      have ez : zs.length = kvs.length := by have := congrArg List.length d.ks; simpa using this
      exact .inr (.inr ⟨_, _, rfl, d.dat hr, q S _ H (Ext.refl S H) hr (by rw [ez]; simp [RelT])⟩)
    · cases e
  · cases e
end
end TL

namespace TL
open PySem PySem.Spec PyProof.Rows L2
def inT (x : T) (xs : List T) : Bool := inV (toV x) (xs.map toV)
def nn (neg b : Bool) : Bool := if neg then !b else b
def inStr (a b : Str) : Bool := !(Builtin.Str.occurrences b a 0 b.length 1).isEmpty
/-- a text in a text; a flat thing in a tuple of flat ones; data in a list of data -/
def opInS (neg : Bool) : Op2 := fun h x y => match x, y with
  | .str a, .str b => some (.bl (nn neg (inStr a b)))
  | x, .tup xs => if flatT x && xs.all flatT then some (.bl (nn neg (inT x xs))) else none
  | x, y => match toD h deep x, toD h deep y with
    | some d, some (.list ds) => some (.bl (nn neg (ds.any fun z => PyData.eqv z d)))
    | _, _ => none
section
variable {X : Cx} {W : WX} {σ : L2.St} {S S' : AS} {H H' : Hp}
def r3In (K : PySem.W.Frag) (neg : Bool) : R2 := fun x y H Q => (∃ i j, x = .str i ∧ y = .str j ∧ Q (.bl (nn neg (inStr i j))) H) ∨ rIn K neg x y H Q ∨
  ∃ d ds, Dp K H x d ∧ Dp K H y (.list ds) ∧ SeqAt.shaped d = true ∧ SeqAt.shaped (.list ds) = true ∧ Q (.bl (nn neg (ds.any fun z => PyData.eqv z d))) H
theorem op_in3 (hu : X.A.units + 65 < cLine) : OpR X (compareOp .In) (r3In X.K false) := OpR.orr op_in_str (OpR.orr op_in_seq (op_inD hu))
theorem op_notIn3 (hu : X.A.units + 65 < cLine) : OpR X (compareOp .NotIn) (r3In X.K true) := OpR.orr op_notin_str (OpR.orr op_notIn_seq (op_notInD hu))
theorem in_of {neg : Bool} {x y : V} {Q : VK} (q : rO X.K X.mg (opInS neg) x y H Q) : r3In X.K neg x y H Q := by
  obtain ⟨S, h, t, t', z, hr, rx, ry, e, q⟩ := q
  unfold opInS at e
  split at e
  · cases e
    simp only [RelT] at rx ry
    subst rx ry
    exact .inl ⟨_, _, rfl, rfl, q S _ H (Ext.refl S H) hr (by simp [RelT])⟩
  · rename_i xs0
    split at e
    · rename_i f
      rw [Bool.and_eq_true] at f
      cases e
      obtain ⟨a, us, rfl, hq, rs⟩ := asT_rel hr ry rfl
      obtain ⟨e1, f1⟩ := flat_rel rx f.1
      obtain ⟨e2, f2⟩ := flats_rel rs f.2
      refine .inr (.inl ⟨a, us, rfl, .inr hq, f1, f2, ?_⟩)
      have := q S (.bl (nn neg (inT t xs0))) H (Ext.refl S H) hr (by simp [RelT])
      unfold inT nn at this
      rw [e1, e2]; exact this
    · cases e
  · split at e
    · rename_i d ds e1 e2
      cases e
      exact .inr (.inr ⟨d, ds, dp_of hr _ _ _ _ rx e1, dp_of hr _ _ _ _ ry e2, shaped40 e1, shaped40 e2, q S _ H (Ext.refl S H) hr (by simp [RelT])⟩)
    · cases e
theorem o_in (hu : X.A.units + 65 < cLine) : OpR X (compareOp .In) (rO X.K X.mg (opInS false)) := OpR.imp (op_in3 hu) fun _ _ _ _ q => in_of q
theorem o_notIn (hu : X.A.units + 65 < cLine) : OpR X (compareOp .NotIn) (rO X.K X.mg (opInS true)) := OpR.imp (op_notIn3 hu) fun _ _ _ _ q => in_of q
theorem Room65 {k : Nat} {A : Around} (r : Room k A) : A.units + 65 < cLine := by have := r.un; omega
def opSum : OpN := fun h ts => match ts with
  | [t] => match asL h t with
    | some xs => match xs.mapM intOf with
      | some ns => some (.int ns.sum)
      | none => none
    | none => none
  | _ => none
def mxI : List Int → Int
  | [] => 0
  | x :: xs => xs.foldl (fun a b => if a < b then b else a) x
def mnI : List Int → Int
  | [] => 0
  | x :: xs => xs.foldl (fun a b => if b < a then b else a) x
theorem fold_mx : ∀ (xs : List Int) (x : Int), (xs.foldl (fun a b => if a < b then b else a) x ∈ x :: xs) ∧ ∀ y ∈ x :: xs, y ≤ xs.foldl (fun a b => if a < b then b else a) x
  | [], x => ⟨by simp, by simp⟩
  | z :: xs, x => by
    obtain ⟨h1, h2⟩ := fold_mx xs (if x < z then z else x)
    rw [List.foldl_cons]
    constructor
    · rcases List.mem_cons.mp h1 with q | q
      · rw [q]; split <;> simp
      · exact List.mem_cons_of_mem _ (List.mem_cons_of_mem _ q)
    · intro y hy
      have h3 := h2 _ List.mem_cons_self
      rcases List.mem_cons.mp hy with rfl | hy
      · refine Int.le_trans ?_ h3; split <;> omega
      rcases List.mem_cons.mp hy with rfl | hy
      · refine Int.le_trans ?_ h3; split <;> omega
      exact h2 y (List.mem_cons_of_mem _ hy)
theorem fold_mn : ∀ (xs : List Int) (x : Int), (xs.foldl (fun a b => if b < a then b else a) x ∈ x :: xs) ∧ ∀ y ∈ x :: xs, xs.foldl (fun a b => if b < a then b else a) x ≤ y
  | [], x => ⟨by simp, by simp⟩
  | z :: xs, x => by
    obtain ⟨h1, h2⟩ := fold_mn xs (if z < x then z else x)
    rw [List.foldl_cons]
    constructor
    · rcases List.mem_cons.mp h1 with q | q
      · rw [q]; split <;> simp
      · exact List.mem_cons_of_mem _ (List.mem_cons_of_mem _ q)
    · intro y hy
      have h3 := h2 _ List.mem_cons_self
      rcases List.mem_cons.mp hy with rfl | hy
      · refine Int.le_trans h3 ?_; split <;> omega
      rcases List.mem_cons.mp hy with rfl | hy
      · refine Int.le_trans h3 ?_; split <;> omega
      exact h2 y (List.mem_cons_of_mem _ hy)
theorem mxI_spec {xs : List Int} (h : xs ≠ []) : mxI xs ∈ xs ∧ ∀ y ∈ xs, y ≤ mxI xs := by
  cases xs with
  | nil => exact absurd rfl h
  | cons x xs => exact fold_mx xs x
theorem mnI_spec {xs : List Int} (h : xs ≠ []) : mnI xs ∈ xs ∧ ∀ y ∈ xs, mnI xs ≤ y := by
  cases xs with
  | nil => exact absurd rfl h
  | cons x xs => exact fold_mn xs x
def opMaxL (f : List Int → Int) : OpN := fun h ts => match ts with
  | [t] => match asL h t with
    | some xs => match xs.mapM intOf with
      | some ns => if ns = [] then none else some (.int (f ns))
      | none => none
    | none => none
  | _ => none
theorem ints_arg {K : PySem.W.Frag} {mg : Str → Option Value} {h : AH} {t : T} {u : V} {xs : List T} {ns : List Int} (hr : HRel K mg S h H) (r : RelT K S t u) (e : asL h t = some xs) (e2 : xs.mapM intOf = some ns) :
    ∃ a, u = .ref a ∧ SqL K H a (ns.map V.int) := by
  obtain ⟨a, us, rfl, h1, r1⟩ := asL_rel hr r e
  refine ⟨a, rfl, ?_⟩
  have e3 := ints_of e2
  subst e3
  have : us = ns.map V.int := by
    clear h1 e e2 r
    induction ns generalizing us with
    | nil => simp only [List.map_nil, RelTs] at r1; subst r1; rfl
    | cons n ns ih =>
      simp only [List.map_cons, RelTs] at r1
      obtain ⟨u, us', rfl, r2, r3⟩ := r1
      simp only [RelT] at r2
      rw [r2, ih us' r3]; rfl
  rw [← this]; exact h1
theorem c_sum (hc : X.calm = true) : CallR X (.builtin "sum") (rN X.K X.mg opSum) := CallR.imp (cr_sum hc) fun vs H Q ⟨S, h, ts, z, hr, rs, e, q⟩ => by
  unfold opSum at e
  split at e
  · obtain ⟨u, rfl, r⟩ := rel1 rs
    split at e
    · rename_i xs q2
      split at e
      · rename_i ns q3
        cases e
        obtain ⟨a, rfl, h1⟩ := ints_arg hr r q2 q3
        exact ⟨a, ns, rfl, h1, q S _ H (Ext.refl S H) hr (by simp [RelT])⟩
      · cases e
    · cases e
  · cases e
theorem c_maxL (hc : X.calm = true) : CallR X (.builtin "max") (rN X.K X.mg (opMaxL mxI)) := CallR.imp (cr_max hc) fun vs H Q ⟨S, h, ts, z, hr, rs, e, q⟩ => by
  unfold opMaxL at e
  split at e
  · obtain ⟨u, rfl, r⟩ := rel1 rs
    split at e
    · rename_i xs q2
      split at e
      · rename_i ns q3
        split at e
        · cases e
        · rename_i hne
          cases e
          obtain ⟨a, rfl, h1⟩ := ints_arg hr r q2 q3
          refine ⟨a, ns, rfl, h1, List.length_pos_iff.mpr hne, fun m hm hall => ?_⟩
          obtain ⟨k1, k2⟩ := mxI_spec hne
          have : m = mxI ns := Int.le_antisymm (k2 m hm) (hall _ k1)
          rw [this]
          exact q S _ H (Ext.refl S H) hr (by simp [RelT])
      · cases e
    · cases e
  · cases e
theorem c_minL (hc : X.calm = true) : CallR X (.builtin "min") (rN X.K X.mg (opMaxL mnI)) := CallR.imp (cr_min hc) fun vs H Q ⟨S, h, ts, z, hr, rs, e, q⟩ => by
  unfold opMaxL at e
  split at e
  · obtain ⟨u, rfl, r⟩ := rel1 rs
    split at e
    · rename_i xs q2
      split at e
      · rename_i ns q3
        split at e
        · cases e
        · rename_i hne
          cases e
          obtain ⟨a, rfl, h1⟩ := ints_arg hr r q2 q3
          refine ⟨a, ns, rfl, h1, List.length_pos_iff.mpr hne, fun m hm hall => ?_⟩
          obtain ⟨k1, k2⟩ := mnI_spec hne
          have : m = mnI ns := Int.le_antisymm (hall _ k1) (k2 m hm)
          rw [this]
          exact q S _ H (Ext.refl S H) hr (by simp [RelT])
      · cases e
    · cases e
  · cases e
def opInt : OpN := fun _ ts => match ts with
  | [.int i] => some (.int i)
  | [.bl b] => some (.int (if b then 1 else 0))
  | _ => none
theorem c_int : CallR X (.type "int") (rN X.K X.mg opInt) := CallR.imp call_int1 fun vs H Q ⟨S, h, ts, z, hr, rs, e, q⟩ => by
  unfold opInt at e
  split at e
  · obtain ⟨u, rfl, r⟩ := rel1 rs
    simp only [RelT] at r; subst r
    cases e
    exact .inl ⟨_, rfl, q S _ H (Ext.refl S H) hr (by simp [RelT])⟩
  · obtain ⟨u, rfl, r⟩ := rel1 rs
    simp only [RelT] at r; subst r
    cases e
    exact .inr ⟨_, rfl, q S _ H (Ext.refl S H) hr (by simp [RelT])⟩
  · cases e
def wKs : List T → WAr
  | [] => wNil
  | t :: ts => wCons (wC t) (wKs ts)
theorem wKs_eq : ∀ (ts : List T) (ρ : Rho) (h : AH) (R : List T → AH → Prop) (RX : XC), wKs ts ρ h R RX = R ts h
  | [], _, _, _, _ => rfl
  | t :: ts, ρ, h, R, RX => by
    show wKs ts ρ h (fun xs h2 => R (t :: xs) h2) RX = _
    rw [wKs_eq ts]
theorem se_tupK {es : List Expr} {n : Nat} {pos : Pos} (ts : List T) (a : SA X W es (wKs ts)) (hl : ts.length ≤ lim := by decide) : SE X W (.Tuple es n pos) (wC (.tup ts)) :=
  PE.imp (se_tup (n := n) (pos := pos) a) fun σ H Q ⟨S, ρ, h, R, RX, ar, hr, hw, hR, hX⟩ => ⟨S, ρ, h, R, RX, ar, hr, by show wKs ts ρ h (fun ts h1 => ts.length ≤ lim ∧ R (.tup ts) h1) RX; rw [wKs_eq]; exact ⟨hl, hw⟩, hR, hX⟩
theorem se_lstK {es : List Expr} {pos : Pos} (ts : List T) (a : SA X W es (wKs ts)) (hl : ts.length ≤ lim := by decide) : SE X W (.List es pos) (wC (.lst ts)) :=
  PE.imp (se_lstF (pos := pos) a) fun σ H Q ⟨S, ρ, h, R, RX, ar, hr, hw, hR, hX⟩ => ⟨S, ρ, h, R, RX, ar, hr, by show wKs ts ρ h (fun ts h1 => ts.length ≤ lim ∧ R (.lst ts) h1) RX; rw [wKs_eq]; exact ⟨hl, hw⟩, hR, hX⟩
end
end TL

namespace TL
open PySem PySem.Spec PyProof.Rows L2
def wCom2L (P : AH → Prop) (g : WTg) (wt : WTe) (wx : WEx) (g1 : WTg) (wt1 : WTe) (w : WEx) (vs vs1 : List Nat) (ρ : Rho) : List T → List T → AH → (List T → AH → Prop) → Prop
  | [], acc, h, R => P h ∧ R acc h
  | t :: ts, acc, h, R => P h ∧ g t (wipeT ρ vs) h (fun ρ2 h2 => wt ρ2 h2 (fun k h3 => if k = true then wx ρ2 h3 (fun x h4 => ∃ xs, (x = .tup xs ∨ x = .lst xs) ∧ wCompL (fun _ => True) g1 wt1 w vs1 ρ2 xs acc h4 (fun acc' h5 => wCom2L P g wt wx g1 wt1 w vs vs1 ρ ts acc' h5 R)) (fun _ _ => False)
      else wCom2L P g wt wx g1 wt1 w vs vs1 ρ ts acc h3 R) (fun _ _ => False)) (fun _ _ => False)
def wCom2F (wi : WIt) (g : WTg) (wt : WTe) (wx : WEx) (g1 : WTg) (wt1 : WTe) (w : WEx) (vs vs1 : List Nat) : WEx := fun ρ h R RX => wi ρ h (fun items P h1 => wCom2L P g wt wx g1 wt1 w vs vs1 ρ items [] h1 (fun acc h2 => R (.lst acc) h2)) RX
section
variable {X : Cx} {W : WX} {σ : L2.St} {S S' : AS} {H H' : Hp} {e a b c o tg tg1 : Expr} {es : List Expr} {w wa wb wc wx : WEx} {pos p p2 : Pos} {wr : WAr} {x : Str} {D : Ends} {E : EndsT} {wt wt1 : WTe} {g g1 : WTg}
/-- what an iterator yields, whatever is laid beside -/
def ItRelG (X : Cx) (J : It) (items : List T) (S0 : AS) : Prop := ∀ (i : Nat) S' h' H', Sub S0 S' → HRel X.K X.mg S' h' H' →
  (∀ t, items[i]? = some t → J.go i H' ∧ ∀ x H'', J.yld i H' x H'' → H'' = H' ∧ RelT X.K S' t x) ∧ (items.length ≤ i → J.stop i H')
theorem itG_tup {t : List T} {a : Addr} (r : RelT X.K S (.tup t) (.ref a)) : ItRelG X (Itt X.K a) t S := fun i S' h' H' e hr => by
  obtain ⟨a', us, e1, q, rs⟩ := asT_rel hr (r.mono e) (ts := t) rfl
  cases e1
  refine ⟨fun t ht => ?_, fun hl => ⟨us, q, by rw [← rs.length]; exact hl⟩⟩
  obtain ⟨u, hu, ru⟩ := rs.get ht
  refine ⟨⟨us, u, q, hu⟩, fun x H'' ⟨e1, y⟩ => ⟨e1, ?_⟩⟩
  have := y us q
  rw [hu] at this
  cases this
  exact ru
theorem itG_lst {t : List T} {a : Addr} (r : RelT X.K S (.lst t) (.ref a)) : ItRelG X (Itl X.K a) t S := fun i S' h' H' e hr => by
  obtain ⟨a', us, e1, q, rs⟩ := asL_rel hr (r.mono e) (ts := t) rfl
  cases e1
  refine ⟨fun t ht => ?_, fun hl => ⟨us, q, by rw [← rs.length]; exact hl⟩⟩
  obtain ⟨u, hu, ru⟩ := rs.get ht
  refine ⟨⟨us, u, q, hu⟩, fun x H'' ⟨e1, y⟩ => ⟨e1, ?_⟩⟩
  have := y us q
  rw [hu] at this
  cases this
  exact ru
theorem lc1_sound {J : It} {Nx : Hp → Prop} {is1 vs1 : List Nat} (hv : ∀ i ∈ is1, i ∈ vs1) {S1 S4 : AS} {H1 H4 : Hp} {σ2 : L2.St} {ρ2 : Rho} {h4 : AH} {items acc : List T} {us : List V} {Rf : List T → AH → Prop} {Dl : Addr}
    (hD : H1 Dl = none) (a4 : ARel X.K S4 ρ2 σ2) (R4 : HRel X.K X.mg S4 h4 H4) (E4 : Ext S1 H1 S4 H4) (ap : Apart S4 H4 Dl (.lst us)) (rs : RelTs X.K S4 acc us) (it : ItRelG X J items S4)
    (q : wCompL (fun _ => True) g1 wt1 w vs1 ρ2 items acc h4 Rf)
    (hQ : ∀ acc h' us S' H', Rf acc h' → HRel X.K X.mg S' h' H' → Ext S1 H1 S' H' → Sub S4 S' → Apart S' H' Dl (.lst us) → RelTs X.K S' acc us → Nx H') :
    ∃ W1 : Nat → Nat → Hp → Prop, (∃ m, W1 0 m H4) ∧ ∀ j k H, W1 j k H →
      (J.stop j H ∧ Nx H) ∨ (J.go j H ∧ ∃ Nx1 : Hp → Prop, (∀ H', Nx1 H' → ∃ k', k' < k ∧ W1 (j + 1) k' H') ∧ ∀ x H', J.yld j H x H' → tWGc X is1 g1 x (wipe σ2 vs1) H' fun σ3 H5 => wipe σ3 vs1 = wipe σ2 vs1 ∧ tWT X WF wt1 σ3 H5 fun b H6 =>
        if b = true then tW X WF w σ3 H6 fun y H7 => ∃ acc, H7 Dl = some (.lst acc) ∧ acc.length < sizeLine ∧ Nx1 (upd H7 Dl (.lst (acc ++ [y]))) else Nx1 H6) := by
  refine ⟨fun i m H => m = items.length - i ∧ i ≤ items.length ∧ ∃ S' h' acc us, HRel X.K X.mg S' h' H ∧ Ext S1 H1 S' H ∧ Sub S4 S' ∧ Apart S' H Dl (.lst us) ∧ RelTs X.K S' acc us ∧ wCompL (fun _ => True) g1 wt1 w vs1 ρ2 (items.drop i) acc h' Rf,
    ⟨_, rfl, Nat.zero_le _, S4, h4, acc, us, R4, E4, ⟨Nat.le_refl _, fun _ _ => rfl, fun _ _ e => e⟩, ap, rs, by simpa using q⟩, ?_⟩
  rintro i m H ⟨rfl, hle, S2, h2, acc, us, R2, E2, sb, ap, rs, q2⟩
  by_cases hlt : i < items.length
  · have hd : items.drop i = items[i] :: items.drop (i + 1) := List.drop_eq_getElem_cons hlt
    rw [hd] at q2
    obtain ⟨_, q2⟩ := q2
    obtain ⟨go, _⟩ := it i S2 h2 H sb R2
    obtain ⟨go, yl⟩ := go items[i] (List.getElem?_eq_getElem hlt)
    refine .inr ⟨go, fun H => ∃ S' h' acc us, HRel X.K X.mg S' h' H ∧ Ext S1 H1 S' H ∧ Sub S4 S' ∧ Apart S' H Dl (.lst us) ∧ RelTs X.K S' acc us ∧ wCompL (fun _ => True) g1 wt1 w vs1 ρ2 (items.drop (i + 1)) acc h' Rf, fun H' r => ⟨_, by omega, rfl, hlt, r⟩, fun x H3 y => ?_⟩
    obtain ⟨eH, rx⟩ := yl x H3 y
    subst eH
    refine ⟨S2, wipeT ρ2 vs1, h2, items[i], _, (a4.mono sb).wipe vs1, R2, rx, q2, fun ρ4 h4 q4 S4' σ4 H4' E4' R4' a4' sbx => ⟨?_, ?_⟩⟩
    · rw [sbx.wipe hv]
      exact wipe_wipe σ2 vs1
    refine ⟨S4', ρ4, h4, _, _, a4', R4', q4, fun k h5 q5 S5 H5 E5 R5 => ?_, noX⟩
    have F15 := E4'.trans E5
    have E15 := E2.trans F15
    have ap5 := ap.go F15
    have sub5 : Sub S4 S5 := ⟨Nat.le_trans sb.k F15.k, fun n hn => (F15.m n (Nat.lt_of_lt_of_le hn sb.k)).trans (sb.m n hn), fun a o q => F15.g a o (sb.g a o q)⟩
    cases k with
    | false => exact iteF ⟨S5, h5, acc, us, R5, E15, sub5, ap5, rs.mono F15.sub, by simpa using q5⟩
    | true =>
      refine iteT ⟨S5, ρ4, h5, _, _, a4'.mono E5.sub, R5, by simpa using q5, fun t h6 q6 S6 v H6 E6 R6 r6 => ?_, noX⟩
      have ap6 := ap5.go E6
      have F16 := F15.trans E6
      have sub6 : Sub S4 S6 := ⟨Nat.le_trans sub5.k E6.k, fun n hn => (E6.m n (Nat.lt_of_lt_of_le hn sub5.k)).trans (sub5.m n hn), fun a o q => E6.g a o (sub5.g a o q)⟩
      obtain ⟨R7, ap7⟩ := R6.apart (u := .lst (us ++ [v])) ap6
      refine ⟨us, ap6.at', ?_, S6, h6, acc ++ [t], us ++ [v], R7, (E15.trans E6).apart hD, sub6, ap7, (rs.mono F16.sub).append (.cons r6 .nil), q6.2⟩
      rw [← rs.length]
      exact Nat.lt_of_lt_of_le q6.1 (by decide)
  · have hl : i = items.length := by omega
    subst hl
    rw [List.drop_length] at q2
    obtain ⟨_, q2⟩ := q2
    obtain ⟨_, stop⟩ := it items.length S2 h2 H sb R2
    exact .inl ⟨stop (Nat.le_refl _), hQ acc h2 us S2 H q2 R2 E2 sb ap rs⟩
theorem lc2_sound {J : It} {Q : VK} {is vs is1 vs1 : List Nat} (hv : ∀ i ∈ is, i ∈ vs) (hv1 : ∀ i ∈ is1, i ∈ vs1) {S1 : AS} {H1 : Hp} {ρ : Rho} {h1 : AH} {items : List T} {P : AH → Prop} {Rf : List T → AH → Prop} (ar : ARel X.K S1 ρ σ) (R1 : HRel X.K X.mg S1 h1 H1) (it : ItRel X J items P S1 H1)
    (q : wCom2L P g wt wx g1 wt1 w vs vs1 ρ items [] h1 Rf) {Dl : Addr} (hD : H1 Dl = none)
    (hQ : ∀ acc h' us S' H', Rf acc h' → HRel X.K X.mg S' h' H' → Ext S1 H1 S' H' → Apart S' H' Dl (.lst us) → RelTs X.K S' acc us → Q (.ref Dl) H') :
    ∃ Wm : Nat → Nat → Hp → Prop, (∃ m, Wm 0 m (upd H1 Dl (.lst []))) ∧ ∀ i m H, Wm i m H →
      (J.stop i H ∧ Q (.ref Dl) H) ∨ (J.go i H ∧ ∃ Nx : Hp → Prop, (∀ H', Nx H' → ∃ m', m' < m ∧ Wm (i + 1) m' H') ∧ ∀ x H', J.yld i H x H' → tWGc X is g x (wipe σ vs) H' fun σ2 H2 => wipe σ2 vs = wipe σ vs ∧ tWT X WF wt σ2 H2 fun b H3 =>
        if b = true then iSeq X.K (tW X WF wx) σ2 H3 fun J1 H4 => ∃ W1 : Nat → Nat → Hp → Prop, (∃ m, W1 0 m H4) ∧ ∀ j k H, W1 j k H →
          (J1.stop j H ∧ Nx H) ∨ (J1.go j H ∧ ∃ Nx1 : Hp → Prop, (∀ H', Nx1 H' → ∃ k', k' < k ∧ W1 (j + 1) k' H') ∧ ∀ x H', J1.yld j H x H' → tWGc X is1 g1 x (wipe σ2 vs1) H' fun σ3 H5 => wipe σ3 vs1 = wipe σ2 vs1 ∧ tWT X WF wt1 σ3 H5 fun b H6 =>
            if b = true then tW X WF w σ3 H6 fun y H7 => ∃ acc, H7 Dl = some (.lst acc) ∧ acc.length < sizeLine ∧ Nx1 (upd H7 Dl (.lst (acc ++ [y]))) else Nx1 H6)
        else Nx H3) := by
  refine ⟨fun i m H => m = items.length - i ∧ i ≤ items.length ∧ ∃ S' h' acc us, HRel X.K X.mg S' h' H ∧ Ext S1 H1 S' H ∧ Apart S' H Dl (.lst us) ∧ RelTs X.K S' acc us ∧ wCom2L P g wt wx g1 wt1 w vs vs1 ρ (items.drop i) acc h' Rf, ?_, ?_⟩
  · have gn : S1.G Dl = none := by
      cases z : S1.G Dl with
      | none => rfl
      | some u => have := R1.g Dl u z; rw [hD] at this; cases this
    have nc : ∀ n, n < S1.k → S1.m n ≠ Dl := fun n hn z => by
      obtain ⟨o, q⟩ := R1.lv n hn
      rw [z, hD] at q; cases q
    obtain ⟨R2, E2⟩ := R1.other (o := .lst []) hD
    exact ⟨_, rfl, Nat.zero_le _, S1, h1, [], [], R2, E2, ⟨upd_same, nc, gn, fun _ z => nomatch z⟩, .nil, by simpa using q⟩
  · rintro i m H ⟨rfl, hle, S2, h2, acc, us, R2, E2, ap, rs, q2⟩
    by_cases hlt : i < items.length
    · have hd : items.drop i = items[i] :: items.drop (i + 1) := List.drop_eq_getElem_cons hlt
      rw [hd] at q2
      obtain ⟨hP, q2⟩ := q2
      obtain ⟨go, _⟩ := it i S2 h2 H E2 R2 hP
      obtain ⟨go, yl⟩ := go items[i] (List.getElem?_eq_getElem hlt)
      refine .inr ⟨go, fun H => ∃ S' h' acc us, HRel X.K X.mg S' h' H ∧ Ext S1 H1 S' H ∧ Apart S' H Dl (.lst us) ∧ RelTs X.K S' acc us ∧ wCom2L P g wt wx g1 wt1 w vs vs1 ρ (items.drop (i + 1)) acc h' Rf, fun H' r => ⟨_, by omega, rfl, hlt, r⟩, fun x H3 y => ?_⟩
      obtain ⟨S3, E3, R3, rx⟩ := yl x H3 y
      have E13 := E2.trans E3
      refine ⟨S3, wipeT ρ vs, h2, items[i], _, (ar.mono E13.sub).wipe vs, R3, rx, q2, fun ρ4 h4 q4 S4 σ4 H4 E4 R4 a4 sb => ⟨?_, ?_⟩⟩
      · rw [sb.wipe hv]
        exact wipe_wipe σ vs
      refine ⟨S4, ρ4, h4, _, _, a4, R4, q4, fun k h5 q5 S5 H5 E5 R5 => ?_, noX⟩
      have E15 := (E13.trans E4).trans E5
      have F15 := (E3.trans E4).trans E5
      have ap5 := ap.go F15
      have a5 := a4.mono E5.sub
      cases k with
      | false => exact iteF ⟨S5, h5, acc, us, R5, E15, ap5, rs.mono F15.sub, by simpa using q5⟩
      | true =>
        refine iteT ⟨S5, ρ4, h5, _, _, a5, R5, by simpa using q5, fun x6 h6 q6 S6 u H6 E6 R6 r6 => ?_, noX⟩
        obtain ⟨xs, hx, q6⟩ := q6
        have E16 := E15.trans E6
        have ap6 := ap5.go E6
        have rs6 := (rs.mono F15.sub).mono E6.sub
        have fin := fun (J1 : It) (itg : ItRelG X J1 xs S6) => lc1_sound (Nx := fun H => ∃ S' h' acc us, HRel X.K X.mg S' h' H ∧ Ext S1 H1 S' H ∧ Apart S' H Dl (.lst us) ∧ RelTs X.K S' acc us ∧ wCom2L P g wt wx g1 wt1 w vs vs1 ρ (items.drop (i + 1)) acc h' Rf)
          hv1 hD (a5.mono E6.sub) R6 E16 ap6 rs6 itg q6 fun acc' h' us' S' H' rf r e _ ap' rs' => ⟨S', h', acc', us', r, e, ap', rs', rf⟩
        rcases hx with rfl | rfl
        · obtain ⟨a, us', rfl, hs, _⟩ := asT_rel R6 r6 (ts := xs) rfl
          exact ⟨a, rfl, .inr ⟨⟨us', hs⟩, fin _ (itG_tup r6)⟩⟩
        · obtain ⟨a, us', rfl, hs, _⟩ := asL_rel R6 r6 (ts := xs) rfl
          exact ⟨a, rfl, .inl ⟨⟨us', hs⟩, fin _ (itG_lst r6)⟩⟩
    · have hl : i = items.length := by omega
      subst hl
      rw [List.drop_length] at q2
      obtain ⟨hP, q2⟩ := q2
      obtain ⟨_, stop⟩ := it items.length S2 h2 H E2 R2 hP
      exact .inl ⟨stop (Nat.le_refl _), hQ acc h2 us S2 H q2 R2 E2 ap rs⟩
theorem tW_com2F {wi : WIt} {is vs is1 vs1 : List Nat} (hv : ∀ i ∈ is, i ∈ vs) (hv1 : ∀ i ∈ is1, i ∈ vs1) {Q : VK} (q : tW X W (wCom2F wi g wt wx g1 wt1 w vs vs1) σ H Q) : tLc2 (tWI X W wi) (tWGc X is g) (tWT X WF wt) (iSeq X.K (tW X WF wx)) (tWGc X is1 g1) (tWT X WF wt1) (tW X WF w) vs vs1 σ H Q := by
  obtain ⟨S, ρ, h, R, RX, ar, hr, hw, hR, hX⟩ := q
  refine ⟨S, ρ, h, _, RX, ar, hr, hw, fun items P h1 q1 S1 H1 J E1 R1 it Dl hD => ?_, hX⟩
  refine lc2_sound hv hv1 (ar.mono E1.sub) R1 it q1 hD fun acc h' us S' H' rf r e ap rs => ?_
  obtain ⟨R3, E3, sb⟩ := r.adopt ap e hD
  exact hR _ h' rf _ _ H' (E1.trans E3) R3 (by simp only [RelT]; exact ⟨Dl, us, rfl, .inl upd_same, rs.mono sb⟩)
section
variable {elt iter iter1 : Expr} {ifs ifs1 : List Expr} {scope : Scope} {own : List (Str × Nat)} {wi : WIt} {is is1 : List Nat}
theorem se_com2F (own : List (Str × Nat)) (vs1 : List Nat) (hN : X.N.Nodup) (hi : SI X W tg iter wi) (hg : Blk X scope fun Y => SGc Y tg is g) (ht : Blk X scope fun Y => SCs Y ifs wt) (hi1 : Blk X scope fun Y => SE Y WF iter1 wx) (hg1 : Blk X scope fun Y => SGc Y tg1 is1 g1) (ht1 : Blk X scope fun Y => SCs Y ifs1 wt1) (he : Blk X scope fun Y => SE Y WF elt w)
    (ok : BlkOk X.N X.env.scope scope own := by exact blkOk_by (by kernel_rfl)) (hvo : ∀ i ∈ vs1, i ∈ own.map (·.2) := by decide) (hv : ∀ i ∈ is, i ∈ own.map (·.2) := by decide) (hv1 : ∀ i ∈ is1, i ∈ vs1 := by decide) (hc : X.calm = true := by rfl) (hs : ∀ x, foldedSetIterable iter X.env x = pure x := by intro _; rfl) (hs1 : ∀ env x, foldedSetIterable iter1 env x = pure x := by intro _ _; rfl) :
    SE X W (.ListComp elt [⟨tg, iter, ifs, 0⟩, ⟨tg1, iter1, ifs1, 0⟩] scope pos) (wCom2F wi g wt wx g1 wt1 w (own.map (·.2)) vs1) :=
  PE.imp (pe_lc2 (wi1 := iSeq X.K (tW X WF wx)) hc hN hi ok hvo hg ht (fun s H C cl fp => pi_seq (hi1 s H C cl fp)) hg1 ht1 he hs hs1) fun _ _ _ q => tW_com2F hv hv1 q
theorem s_setCom2F (i : Nat) {y : Str} {py spos : Pos} (own : List (Str × Nat)) (vs1 : List Nat) (hN : X.N.Nodup) (hi : SI X W tg iter wi) (hg : Blk X scope fun Y => SGc Y tg is g) (ht : Blk X scope fun Y => SCs Y ifs wt) (hi1 : Blk X scope fun Y => SE Y WF iter1 wx) (hg1 : Blk X scope fun Y => SGc Y tg1 is1 g1) (ht1 : Blk X scope fun Y => SCs Y ifs1 wt1) (he : Blk X scope fun Y => SE Y WF elt w)
    (hy : X.N[i]? = some y := by rfl) (hyl : X.env.scope.names.lookup y = some .local := by rfl) (hsw : swapsWith (.ListComp elt [⟨tg, iter, ifs, 0⟩, ⟨tg1, iter1, ifs1, 0⟩] scope pos) (some (.Name y py)) spos.line X.env = pure true := by exact sw_true rfl rfl rfl (by decide +kernel))
    (ok : BlkOk X.N X.env.scope scope own := by exact blkOk_by (by kernel_rfl)) (hvo : ∀ i ∈ vs1, i ∈ own.map (·.2) := by decide) (hv : ∀ i ∈ is, i ∈ own.map (·.2) := by decide) (hv1 : ∀ i ∈ is1, i ∈ vs1 := by decide) (hc : X.calm = true := by rfl) (hs : ∀ x, foldedSetIterable iter X.env x = pure x := by intro _; rfl) (hs1 : ∀ env x, foldedSetIterable iter1 env x = pure x := by intro _ _; rfl) :
    SS X W (.Assign [.Name y py] (.ListComp elt [⟨tg, iter, ifs, 0⟩, ⟨tg1, iter1, ifs1, 0⟩] scope pos) spos) (wAsg (wCom2F wi g wt wx g1 wt1 w (own.map (·.2)) vs1) (gNm i)) :=
  PS.imp (ps_setLc2 (wi1 := iSeq X.K (tW X WF wx)) hc hN hy hyl hsw hi ok hvo hg ht (fun s H C cl fp => pi_seq (hi1 s H C cl fp)) hg1 ht1 he hs hs1) fun D σ H ⟨S, ρ, h, E, ar, hr, hw, k⟩ => by
  refine tW_com2F hv hv1 ⟨S, ρ, h, _, _, ar, hr, hw, fun t h1 q1 S1 u H1 E1 R1 rx => ?_, k.xok ar⟩
  exact k.nx _ h1 q1 S1 _ H1 E1 R1 ((ar.mono E1.sub).set i rx)
end
end
end TL

namespace PySem
set_option maxHeartbeats 1000000 in
theorem tl_enum_new1 {v : Value} {o : Obj} {H : Heap → Prop} (B : Begins v o H) :
    Meets (Builtin.«enumerate.__new__» ⟨[.type "enumerate", v], []⟩) (fun _ R s => H s.heap ∧
      R (.ok (.ret (.ref (s.heap.push o).objs.size))) { s with heap := (s.heap.push o).push { cls := .type "enumerate", data := .fields #[.none, .bool false, .ref s.heap.objs.size, rawInt 0, .none, .none] } }) :=
  .of_wp fun prog w A R s h => by
    obtain ⟨hp, g, d, tk, os⟩ := s; obtain ⟨h1, h⟩ := h
    have hsub := sub_enumerate
    have q1 : ∀ {A' : Around} {E : Value → Shared → Prop} {Q : Value → Shared → Prop}, Q (.ref hp.objs.size) ⟨hp.push o, g, d, tk, os⟩ → wpAny (model prog w) A' (pyIter v) Q E ⟨hp, g, d, tk, os⟩ :=
      fun q => B.iter prog w _ _ ⟨hp, g, d, tk, os⟩ _ h1 q
    wp_walk using q1
    refine wpAny_stack_any fun st => wpAny_pure ?_
    split
    · rename_i c _ _ _ _ _
      cases (c == Value.type "enumerate")
      · wp_walk using q1
        exact ⟨_, rfl, h⟩
      · wp_walk using q1
        exact ⟨_, rfl, h⟩
    · wp_walk using q1
      exact ⟨_, rfl, h⟩
section
variable {prog : Program} {w : World} {A : Around} {E : Value → Shared → Prop} {s : Shared}
theorem tl_enum_begins {v : Value} {o : Obj} {H : Heap → Prop} {Q : Value → Shared → Prop} (B : Begins v o H) (h1 : H s.heap)
    (h : ∀ h', IsEnum h' (s.heap.objs.size + 1) s.heap.objs.size 0 .none → h'.get? s.heap.objs.size = some o → h'.objs.size = s.heap.objs.size + 2 →
      (∀ b o, s.heap.get? b = some o → h'.get? b = some o) → Q (.ref (s.heap.objs.size + 1)) { s with heap := h' }) :
    wpAny (model prog w) A (call (.type "enumerate") [v]) Q E s := by
  refine callType_new F.called_enumerate (by decide) (F.typeCall_enumerate_1 _) (F.newCall_enumerate_1 _) (fun obj => F.args_object_init_2 obj _) F.entry_enumerate_new
    (tl_enum_new1 B) ⟨h1, ?_⟩
  have hz : (s.heap.push o).objs.size = s.heap.objs.size + 1 := Heap.size_push ..
  show _ ∧ _
  rw [hz]
  have he : IsEnum ((s.heap.push o).push { cls := .type "enumerate", data := .fields #[.none, .bool false, .ref s.heap.objs.size, rawInt 0, .none, .none] }) (s.heap.objs.size + 1) s.heap.objs.size 0 .none := by
    have := Heap.get?_push_size (s.heap.push o) (o := { cls := .type "enumerate", data := .fields #[.none, .bool false, .ref s.heap.objs.size, rawInt 0, .none, .none] }) rfl
    rw [hz] at this; exact this
  refine ⟨⟨_, he, rfl⟩, h _ he (Heap.get?_push_of_some _ (Heap.get?_push_size _ B.free)) (by rw [Heap.size_push, hz]) fun b o x => Heap.get?_push_of_some _ (Heap.get?_push_of_some _ x)⟩
end
end PySem
namespace TL
open PySem PySem.Spec PyProof.Rows L2
/-- the tuple at a, each item in a new pair -/
def Itet (K : PySem.W.Frag) (a : Addr) : It :=
  ⟨fun i H => ∃ (xs : List V) (x : V), SqT K H a xs ∧ xs[i]? = some x, fun i H v H' => ∃ T x, v = .ref T ∧ H T = none ∧ H' = upd H T (.tup [.int (i : Nat), x]) ∧ ∀ xs, SqT K H a xs → xs[i]? = some x, fun i H => ∃ xs : List V, SqT K H a xs ∧ xs.length ≤ i⟩
theorem turn_enumT {P : Program} {w : World} {K : PySem.W.Frag} {elts : List Expr} {kk : Nat} {tpos : Pos} (a e it : Addr) :
    Turn P w K (.Tuple elts kk tpos) (Itet K a) [e, it] e (fun i h => (∃ old, IsEnum h e it ((i : Nat) : Int) old) ∧ h.IsTupleIter it a i ∧ e ≠ it) where
  mem := by simp
  obj := fun i h st b hb => by
    obtain ⟨⟨old, he⟩, ⟨o, ho, hc, hd⟩, _⟩ := st
    have e' : b = e ∨ b = it := by simpa using hb
    rcases e' with z | z
    · rw [z]; exact ⟨_, he, fun v q => nomatch q⟩
    · rw [z]; exact ⟨o, ho, fun v q => by rw [hd] at q; cases q⟩
  keep := fun i h h' st k => let ⟨⟨old, he⟩, hi, hne⟩ := st; ⟨⟨old, k e (by simp) _ he⟩, hi.at fun o q => k it (by simp) o q, hne⟩
  item := by
    intro X hP hw hK hc i pins s σ H E I hf st hg
    subst hP hw hK
    obtain ⟨⟨old, he⟩, hit, hne⟩ := st
    obtain ⟨xs, x, hq, hx⟩ := hg
    obtain ⟨its, rv, p, hz⟩ := I.tuple hq
    have p : s.heap.IsTuple a its.toArray := p
    obtain ⟨u, hu, ru⟩ := rv.get hx
    have hel : e < s.heap.objs.size := Heap.lt_size he
    have hil : it < s.heap.objs.size := by obtain ⟨_, q, _⟩ := hit; exact Heap.lt_size q
    have hai : a ≠ it := fun z => by
      obtain ⟨o1, h1, h2, _⟩ := hit
      obtain ⟨o2, h3, h4, _⟩ := p
      rw [z, h1] at h3; cases h3
      rw [h2] at h4
      exact absurd (Value.type.inj h4) (by decide)
    have hae : a ≠ e := fun z => by
      obtain ⟨o2, h3, h4, _⟩ := p
      rw [z, he] at h3; cases h3
      exact absurd (Value.type.inj h4) (by decide)
    have ui : its.toArray[i]? = some u := by simpa using hu
    have ilt : i < its.toArray.size := (Array.getElem?_eq_some_iff.mp ui).1
    have hd1 : X.A.in1.handled = none := I.ok.hd hc
    refine wpAny_pyNext_enum_itemD (Draws.tuple hd1 it a hai its.toArray) he ⟨hit, p⟩ ilt hne (by simp [hne, Ne.symm hae]) fun y h' tk hy ho hst hT hsz hk => ?_
    have hy : its.toArray[i]? = some y := hy
    rw [ui] at hy; cases hy
    refine ⟨_, rfl, wpAny_letOwnedTupleGo_enum (s := { s with heap := h', toks := tk + 1 }) ho fun h'' he' sb => ?_⟩
    have hT2 : h''.get? s.heap.objs.size = some { cls := .type "tuple", data := .seq #[.int i tk, u] } := (sb.2 _ (Nat.ne_of_gt hel)).trans hT
    have new : ObjOk X.prog X.w (upd H s.heap.objs.size (.tup [.int (i : Nat), x])) h'' s.heap.objs.size (.tup [.int (i : Nat), x]) :=
      ⟨by show 2 ≤ sizeLine; decide, [.int i tk, u], .cons ⟨_, rfl⟩ (.cons ru .nil), ⟨_, hT2, rfl, _, rfl⟩⟩
    have I1 : Inv X pins σ (upd H s.heap.objs.size (.tup [.int (i : Nat), x])) { s with heap := h'', toks := tk + 1 } :=
      I.turnedNew (ch := [e, it]) (fun b ob hb q => (sb.2 b (fun z => hb (by simp [z]))).trans (hk b ob (fun z => hb (by simp [z])) (fun z => hb (by simp [z])) q)) hf (Nat.le_refl _) new
    refine ⟨.ref s.heap.objs.size, _, I1, rfl, ⟨_, x, rfl, I.hok.fresh (Nat.le_refl _), rfl, fun ys hy => by rw [I.tuple_inj hy hq]; exact hx⟩, ⟨⟨u, ?_⟩, hst.1.at fun o q => (sb.2 it (Ne.symm hne)).trans q, hne⟩, fun b hb => ?_⟩
    · have e1 : ((i + 1 : Nat) : Int) = (i : Int) + 1 := by omega
      rw [e1]; exact he'
    · have hb' : b < s.heap.objs.size := by
        have e' : b = e ∨ b = it := by simpa using hb
        rcases e' with z | z
        · rw [z]; exact hel
        · rw [z]; exact hil
      rw [upd_ne (Nat.ne_of_lt hb')]
      exact (hf b hb).1
  done := by
    intro X hP hw hK hc i pins s σ H E I hf st hg
    subst hP hw hK
    obtain ⟨⟨old, he⟩, hit, hne⟩ := st
    obtain ⟨xs, hq, hx⟩ := hg
    obtain ⟨its, rv, p, hz⟩ := I.tuple hq
    have p : s.heap.IsTuple a its.toArray := p
    obtain ⟨f0, f1, f2, f3, f4, f5⟩ := hf it (by simp)
    have hl := rv.length
    have hd1 : X.A.in1.handled = none := I.ok.hd hc
    have hT : s.TypeIs (.ref e) "enumerate" := ⟨_, he, rfl⟩
    unfold pyNext
    refine wpAny_bind (wpAny_attempt (wpAny_callSpecial?_slot (name := Str.ofString "__next__") hT F.slot_enumerate_next
      (wpAny_call_entry F.slot_enumerate_next hT F.entry_enumerate_next ?_ (F.args_enumerate_next_1 _))))
    show wpAny _ _ (field (.ref e) 2 >>= _) _ _ _
    refine wpAny_bind (wpAny_field he rfl (x := .ref it) rfl ?_)
    refine wpAny_bind (wpAny_nextOf_tuple_end hd1 hit p (by simp; omega) fun h' x he' hx' => ?_)
    obtain ⟨o, ho, hc'⟩ := hx'
    refine wpAny_bind (wpAny_isInstance (T := "StopIteration") (b := true) ⟨o, ho, hc'⟩ isSubtype_stop ?_)
    exact wpAny_pure ⟨rfl, I.turned (t' := s.toks) (fun b o hb q => he' b o hb q) f0 f1 f3 f4 f5⟩
  self := fun A i s Q E st h => let ⟨⟨_, he⟩, _⟩ := st; wpAny_pyIter_enum he h
/-- enumerate(list or tuple) -/
def iEnumA (K : PySem.W.Frag) (ta : TA) : TI := fun σ H R => ta σ H fun vs H1 => ∃ a, vs = [.ref a] ∧ (((∃ xs, SqL K H1 a xs) ∧ R (Ite K a) H1) ∨ ((∃ xs, SqT K H1 a xs) ∧ R (Itet K a) H1))
theorem pi_enumA {X : Cx} {e : Expr} {ta : TA} {p pos tpos : Pos} {elts : List Expr} {kk : Nat} (hg : Gl X "enumerate") (hm : X.mg "enumerate" = none) (ha : PA X [e] ta) (hs : starEach [e] X.env = [(false, eval e X.env)] := by rfl) :
    PI X (.Tuple elts kk tpos) (.Call (.Name "enumerate" p) [e] [] pos) (iEnumA X.K ta) := by
  refine ⟨fun pins s σ H R I h => ?_⟩
  refine Call_ (ld_blt I hg hm boot_enumerate (PyProof.Rows.callWith_type1 (thn (ha.run pos pins s σ H _ I h) fun us s1 ⟨vs, H1, I1, r1, q1⟩ => ?_) hs rfl))
  obtain ⟨a, ex, q⟩ := q1
  subst ex
  cases r1 with
  | cons r rr =>
    cases rr
    cases r
    have fp : ∀ b, b = s1.heap.objs.size + 1 ∨ b = s1.heap.objs.size → s1.heap.objs.size ≤ b := fun b e' => by
      rcases e' with z | z
      · rw [z]; exact Nat.le_add_right _ _
      · rw [z]; exact Nat.le_refl _
    rcases q with ⟨⟨xs, hq⟩, q⟩ | ⟨⟨xs, hq⟩, q⟩
    · obtain ⟨its, rv, p', hz⟩ := I1.list hq
      refine call_enumerate_list p'.isList fun h' he hit hsz hk => wpAny_pyIter_enum he ?_
      have I2 : Inv X pins σ H1 { s1 with heap := h' } := I1.kept (t' := s1.toks) hk
      refine ⟨s1.heap.objs.size + 1, [s1.heap.objs.size + 1, s1.heap.objs.size], _, _, H1, rfl, I2, turn_enum a (s1.heap.objs.size + 1) s1.heap.objs.size, ⟨⟨.none, he⟩, hit, Nat.succ_ne_self _⟩, fun b hb => ?_, q⟩
      have hle := fp b (by simpa using hb)
      exact I1.fpOk hle (I1.hok.fresh hle)
    · obtain ⟨its, rv, p', hz⟩ := I1.tuple hq
      refine tl_enum_begins (begins_tuple a its.toArray) (show s1.heap.IsTuple a its.toArray from p') fun h' he hit hsz hk => wpAny_pyIter_enum he ?_
      have I2 : Inv X pins σ H1 { s1 with heap := h' } := I1.kept (t' := s1.toks) hk
      refine ⟨s1.heap.objs.size + 1, [s1.heap.objs.size + 1, s1.heap.objs.size], _, _, H1, rfl, I2, turn_enumT a (s1.heap.objs.size + 1) s1.heap.objs.size, ⟨⟨.none, he⟩, ⟨_, hit, rfl, rfl⟩, Nat.succ_ne_self _⟩, fun b hb => ?_, q⟩
      have hle := fp b (by simpa using hb)
      exact I1.fpOk hle (I1.hok.fresh hle)
section
variable {X : Cx} {W : WX} {σ : L2.St} {S S' : AS} {H H' : Hp} {e a b c o tg : Expr} {es : List Expr} {w wa wb wo : WEx} {pos p p2 : Pos} {wr : WAr}
def numT (xs : List T) : List T := xs.zipIdx.map fun p => .tup [.int (p.2 : Int), p.1]
theorem numT_at {xs : List T} {i : Nat} {t : T} (h : (numT xs)[i]? = some t) : ∃ x, xs[i]? = some x ∧ t = .tup [.int (i : Int), x] := by
  unfold numT at h
  rw [List.getElem?_map, List.getElem?_zipIdx] at h
  cases q : xs[i]? with
  | none => rw [q] at h; cases h
  | some x => rw [q] at h; cases h; exact ⟨x, rfl, by simp⟩
theorem numT_len {xs : List T} : (numT xs).length = xs.length := by simp [numT]
/-- what enumerate over this value goes through -/
def wEnum (wr : WAr) : WIt := fun ρ h R RX => wr ρ h (fun ts h1 => ∃ x, ts = [x] ∧ ((∃ xs, x = .tup xs ∧ R (numT xs) (fun _ => True) h1) ∨ (∃ xs, x = .lst xs ∧ R (numT xs) (fun _ => True) h1) ∨ (∃ xs, x = .scr xs ∧ R (numT xs) (fun _ => True) h1) ∨ ∃ n xs, x = .ref n ∧ h1[n]? = some (.lst xs) ∧ R (numT xs) (fun h' => h'[n]? = some (.lst xs)) h1)) RX
theorem pair_new {X : Cx} {S' : AS} {h' : AH} {H' : Hp} {T0 : Addr} {x : V} {t : T} {i : Nat} (hr : HRel X.K X.mg S' h' H') (hT : H' T0 = none) (rx : RelT X.K S' t x) :
    ∃ S'', Ext S' H' S'' (upd H' T0 (.tup [.int (i : Nat), x])) ∧ HRel X.K X.mg S'' h' (upd H' T0 (.tup [.int (i : Nat), x])) ∧ RelT X.K S'' (.tup [.int (i : Int), t]) (.ref T0) := by
  obtain ⟨R', E⟩ := hr.new (o := .tup [.int (i : Nat), x]) hT
  exact ⟨_, E, R', by simp only [RelT]; exact ⟨T0, _, rfl, upd_same, .cons (by simp [RelT]) (.cons (rx.mono E.sub) .nil)⟩⟩
theorem ite_rel {a : Addr} {xs : List T} {P : AH → Prop} {S0 : AS} {H0 : Hp} (hs : ∀ S' h' H', Ext S0 H0 S' H' → HRel X.K X.mg S' h' H' → P h' → ∃ us, SqL X.K H' a us ∧ RelTs X.K S' xs us) : ItRel X (Ite X.K a) (numT xs) P S0 H0 := fun i S' h' H' e r hP => by
  obtain ⟨us, q, rs⟩ := hs S' h' H' e r hP
  refine ⟨fun t ht => ?_, fun hl => ⟨us, q, by rw [← rs.length, ← numT_len (xs := xs)]; exact hl⟩⟩
  obtain ⟨x, hx, rfl⟩ := numT_at ht
  obtain ⟨u, hu, ru⟩ := rs.get hx
  refine ⟨⟨us, u, q, hu⟩, fun v H'' ⟨T0, y, ev, hT, eH, hy⟩ => ?_⟩
  have := hy us q
  rw [hu] at this
  cases this
  subst ev eH
  exact pair_new r hT ru
theorem itet_rel {a : Addr} {xs : List T} {P : AH → Prop} {S0 : AS} {H0 : Hp} (hs : ∀ S' h' H', Ext S0 H0 S' H' → HRel X.K X.mg S' h' H' → P h' → ∃ us, SqT X.K H' a us ∧ RelTs X.K S' xs us) : ItRel X (Itet X.K a) (numT xs) P S0 H0 := fun i S' h' H' e r hP => by
  obtain ⟨us, q, rs⟩ := hs S' h' H' e r hP
  refine ⟨fun t ht => ?_, fun hl => ⟨us, q, by rw [← rs.length, ← numT_len (xs := xs)]; exact hl⟩⟩
  obtain ⟨x, hx, rfl⟩ := numT_at ht
  obtain ⟨u, hu, ru⟩ := rs.get hx
  refine ⟨⟨us, u, q, hu⟩, fun v H'' ⟨T0, y, ev, hT, eH, hy⟩ => ?_⟩
  have := hy us q
  rw [hu] at this
  cases this
  subst ev eH
  exact pair_new r hT ru
theorem si_enum {elts : List Expr} {kk : Nat} {tpos : Pos} (hm : X.mg "enumerate" = none) (ha : SA X W [e] wr) (hg : Gl X "enumerate" := by rfl) (hs : starEach [e] X.env = [(false, eval e X.env)] := by rfl) :
    SI X W (.Tuple elts kk tpos) (.Call (.Name "enumerate" p) [e] [] pos) (wEnum wr) := PI.imp (pi_enumA hg hm ha hs) fun σ H Q ⟨S, ρ, h, R, RX, ar, hr, hw, hR, hX⟩ => by
  refine ⟨S, ρ, h, _, RX, ar, hr, hw, fun ts h1 q1 S1 us H1 E1 R1 rs => ?_, hX⟩
  obtain ⟨x, rfl, q1⟩ := q1
  obtain ⟨u, rfl, rx⟩ := rel1 rs
  have frz : ∀ ts, asL h1 x = some ts → (∀ h', asL h' x = some ts) → R (numT ts) (fun _ => True) h1 → ∃ a, [u] = [V.ref a] ∧ (((∃ xs, SqL X.K H1 a xs) ∧ Q (Ite X.K a) H1) ∨ ((∃ xs, SqT X.K H1 a xs) ∧ Q (Itet X.K a) H1)) := fun ts e1 e2 q => by
    obtain ⟨a, us, rfl, h2, r2⟩ := asL_rel R1 rx e1
    refine ⟨a, rfl, .inl ⟨⟨us, h2⟩, hR (numT ts) _ h1 q S1 H1 _ E1 R1 (ite_rel fun S' h' H' e r _ => ?_)⟩⟩
    obtain ⟨a', us', e3, h3, r3⟩ := asL_rel r (rx.mono e.sub) (e2 h')
    cases e3
    exact ⟨us', h3, r3⟩
  rcases q1 with ⟨ts, rfl, q⟩ | ⟨ts, rfl, q⟩ | ⟨ts, rfl, q⟩ | ⟨n, ts, rfl, hn, q⟩
  · obtain ⟨a, us, rfl, h2, r2⟩ := asT_rel R1 rx (ts := ts) rfl
    refine ⟨a, rfl, .inr ⟨⟨us, h2⟩, hR (numT ts) _ h1 q S1 H1 _ E1 R1 (itet_rel fun S' h' H' e r _ => ?_)⟩⟩
    obtain ⟨a', us', e1, h3, r3⟩ := asT_rel r (rx.mono e.sub) (ts := ts) rfl
    cases e1
    exact ⟨us', h3, r3⟩
  · exact frz ts rfl (fun _ => rfl) q
  · exact frz ts rfl (fun _ => rfl) q
  · simp only [RelT] at rx
    obtain ⟨hk, rfl⟩ := rx
    obtain ⟨us, h2, r2⟩ := R1.c n _ hn
    refine ⟨_, rfl, .inl ⟨⟨us, .of h2⟩, hR (numT ts) _ h1 q S1 H1 _ E1 R1 (ite_rel fun S' h' H' e r hP => ?_)⟩⟩
    obtain ⟨us', h3, r3⟩ := r.c n _ hP
    rw [e.m n hk] at h3
    exact ⟨us', .of h3, r3⟩
end
end TL

namespace TL
open PySem PySem.Spec PyProof.Rows L2
def repS (x : Str) (n : Int) : Str := if n < 1 then Str.empty else if (n == 1 || x.length == 0) = true then x else ⟨(List.replicate n.toNat x.cps).foldl (· ++ ·) #[]⟩
def opMulS : Op2 := fun _ x y => match x, y with
  | .str a, .int k => if 0 ≤ k ∧ k ≤ 1000 ∧ a.length ≤ 1000 then some (.str (repS a k)) else none
  | _, _ => none
section
variable {X : Cx} {S : AS} {H : Hp}
theorem op_mulStr : OpR X (binaryOp .Mult) (fun x y H Q => ∃ a k, x = .str a ∧ y = .int k ∧ 0 ≤ k ∧ k ≤ 1000 ∧ a.length ≤ 1000 ∧ Q (.str (repS a k)) H) := by
  intro pins s σ H x y v u Q I rx ry h
  obtain ⟨a, k, rfl, rfl, h0, h1, ha, q⟩ := h
  obtain ⟨t, rfl⟩ := rx
  obtain ⟨t', rfl⟩ := ry
  have hn : (a.length : Int) * k ≤ 1000000 := by
    have a1 : ((a.length : Nat) : Int) * k ≤ 1000 * k := Int.mul_le_mul_of_nonneg_right (by omega) h0
    omega
  have hlen : ¬ k < 1 → (k == 1 || a.length == 0) = false → PySem.Builtin.Str.tooLong (a.length * k.toNat) = false := fun _ _ => by
    have h2 : a.length * k.toNat ≤ 1000 * 1000 := Nat.mul_le_mul ha (by omega)
    unfold PySem.Builtin.Str.tooLong
    have : (1000 * 1000 : Nat) ≤ sizeLine := by decide
    exact decide_eq_false (by omega)
  refine PySem.P.mul_str (by rw [decide_eq_false (by omega), decide_eq_false (by omega)]; rfl) (fun hk _ hgt => ?_) hlen ?_
  · have h2 : (1000 : Int) ≤ (2 ^ 63 - 1) / k := Int.le_ediv_of_mul_le (by omega) (by omega)
    omega
  · unfold repS at q
    by_cases c1 : k < 1
    · rw [if_pos c1] at q ⊢
      exact ⟨by decide, ⟨.str _, H, I.tok _, ⟨_, rfl⟩, q⟩⟩
    · rw [if_neg c1] at q ⊢
      by_cases c2 : (k == 1 || a.length == 0) = true
      · rw [if_pos c2] at q ⊢
        exact ⟨.str _, H, I.tok _, ⟨_, rfl⟩, q⟩
      · rw [if_neg c2] at q ⊢
        exact ⟨fits_reps (hlen c1 (by simpa using c2)), ⟨.str _, H, I.tok _, ⟨_, rfl⟩, q⟩⟩
theorem o_mulS : OpR X (binaryOp .Mult) (rO X.K X.mg opMulS) := OpR.imp op_mulStr fun x y H Q ⟨S, h, t, t', z, hr, rx, ry, e, q⟩ => by
  unfold opMulS at e
  split at e
  · split at e
    · rename_i hz
      cases e
      simp only [RelT] at rx ry
      subst rx ry
      exact ⟨_, _, rfl, rfl, hz.1, hz.2.1, hz.2.2, q S _ H (Ext.refl S H) hr (by simp [RelT])⟩
    · cases e
  · cases e
def opIntS : OpN := fun _ ts => match ts with
  | [.str a] => if a.length ≤ 640 then (PySem.intText? a).map .int else none
  | _ => none
theorem c_intS : CallR X (.type "int") (rN X.K X.mg opIntS) := CallR.imp call_int_str fun vs H Q ⟨S, h, ts, z, hr, rs, e, q⟩ => by
  unfold opIntS at e
  split at e
  · obtain ⟨u, rfl, r⟩ := rel1 rs
    simp only [RelT] at r; subst r
    split at e
    · rename_i hl
      obtain ⟨n, hn, rfl⟩ := Option.map_eq_some_iff.mp e
      exact ⟨_, n, rfl, hn, hl, q S _ H (Ext.refl S H) hr (by simp [RelT])⟩
    · cases e
  · cases e
end
end TL

namespace TL
open PySem PySem.Spec PyProof.Rows L2 RZ
section
variable {X : Cx} {W : WX} {σ : L2.St} {S S' : AS} {H H' : Hp} {e e2 a b c o tg : Expr} {es : List Expr} {w wa wb wo : WEx} {pos p p2 : Pos} {wr : WAr}
def zipT (xs ys : List T) : List T := List.zipWith (fun a b => .tup [a, b]) xs ys
theorem zipT_at {xs ys : List T} {i : Nat} {t : T} (h : (zipT xs ys)[i]? = some t) : ∃ x y, xs[i]? = some x ∧ ys[i]? = some y ∧ t = .tup [x, y] := by
  unfold zipT at h
  rw [List.getElem?_zipWith] at h
  cases q : xs[i]? with
  | none => rw [q] at h; cases h
  | some x =>
    cases q2 : ys[i]? with
    | none => rw [q, q2] at h; cases h
    | some y => rw [q, q2] at h; cases h; exact ⟨x, y, rfl, rfl, rfl⟩
theorem zipT_len {xs ys : List T} : (zipT xs ys).length = min xs.length ys.length := by simp [zipT]
/-- what zip over two values goes through -/
def wZip (wr : WAr) : WIt := fun ρ h R RX => wr ρ h (fun ts h1 => ∃ x y xs ys, ts = [x, y] ∧ ((x = .tup xs ∧ y = .tup ys ∧ R (zipT xs ys) (fun _ => True) h1) ∨
  (asL h1 x = some xs ∧ asL h1 y = some ys ∧ R (zipT xs ys) (fun h' => asL h' x = some xs ∧ asL h' y = some ys) h1))) RX
theorem pair_new2 {S' : AS} {h' : AH} {H' : Hp} {T0 : Addr} {x y : V} {t t2 : T} (hr : HRel X.K X.mg S' h' H') (hT : H' T0 = none) (rx : RelT X.K S' t x) (ry : RelT X.K S' t2 y) :
    ∃ S'', Ext S' H' S'' (upd H' T0 (.tup [x, y])) ∧ HRel X.K X.mg S'' h' (upd H' T0 (.tup [x, y])) ∧ RelT X.K S'' (.tup [t, t2]) (.ref T0) := by
  obtain ⟨R', E⟩ := hr.new (o := .tup [x, y]) hT
  exact ⟨_, E, R', by simp only [RelT]; exact ⟨T0, _, rfl, upd_same, .cons (rx.mono E.sub) (.cons (ry.mono E.sub) .nil)⟩⟩
theorem itz_rel {a b : Addr} {xs ys : List T} {P : AH → Prop} {S0 : AS} {H0 : Hp} (hs : ∀ S' h' H', Ext S0 H0 S' H' → HRel X.K X.mg S' h' H' → P h' → ∃ us vs, SqL X.K H' a us ∧ RelTs X.K S' xs us ∧ SqL X.K H' b vs ∧ RelTs X.K S' ys vs) : ItRel X (Itz X.K a b) (zipT xs ys) P S0 H0 := fun i S' h' H' e r hP => by
  obtain ⟨us, vs, q, rs, q2, rs2⟩ := hs S' h' H' e r hP
  refine ⟨fun t ht => ?_, fun hl => ⟨us, vs, q, q2, by rw [zipT_len] at hl; rw [← rs.length, ← rs2.length]; omega⟩⟩
  obtain ⟨x, y, hx, hy, rfl⟩ := zipT_at ht
  obtain ⟨u, hu, ru⟩ := rs.get hx
  obtain ⟨u2, hu2, ru2⟩ := rs2.get hy
  refine ⟨⟨us, vs, u, u2, q, q2, hu, hu2⟩, fun v H'' ⟨T0, y1, y2, ev, hT, eH, h1, h2⟩ => ?_⟩
  have e1 := h1 us q
  rw [hu] at e1; cases e1
  have e2 := h2 vs q2
  rw [hu2] at e2; cases e2
  subst ev eH
  exact pair_new2 r hT ru ru2
theorem itzT_rel {a b : Addr} {xs ys : List T} {P : AH → Prop} {S0 : AS} {H0 : Hp} (hs : ∀ S' h' H', Ext S0 H0 S' H' → HRel X.K X.mg S' h' H' → P h' → ∃ us vs, SqT X.K H' a us ∧ RelTs X.K S' xs us ∧ SqT X.K H' b vs ∧ RelTs X.K S' ys vs) : ItRel X (ItzT X.K a b) (zipT xs ys) P S0 H0 := fun i S' h' H' e r hP => by
  obtain ⟨us, vs, q, rs, q2, rs2⟩ := hs S' h' H' e r hP
  refine ⟨fun t ht => ?_, fun hl => ⟨us, vs, q, q2, by rw [zipT_len] at hl; rw [← rs.length, ← rs2.length]; omega⟩⟩
  obtain ⟨x, y, hx, hy, rfl⟩ := zipT_at ht
  obtain ⟨u, hu, ru⟩ := rs.get hx
  obtain ⟨u2, hu2, ru2⟩ := rs2.get hy
  refine ⟨⟨us, vs, u, u2, q, q2, hu, hu2⟩, fun v H'' ⟨T0, y1, y2, ev, hT, eH, h1, h2⟩ => ?_⟩
  have e1 := h1 us q
  rw [hu] at e1; cases e1
  have e2 := h2 vs q2
  rw [hu2] at e2; cases e2
  subst ev eH
  exact pair_new2 r hT ru ru2
theorem si_zip {elts : List Expr} {kk : Nat} {tpos : Pos} (hm : X.mg "zip" = none) (ha : SA X W [e, e2] wr) (hg : Gl X "zip" := by rfl) (hs : starEach [e, e2] X.env = (false, eval e X.env) :: starEach [e2] X.env := by rfl) (hpl : (backTo pos (starEach [e2] X.env)).any (·.1) = false := by rfl) :
    SI X W (.Tuple elts kk tpos) (.Call (.Name "zip" p) [e, e2] [] pos) (wZip wr) := PI.imp (pi_zipA hg hm ha hs hpl) fun σ H Q ⟨S, ρ, h, R, RX, ar, hr, hw, hR, hX⟩ => by
  refine ⟨S, ρ, h, _, RX, ar, hr, hw, fun ts h1 q1 S1 us H1 E1 R1 rs => ?_, hX⟩
  obtain ⟨x, y, xs, ys, rfl, q1⟩ := q1
  obtain ⟨u, u2, rfl, rx, ry⟩ := rel2 rs
  rcases q1 with ⟨rfl, rfl, q⟩ | ⟨e1, e2, q⟩
  · obtain ⟨a, us, rfl, h2, r2⟩ := asT_rel R1 rx (ts := xs) rfl
    obtain ⟨b, vs, rfl, h3, r3⟩ := asT_rel R1 ry (ts := ys) rfl
    refine ⟨a, b, us, vs, rfl, .inr ⟨h2, h3, hR _ _ h1 q S1 H1 _ E1 R1 (itzT_rel fun S' h' H' e r _ => ?_)⟩⟩
    obtain ⟨a', us', e4, h4, r4⟩ := asT_rel r (rx.mono e.sub) (ts := xs) rfl
    cases e4
    obtain ⟨b', vs', e5, h5, r5⟩ := asT_rel r (ry.mono e.sub) (ts := ys) rfl
    cases e5
    exact ⟨us', vs', h4, r4, h5, r5⟩
  · obtain ⟨a, us, rfl, h2, r2⟩ := asL_rel R1 rx e1
    obtain ⟨b, vs, rfl, h3, r3⟩ := asL_rel R1 ry e2
    refine ⟨a, b, us, vs, rfl, .inl ⟨h2, h3, hR _ _ h1 q S1 H1 _ E1 R1 (itz_rel fun S' h' H' e r hP => ?_)⟩⟩
    obtain ⟨a', us', e4, h4, r4⟩ := asL_rel r (rx.mono e.sub) hP.1
    cases e4
    obtain ⟨b', vs', e5, h5, r5⟩ := asL_rel r (ry.mono e.sub) hP.2
    cases e5
    exact ⟨us', vs', h4, r4, h5, r5⟩
end
end TL

namespace PySem
theorem tl_walk1 {prog : Program} {w : World} {A : Around} (hh : A.handled = none) (I ax : Addr) (hne : ax ≠ I) (items : Array Value) (hn : 1 ≤ items.size) :
    Walks prog w A I [I, ax] [I] (items.size - 1) (fun i v => items[i + 1]? = some v) (fun i h => h.IsTupleIter I ax (i + 1) ∧ h.IsTuple ax items) :=
  let W := Walks.tuple (prog := prog) (w := w) (A := A) hh I ax hne items
  { sub := W.sub
    frame := fun i h h' st hk => W.frame (i + 1) h h' st hk
    item := fun i s Q E hi st hQ => W.item (i + 1) s Q E (by omega) st hQ
    done := fun s Q E st hQ => W.done s Q E (by rw [show items.size = items.size - 1 + 1 by omega]; exact st) hQ
    self := fun i s Q E st hQ => W.self (i + 1) s Q E st hQ }
section
variable {prog : Program} {w : World} {A : Around} {E : Value → Shared → Prop} {s : Shared}
theorem tl_unpack1 {t : Addr} {items : Array Value} {Q : List Value → Shared → Prop} (hh : A.handled = none) (ht : s.heap.IsTuple t items) (hn : 1 ≤ items.size) (hsz : items.size ≤ sizeLine)
    (hQ : ∀ (h' : Heap) tk (x : Value), items[0]? = some x → (∀ b o, s.heap.get? b = some o → h'.get? b = some o) → Q [x, .ref h'.objs.size] { s with heap := h'.push { cls := .type "list", data := .seq (items.toList.drop 1).toArray }, toks := tk }) :
    wpAny (model prog w) A (unpackItems (.ref t) 2 (some 1)) Q E s := by
  have hlt : t ≠ s.heap.objs.size := by obtain ⟨o, ho, _⟩ := ht; exact Nat.ne_of_lt (Heap.lt_size ho)
  have hd1 : A.in1.handled = none := hh
  unfold unpackItems
  refine wpAny_bind ?_
  · unfold notIterableAtAll
    refine wpAny_bind (wpAny_specialOf ht.typeIs F.slot_tuple_iter.lookup ?_)
    refine wpAny_pure ?_
    simp only [Bool.false_eq_true, if_false]
    refine wpAny_bind (wpAny_holding (wpAny_pyIter_tuple ht ?_))
    refine wpAny_bind (wpAny_holding (wpAny_draw_tuple hlt 1 0 _ _ ⟨_, Heap.get?_push_size _ rfl, rfl, rfl⟩ (ht.push _) (by omega) fun h₁ hit₁ hs₁ => ?_))
    have e1 : List.take 1 (List.drop 0 items.toList) = [items[0]] := by
      rw [List.drop_zero]
      cases items with
      | mk l =>
        cases l with
        | nil => simp at hn
        | cons a l => simp
    rw [e1]
    rw [if_neg (by simp)]
    have ht₁ : h₁.IsTuple t items := (ht.push _).extBut hs₁.extBut hlt
    refine wpAny_bind (wpAny_holding (wpAny_collect_iter (T := "tuple_iterator") (.inr (.inr (.inr rfl))) (tl_walk1 hd1 s.heap.objs.size t hlt items hn).toS (fun i s' st => st.1.typeIs) (by exact ⟨hit₁, ht₁⟩) ?_ (by simp) ?_ (by omega)))
    · intro b hb
      show b < h₁.objs.size
      have : b = s.heap.objs.size ∨ b = t := by simpa using hb
      rcases this with z | z
      · rw [z]; obtain ⟨o, ho, _⟩ := hit₁; exact Heap.lt_size ho
      · rw [z]; obtain ⟨o, ho, _⟩ := ht₁; exact Heap.lt_size ho
    · intro s' acc hm hacc
      have hal : acc.toList = items.toList.drop 1 := by
        apply List.ext_getElem?
        intro j
        rw [List.getElem?_drop, Array.getElem?_toList, Array.getElem?_toList]
        by_cases hj : j < acc.size
        · have h1 : acc[j]? = some acc[j] := by simp [hj]
          rw [h1, Nat.add_comm, hacc.2 j _ h1]
        · have h1 : acc[j]? = none := by simp; omega
          have h2 : items[1 + j]? = none := by have := hacc.1; simp; omega
          rw [h1, h2]
      rw [hal]
      simp only [Nat.sub_self]
      rw [if_neg (by simp)]
      simp only [Nat.sub_zero]
      rw [List.take_of_length_le (Nat.le_refl _), List.drop_length]
      obtain ⟨h2, tk, hs'⟩ : ∃ h2 tk, s' = { s with heap := h2, toks := tk } := ⟨s'.heap, s'.toks, by have := Moved.eq_with hm; exact this⟩
      subst hs'
      have hk : ∀ b o, s.heap.get? b = some o → h2.get? b = some o := fun b o e => by
        have hb : b ≠ s.heap.objs.size := Nat.ne_of_lt (Heap.lt_size e)
        exact hm.heap b o (by simpa using hb) (hs₁.extBut b o hb (Heap.get?_push_of_some _ e))
      refine wpAny_bind (wpAny_newObj_type ?_ (by show ((items.toList.drop 1).toArray).size ≤ sizeLine; simp; omega))
      refine wpAny_pure ?_
      exact hQ h2 tk items[0] (by simp) hk
theorem tl_assign1 {env : Env} {e1 e2 : Expr} {p2 : Pos} {k : Nat} {pos : Pos} {t : Addr} {items : Array Value} {Q : Unit → Shared → Prop} (hh : A.handled = none) (ht : s.heap.IsTuple t items) (hn : 1 ≤ items.size) (hsz : items.size ≤ sizeLine)
    (he : assignEach [e1, .Starred e2 p2] env = [(false, assign e1 env), (true, assign e2 env)])
    (h : ∀ (h' : Heap) tk (x : Value), items[0]? = some x → (∀ b o, s.heap.get? b = some o → h'.get? b = some o) → wpAny (model prog w) A (assignInOrder [assign e1 env, assign e2 env] [x, .ref h'.objs.size]) Q E { s with heap := h'.push { cls := .type "list", data := .seq (items.toList.drop 1).toArray }, toks := tk }) :
    wpAny (model prog w) A (assign (.Tuple [e1, .Starred e2 p2] k pos) env (.ref t)) Q E s := by
  rw [arm_assign_Tuple]
  refine wpAny_bind (wpAny_standAt ?_)
  unfold unpack
  rw [he]
  exact wpAny_bind (wpAny_holding (tl_unpack1 hh ht hn hsz h))
end
end PySem

namespace TL
open PySem PySem.Spec PyProof.Rows L2
/-- a, *r = a tuple of one at least; r a new list -/
def gStar1V (K : PySem.W.Frag) (t : TGs) : TG := fun v σ H Q => ∃ a x xs, v = .ref a ∧ SqT K H a (x :: xs) ∧ ∀ p, H p = none → t [x, .ref p] σ (upd H p (.lst xs)) Q
theorem pg_star1 {X : Cx} {e1 e2 : Expr} {p2 pos : Pos} {k : Nat} {t : TGs} (hc : X.calm = true) (h : PGs X [e1, e2] t)
    (he : assignEach [e1, .Starred e2 p2] X.env = [(false, assign e1 X.env), (true, assign e2 X.env)] := by rfl) (he2 : (assignEach [e1, e2] X.env).map (·.2) = [assign e1 X.env, assign e2 X.env] := by rfl) : PG X (.Tuple [e1, .Starred e2 p2] k pos) (gStar1V X.K t) := by
  refine ⟨fun pins s σ H v u Q I r hw => ?_⟩
  obtain ⟨a, x, xs, e1', hq, hw⟩ := hw
  subst e1'
  cases r
  obtain ⟨its, rv, ht, hz⟩ := I.tuple hq
  have ht : s.heap.IsTuple a its.toArray := ht
  have hl : its.length = xs.length + 1 := by rw [← rv.length]; rfl
  refine tl_assign1 (I.ok.hd hc) ht (by simp; omega) (by have hz' : xs.length + 1 ≤ sizeLine := (by simpa using hz); simp; omega) he fun h' tk y hy hk => ?_
  cases its with
  | nil => simp at hl
  | cons y0 its =>
    have hy : y0 = y := by simpa using hy
    subst hy
    cases rv with
    | cons r1 r2 =>
      have I1 : Inv X pins σ H { s with heap := h' } := I.kept (t' := s.toks) hk
      have hn : H h'.objs.size = none := I1.hok.fresh (Nat.le_refl _)
      have hxl : xs.length ≤ sizeLine := by have := hz; simp at this; rw [List.length_cons] at hl; omega
      have I2 : Inv X pins σ (upd H h'.objs.size (.lst xs)) { s with heap := h'.push { cls := .type "list", data := .seq ((y0 :: its).toArray.toList.drop 1).toArray }, toks := tk } :=
        I1.laid (t' := tk) (fun b o e => Heap.get?_push_of_some _ e) (Nat.le_refl _) ⟨hxl, its, 0, r2, Heap.get?_push_size _ rfl⟩
      have := h.run pins _ σ (upd H h'.objs.size (.lst xs)) [x, .ref h'.objs.size] [y0, .ref h'.objs.size] Q I2 (.cons r1 (.cons rfl .nil)) (hw _ hn)
      rw [he2] at this
      exact this
section
variable {X : Cx} {W : WX} {σ : L2.St} {S S' : AS} {H H' : Hp} {e1 e2 : Expr} {pos p2 : Pos} {gs : WTgs}
def gSta (gs : WTgs) : WTg := fun t ρ h R _ => ∃ x xs, t = .tup (x :: xs) ∧ gs [x, .lst xs] ρ h R fun _ _ => False
theorem sg_star1 {k : Nat} (h : SGs X W [e1, e2] gs) (hc : X.calm = true := by rfl)
    (he : assignEach [e1, .Starred e2 p2] X.env = [(false, assign e1 X.env), (true, assign e2 X.env)] := by rfl) (he2 : (assignEach [e1, e2] X.env).map (·.2) = [assign e1 X.env, assign e2 X.env] := by rfl) : SG X W (.Tuple [e1, .Starred e2 p2] k pos) (gSta gs) :=
  PG.imp (pg_star1 hc h he he2) fun v σ H Q ⟨S, ρ, h, t, R, RX, ar, hr, rt, ⟨x, xs, et, hw⟩, hR, hX⟩ => by
    subst et
    obtain ⟨a, us, rfl, h1, r1⟩ := asT_rel hr rt (ts := x :: xs) rfl
    simp only [RelTs] at r1
    obtain ⟨u, us', rfl, r2, r3⟩ := r1
    refine ⟨a, u, us', rfl, h1, fun p hp => ?_⟩
    obtain ⟨R', E⟩ := hr.new (o := .lst us') hp
    exact ⟨_, ρ, h, [x, .lst xs], R, _, ar.mono E.sub, R', .cons (r2.mono E.sub) (.cons (by simp only [RelT]; exact ⟨p, us', rfl, .inl upd_same, r3.mono E.sub⟩) .nil), hw,
      fun ρ' h' q S' σ' H' e r a' => hR ρ' h' q S' σ' H' (E.trans e) r a', fun _ => noX⟩
end
end TL

namespace TL
open PySem PySem.Spec PyProof.Rows L2
def fget (fs : List (Str × T)) (f : Str) : Option T := fs.lookup f
def fput (f : Str) (t : T) : List (Str × T) → List (Str × T)
  | [] => [(f, t)]
  | (g, x) :: r => if g = f then (g, t) :: r else (g, x) :: fput f t r
/-- a class whose objects have this field, the class not -/
def HasF (K : PySem.W.Frag) (mg : Str → Option Value) (c f : Str) : Prop := ∃ C, mg c = some (.ref C) ∧ Cls K C ∧ NoAttr K C f
def wFld (c f : Str) (w : WEx) : WEx := fun ρ h R RX => w ρ h (fun x h1 => ∃ n fs t, x = .ref n ∧ h1[n]? = some (.ins c fs) ∧ fget fs f = some t ∧ R t h1) RX
section
variable {X : Cx} {W : WX} {σ : L2.St} {S S' : AS} {H H' : Hp} {e a b o value : Expr} {es : List Expr} {w wa wb wo wv : WEx} {pos p p2 pos' apos tpos : Pos} {wr : WAr} {c f m x : Str} {k : Nat} {ps : List Str} {sp : ASp}
theorem fs_get {K : PySem.W.Frag} : ∀ {fs : List (Str × T)} {us : List (Str × V)} {f : Str} {t : T}, RelFs K S fs us → fget fs f = some t → ∃ v, us.lookup f = some v ∧ RelT K S t v
  | [], us, f, t, _, e => by simp [fget] at e
  | (g, y) :: fs, [], f, t, r, e => by have := r.1; simp at this
  | (g, y) :: fs, (g', u) :: us, f, t, r, e => by
    obtain ⟨r1, r2⟩ := r
    simp only [List.map_cons, List.cons.injEq] at r1
    obtain ⟨rfl, r1⟩ := r1
    simp only [List.map_cons, RelTs] at r2
    obtain ⟨u', us', e1, r3, r4⟩ := r2
    simp only [List.cons.injEq] at e1
    obtain ⟨rfl, rfl⟩ := e1
    unfold fget at e
    rw [List.lookup_cons] at e ⊢
    cases q : (f == g) with
    | true => rw [q] at e; cases e; exact ⟨u, rfl, r3⟩
    | false => rw [q] at e; exact fs_get ⟨r1, r4⟩ e
theorem fs_none {K : PySem.W.Frag} : ∀ {fs : List (Str × T)} {us : List (Str × V)} {f : Str}, RelFs K S fs us → fget fs f = none → us.lookup f = none
  | [], us, f, r, _ => by have := r.1; cases us <;> simp_all
  | (g, y) :: fs, [], f, r, e => by have := r.1; simp at this
  | (g, y) :: fs, (g', u) :: us, f, r, e => by
    obtain ⟨r1, r2⟩ := r
    simp only [List.map_cons, List.cons.injEq] at r1
    obtain ⟨rfl, r1⟩ := r1
    simp only [List.map_cons, RelTs] at r2
    obtain ⟨u', us', e1, r3, r4⟩ := r2
    simp only [List.cons.injEq] at e1
    obtain ⟨rfl, rfl⟩ := e1
    unfold fget at e
    rw [List.lookup_cons] at e ⊢
    cases q : (f == g) with
    | true => rw [q] at e; cases e
    | false => rw [q] at e; exact fs_none ⟨r1, r4⟩ e
theorem fs_put {K : PySem.W.Frag} {f : Str} {t : T} {v : V} (rv : RelT K S t v) : ∀ {fs : List (Str × T)} {us : List (Str × V)}, RelFs K S fs us → RelFs K S (fput f t fs) (putF f v us)
  | [], us, r => by
    have := r.1
    cases us with
    | nil => exact ⟨rfl, .cons rv .nil⟩
    | cons _ _ => simp at this
  | (g, y) :: fs, [], r => by have := r.1; simp at this
  | (g, y) :: fs, (g', u) :: us, r => by
    obtain ⟨r1, r2⟩ := r
    simp only [List.map_cons, List.cons.injEq] at r1
    obtain ⟨rfl, r1⟩ := r1
    simp only [List.map_cons, RelTs] at r2
    obtain ⟨u', us', e1, r3, r4⟩ := r2
    simp only [List.cons.injEq] at e1
    obtain ⟨rfl, rfl⟩ := e1
    unfold fput putF
    by_cases q : g = f
    · rw [if_pos q, if_pos q]
      exact ⟨by simp [r1], .cons rv r4⟩
    · rw [if_neg q, if_neg q]
      obtain ⟨q1, q2⟩ := fs_put rv (fs := fs) (us := us) ⟨r1, r4⟩
      exact ⟨by simp [q1], .cons r3 q2⟩
theorem fs_len {K : PySem.W.Frag} {fs : List (Str × T)} {us : List (Str × V)} (r : RelFs K S fs us) : us.length = fs.length := by
  have := congrArg List.length r.1
  simpa using this.symm
theorem RelFs.mono' {K : PySem.W.Frag} {fs : List (Str × T)} {us : List (Str × V)} (r : RelFs K S fs us) (e : Sub S S') : RelFs K S' fs us := ⟨r.1, r.2.mono e⟩
theorem se_fld (hF : HasF X.K X.mg c f) (he : SE X W e w) (hb : attributeBase e f X.env (eval e X.env) = eval e X.env := by rfl) : SE X W (.Attribute e f pos) (wFld c f w) :=
  PE.imp (pe_fld he hb) fun σ H Q ⟨S, ρ, h, R, RX, ar, hr, hw, hR, hX⟩ => by
    refine ⟨S, ρ, h, _, RX, ar, hr, hw, fun x h1 q1 S1 u H1 E1 R1 rx => ?_, hX⟩
    obtain ⟨n, fs, t, rfl, hn, ef, q⟩ := q1
    simp only [RelT] at rx
    obtain ⟨hk, rfl⟩ := rx
    obtain ⟨C, hm, hc, ha⟩ := hF
    obtain ⟨C', dx, us, hH, hm', rs⟩ := R1.c n _ hn
    rw [hm] at hm'; cases hm'
    obtain ⟨v, hv, rv⟩ := fs_get rs ef
    exact ⟨_, C, dx, us, v, rfl, hH, hc, ha, hv, hR t h1 q S1 v H1 E1 R1 rv⟩
/-- o.f = v -/
def wFldPut (c f : Str) (wo wv : WEx) : WSt := fun E ρ h => wv ρ h (fun y h1 => wo ρ h1 (fun x h2 => ∃ n fs, x = .ref n ∧ h2[n]? = some (.ins c fs) ∧ fs.length < 1000 ∧ E.nx ρ (h2.set n (.ins c (fput f y fs)))) (E.xe ρ)) (E.xe ρ)
theorem put_write {h : AH} {n : Nat} {fs : List (Str × T)} {t : T} {v : V} {C dx : Addr} {us : List (Str × V)} (hr : HRel X.K X.mg S h H) (hn : h[n]? = some (.ins c fs)) (hm : X.mg c = some (.ref C)) (rs : RelFs X.K S fs us) (rv : RelT X.K S t v) :
    HRel X.K X.mg S (h.set n (.ins c (fput f t fs))) (upd H (S.m n) (.ins C dx (putF f v us))) ∧ Ext S H S (upd H (S.m n) (.ins C dx (putF f v us))) :=
  hr.write (o := .ins C dx (putF f v us)) (c := .ins c (fput f t fs)) hn (fun z => by cases z) ⟨C, dx, putF f v us, upd_same, hm, fs_put rv rs⟩
theorem s_fld (hF : HasF X.K X.mg c f) (ho : SE X W o wo) (hv : SE X W value wv) (hs : swapsWith value (some (.Attribute o f pos')) pos.line X.env = pure false := by rfl) : SS X W (.Assign [.Attribute o f pos'] value pos) (wFldPut c f wo wv) :=
  PS.imp (ps_fld ho hv hs) fun D σ H ⟨S, ρ, h, E, ar, hr, hw, k⟩ => by
    refine ⟨S, ρ, h, _, _, ar, hr, hw, fun y h1 q1 S1 u H1 E1 R1 ry => ?_, k.xok ar⟩
    refine ⟨S1, ρ, h1, _, _, ar.mono E1.sub, R1, q1, fun x h2 q2 S2 u2 H2 E2 R2 rx => ?_, (k.mono E1).xok (ar.mono E1.sub)⟩
    obtain ⟨n, fs, rfl, hn, hl, q⟩ := q2
    simp only [RelT] at rx
    obtain ⟨hk, rfl⟩ := rx
    obtain ⟨C, hm, hc, ha⟩ := hF
    obtain ⟨C', dx, us, hH, hm', rs⟩ := R2.c n _ hn
    rw [hm] at hm'; cases hm'
    obtain ⟨R3, E3⟩ := put_write (f := f) (dx := dx) R2 hn hm rs (ry.mono E2.sub)
    have E' := (E1.trans E2).trans E3
    exact ⟨_, C, dx, us, rfl, hH, hc, ha, by rw [fs_len rs]; exact hl, k.nx _ _ q S2 σ _ E' R3 (ar.mono E'.sub)⟩
/-- o.f op= v -/
def wFldAug (c f : Str) (wo wv : WEx) (op : Op2) : WSt := fun E ρ h => wo ρ h (fun x h1 => ∃ n fs t, x = .ref n ∧ h1[n]? = some (.ins c fs) ∧ fget fs f = some t ∧ wv ρ h1 (fun y h2 => ∃ fs' z, h2[n]? = some (.ins c fs') ∧ fs'.length < 1000 ∧ op h2 t y = some z ∧ E.nx ρ (h2.set n (.ins c (fput f z fs')))) (E.xe ρ)) (E.xe ρ)
theorem s_fldaug {op : Operator} {fo : Op2} (hF : HasF X.K X.mg c f) (ho : SE X W o wo) (hv : SE X W value wv) (hop : PIp X op (rO X.K X.mg fo)) : SS X W (.AugAssign (.Attribute o f tpos) op value pos) (wFldAug c f wo wv fo) :=
  PS.imp (ps_fldaug ho hv hop) fun D σ H ⟨S, ρ, h, E, ar, hr, hw, k⟩ => by
    refine ⟨S, ρ, h, _, _, ar, hr, hw, fun x h1 q1 S1 u H1 E1 R1 rx => ?_, k.xok ar⟩
    obtain ⟨n, fs, t, rfl, hn, ef, q1⟩ := q1
    simp only [RelT] at rx
    obtain ⟨hk, rfl⟩ := rx
    obtain ⟨C, hm, hc, ha⟩ := hF
    obtain ⟨C', dx, us, hH, hm', rs⟩ := R1.c n _ hn
    rw [hm] at hm'; cases hm'
    obtain ⟨v, hv', rv⟩ := fs_get rs ef
    refine ⟨_, C, dx, us, v, rfl, hH, hc, ha, hv', S1, ρ, h1, _, _, ar.mono E1.sub, R1, q1, fun y h2 q2 S2 u2 H2 E2 R2 ry => ?_, (k.mono E1).xok (ar.mono E1.sub)⟩
    obtain ⟨fs', z, hn2, hl, ez, q⟩ := q2
    refine ⟨S2, h2, t, y, z, R2, rv.mono E2.sub, ry, ez, fun S3 v3 H3 E3 R3 r3 => ?_⟩
    obtain ⟨C2, dx2, us2, hH2, hm2, rs2⟩ := R3.c n _ hn2
    rw [hm] at hm2; cases hm2
    have e2 : S3.m n = S1.m n := by rw [(E2.trans E3).m n hk]
    obtain ⟨R4, E4⟩ := put_write (f := f) (dx := dx2) R3 hn2 hm rs2 r3
    have E' := ((E1.trans E2).trans E3).trans E4
    rw [e2] at R4 E' hH2
    exact ⟨dx2, us2, hH2, by rw [fs_len rs2]; exact hl, k.nx _ _ q S3 σ _ E' R4 (ar.mono E'.sub)⟩
def MCallee (P : Program) (w : World) (K : PySem.W.Frag) (mg : Str → Option Value) (base : Heap) (c m : Str) (k : Nat) (ps : List Str) (sp : ASp) : Prop :=
  ∃ C f fd, FnG P w K mg base k f fd ps (spA K mg sp) ∧ mg c = some (.ref C) ∧ Cls K C ∧ Meth K C m f ∧ Binds K fd ps []
theorem MCallee.mono {P : Program} {w : World} {K : PySem.W.Frag} {mg : Str → Option Value} {base : Heap} {c m : Str} {j k : Nat} {ps : List Str} {sp : ASp} (x : MCallee P w K mg base c m j ps sp) (h : j ≤ k) : MCallee P w K mg base c m k ps sp :=
  let ⟨C, f, fd, a, b⟩ := x
  ⟨C, f, fd, a.mono h, b⟩
def wMeth (c m : Str) (sp : ASp) (wo : WEx) (wr : WAr) : WEx := fun ρ h R RX => wo ρ h (fun x h1 => ∃ n fs, x = .ref n ∧ h1[n]? = some (.ins c fs) ∧ fget fs m = none ∧ wr ρ h1 (fun ts h2 => sp (.ref n :: ts) h2 R RX) RX) RX
theorem se_meth {pl : Sem Bool} (M : MCallee X.prog X.w X.K X.mg X.base c m k ps sp) (hh : Here X W k) (ho : SE X W o wo) (ha : SA X W (e :: es) wr)
    (hst : starEach (e :: es) X.env = (false, eval e X.env) :: starEach es X.env := by rfl) (hpl : (backTo pos (starEach es X.env)).any (·.1) = false := by rfl)
    (ht : eval (.Call (.Attribute o m apos) (e :: es) [] pos) X.env = (do
      let ov ← eval o X.env
      standAt apos.atName
      let (f, first) ← holding [ov] (getMethod ov m pl)
      callWith pos f first (backTo pos (starEach (e :: es) X.env)) (backToKw pos (keywordEach [] X.env))) := by rfl) : SE X W (.Call (.Attribute o m apos) (e :: es) [] pos) (wMeth c m sp wo wr) := by
  obtain ⟨C, f, fd, F, hm, hc, hM, hb⟩ := M
  refine ⟨fun pins s σ H Q I ⟨S, ρ, h, R, RX, ar, hr, hw, hR, hX⟩ => ?_⟩
  refine PySem.W.methodCall_KW (pl := pl) (thn (ho.run pins s σ H (fun v H1 => ∃ a dx us, v = .ref a ∧ H1 a = some (.ins C dx us) ∧ us.lookup m = none ∧ tWA X W wr σ H1 fun vs H2 => spA X.K X.mg sp (.ref a :: vs) H2 Q fun c d H' => W c d σ H') I ?_) fun u s1 ⟨x, H1, I1, rx, a, dx, us, ex, ea, l, q⟩ => ?_) ht
  · refine ⟨S, ρ, h, _, RX, ar, hr, hw, fun x h1 q1 S1 u H1 E1 R1 rx => ?_, hX⟩
    obtain ⟨n, fs, rfl, hn, ef, q1⟩ := q1
    have rx0 := rx
    simp only [RelT] at rx
    obtain ⟨hk, rfl⟩ := rx
    obtain ⟨C', dx, us, hH, hm', rs⟩ := R1.c n _ hn
    rw [hm] at hm'; cases hm'
    refine ⟨_, dx, us, rfl, hH, fs_none rs ef, S1, ρ, h1, _, RX, ar.mono E1.sub, R1, q1, fun ts h2 q2 S2 vs H2 E2 R2 rs2 => ?_, hX.mono E1⟩
    have E12 := E1.trans E2
    exact ⟨S2, h2, _, R, RX, .cons (rx0.mono E2.sub) rs2, R2, q2, fun t h' q S' v H' e => hR t h' q S' v H' (E12.trans e), fun c h' q S' H' e => hX c h' q S' H' (E12.trans e)⟩
  · subst ex
    obtain rfl : u = Value.ref a := rx
    refine getmeth_ok I1 ea hc hM l ?_
    refine PySem.W.callWith_K (first := [.ref a]) (h₀ := X.base) I.ok.mod.kin hM.kp (thn (ha.run pos pins s1 σ H1 _ I1 q) fun us s2 ⟨vs, H2, I2, r, q2⟩ => ⟨I2.kIn, ?_⟩) hst hpl
    exact run_fnG (W := W) (us := .ref a :: us) (vs := .ref a :: vs) F hh (fun _ _ _ w => w) hb I2 (.cons rfl r) q2
theorem se_meth0 {pl : Sem Bool} (M : MCallee X.prog X.w X.K X.mg X.base c m k ps sp) (hh : Here X W k) (ho : SE X W o wo)
    (ht : eval (.Call (.Attribute o m apos) [] [] pos) X.env = (do
      let ov ← eval o X.env
      standAt apos.atName
      let (f, first) ← holding [ov] (getMethod ov m pl)
      callWith pos f first (backTo pos (starEach [] X.env)) (backToKw pos (keywordEach [] X.env))) := by rfl) : SE X W (.Call (.Attribute o m apos) [] [] pos) (wMeth c m sp wo wNil) := by
  obtain ⟨C, f, fd, F, hm, hc, hM, hb⟩ := M
  refine ⟨fun pins s σ H Q I ⟨S, ρ, h, R, RX, ar, hr, hw, hR, hX⟩ => ?_⟩
  refine PySem.W.methodCall_KW (pl := pl) (thn (ho.run pins s σ H (fun v H1 => ∃ a dx us, v = .ref a ∧ H1 a = some (.ins C dx us) ∧ us.lookup m = none ∧ spA X.K X.mg sp [.ref a] H1 Q fun c d H' => W c d σ H') I ?_) fun u s1 ⟨x, H1, I1, rx, a, dx, us, ex, ea, l, q⟩ => ?_) ht
  · refine ⟨S, ρ, h, _, RX, ar, hr, hw, fun x h1 q1 S1 u H1 E1 R1 rx => ?_, hX⟩
    obtain ⟨n, fs, rfl, hn, ef, q1⟩ := q1
    have rx0 := rx
    simp only [RelT] at rx
    obtain ⟨hk, rfl⟩ := rx
    obtain ⟨C', dx, us, hH, hm', rs⟩ := R1.c n _ hn
    rw [hm] at hm'; cases hm'
    refine ⟨_, dx, us, rfl, hH, fs_none rs ef, S1, h1, _, R, RX, .cons rx0 .nil, R1, q1, fun t h' q S' v H' e => hR t h' q S' v H' (E1.trans e), fun c h' q S' H' e => hX c h' q S' H' (E1.trans e)⟩
  · subst ex
    obtain rfl : u = Value.ref a := rx
    refine getmeth_ok I1 ea hc hM l ?_
    exact PySem.W.callWith_K0 (first := [.ref a]) I1.kIn hM.kp (run_fnG (W := W) (us := [.ref a]) (vs := [.ref a]) F hh (fun _ _ _ w => w) hb I1 (.cons rfl .nil) q)
def Maker (P : Program) (w : World) (K : PySem.W.Frag) (mg : Str → Option Value) (base : Heap) (c : Str) (k : Nat) (ps : List Str) (sp : ASp) : Prop :=
  ∃ C f fd, FnG P w K mg base k f fd ps (spA K mg sp) ∧ mg c = some (.ref C) ∧ Mk K C f ∧ Binds K fd ps []
theorem Maker.mono {P : Program} {w : World} {K : PySem.W.Frag} {mg : Str → Option Value} {base : Heap} {c : Str} {j k : Nat} {ps : List Str} {sp : ASp} (x : Maker P w K mg base c j ps sp) (h : j ≤ k) : Maker P w K mg base c k ps sp :=
  let ⟨C, f, fd, a, b⟩ := x
  ⟨C, f, fd, a.mono h, b⟩
def wMake (c : Str) (sp : ASp) (wr : WAr) : WEx := fun ρ h R RX => wr ρ h (fun ts h1 => sp (.ref h1.length :: ts) (h1 ++ [.ins c []]) (fun t h2 => t = .non ∧ R (.ref h1.length) h2) RX) RX
theorem make_new {h : AH} {C : Addr} (hr : HRel X.K X.mg S h H) (hm : X.mg c = some (.ref C)) {x dx : Addr} (hx : H x = none) (hd : H dx = none) (ne : dx ≠ x) :
    ∃ S', HRel X.K X.mg S' (h ++ [.ins c []]) (upd (upd H dx (.own x)) x (.ins C dx [])) ∧ Ext S H S' (upd (upd H dx (.own x)) x (.ins C dx [])) ∧ RelT X.K S' (.ref h.length) (.ref x) := by
  obtain ⟨R1, E1⟩ := hr.other (o := .own x) hd
  have hx1 : (upd H dx (.own x)) x = none := by rw [upd_ne (Ne.symm ne)]; exact hx
  obtain ⟨R2, E2⟩ := R1.cell (o := .ins C dx []) (c := .ins c []) hx1 ⟨C, dx, [], upd_same, hm, ⟨rfl, .nil⟩⟩
  exact ⟨_, R2, E1.trans E2, by simp only [RelT]; exact ⟨by show h.length < S.k + 1; rw [hr.k]; exact Nat.lt_succ_self _, by rw [← hr.k, AS.more_at]⟩⟩
theorem run_makeG {pins : List (Addr × Obj)} {s : Shared} {Q : VK} {us : List Value} {vs : List V} {C f : Addr} {fd : FuncData} {psp : Sp} {E : XK} (M : Mk X.K C f) (F : FnG X.prog X.w X.K X.mg X.base k f fd ps psp) (hh : Here X W (k + 1)) (hW : ∀ c d H', E c d H' → W c d σ H') (hb : Binds X.K fd ps [])
    (I : Inv X pins σ H s) (r : Vals vs us)
    (h : ∀ x dx, H x = none → H dx = none → dx ≠ x → psp (.ref x :: vs) (upd (upd H dx (.own x)) x (.ins C dx [])) (fun v H2 => v = .non ∧ Q (.ref x) H2) E) :
    wpAny (model X.prog X.w) X.A (call (.ref C) us) (EP X pins σ Q) X.xe s := by
  have hq := h (s.heap.objs.size + 1) s.heap.objs.size (I.hok.fresh (Nat.le_succ _)) (I.hok.fresh (Nat.le_refl _)) (Nat.ne_of_lt (Nat.lt_succ_self _))
  have I2 := Inv.made (C := C) I
  have r2 : Vals (V.ref (s.heap.objs.size + 1) :: vs) (Value.ref (s.heap.objs.size + 1) :: us) := .cons rfl r
  have hl : (Value.ref (s.heap.objs.size + 1) :: us).length = ps.length := by rw [← r2.length]; exact F.len _ _ _ _ hq
  have bb := hb _ (Value.ref (s.heap.objs.size + 1) :: us) I2.kIn (by rw [List.append_nil]; exact hl)
  rw [List.append_nil] at bb
  refine wpAny_call (make_map (f := f) I.kIn M.makes M.init (beq_iff_eq.mp M.fn) (codeAny_mono (F.run _ X.stack _ _ ⟨Value.ref (s.heap.objs.size + 1) :: us, []⟩ (Value.ref (s.heap.objs.size + 1) :: us) _ _ E (hh.room.make C us [])
    (by exact hh.guards) (I2.env0.make C us []) bb r2 hq) fun r s' hq' => ?_))
  match r, hq' with
  | .error e, hq' => exact hh.takes e s' (XE.of_call I2 hW hq')
  | .ok (.ret u), hq' =>
    obtain ⟨v, H', I3, rv, ev, q3⟩ := I2.after hq'
    subst ev
    exact ⟨rv, ⟨V.ref (s.heap.objs.size + 1), H', I3, rfl, q3⟩⟩
theorem se_make (M : Maker X.prog X.w X.K X.mg X.base c k ps sp) (hh : Here X W (k + 1)) (ha : SA X W (e :: es) wr) (hg : Gl X c := by rfl) (hdb : (c == ("__debug__" : Str)) = false := by decide)
    (he : starEach (e :: es) X.env = (false, eval e X.env) :: starEach es X.env := by rfl) (hpl : (backTo pos (starEach es X.env)).any (·.1) = false := by rfl) : SE X W (.Call (.Name c p) (e :: es) [] pos) (wMake c sp wr) := by
  obtain ⟨C, f, fd, F, hm, hM, hb⟩ := M
  refine ⟨fun pins s σ H Q I ⟨S, ρ, h, R, RX, ar, hr, hw, hR, hX⟩ => ?_⟩
  refine wpAny_Call_Name_kw (ld_glob I hg hm ?_ hdb)
  refine PySem.W.callWith_K (h₀ := X.base) I.ok.mod.kin hM.kp (thn (ha.run pos pins s σ H (fun vs H1 => ∀ x dx, H1 x = none → H1 dx = none → dx ≠ x → spA X.K X.mg sp (.ref x :: vs) (upd (upd H1 dx (.own x)) x (.ins C dx [])) (fun v H2 => v = .non ∧ Q (.ref x) H2) fun c d H' => W c d σ H') I ?_) fun us s1 ⟨vs, H1, I1, r, q⟩ => ⟨I1.kIn, ?_⟩) he hpl
  · refine ⟨S, ρ, h, _, RX, ar, hr, hw, fun ts h1 q1 S1 vs H1 E1 R1 rs x dx hx hd ne => ?_, hX⟩
    obtain ⟨S2, R2, E2, r2⟩ := make_new R1 hm hx hd ne
    have E12 := E1.trans E2
    refine ⟨S2, _, _, _, RX, .cons r2 (rs.mono E2.sub), R2, q1, fun t h' ⟨et, q⟩ S' v H' e r' rv => ?_, fun c h' q S' H' e => hX c h' q S' H' (E12.trans e)⟩
    subst et
    simp only [RelT] at rv
    refine ⟨rv, hR _ h' q S' _ H' (E12.trans e) r' (r2.mono e.sub)⟩
  · exact run_makeG (W := W) hM F hh (fun _ _ _ w => w) hb I1 r q
end
end TL

namespace PySem
section
variable {prog : Program} {w : World} {A : Around} {E : Value → Shared → Prop} {s : Shared}
theorem tl_draw_list {it t : Addr} {items : Array Value} (hne : t ≠ it) : ∀ (n i : Nat) (s : Shared) (Q : List Value → Shared → Prop), s.heap.IsListIter it t i → s.heap.IsList t items → i + n ≤ items.size →
    (∀ h', h'.IsListIter it t (i + n) → Heap.SameBut it s.heap h' → Q ((items.toList.drop i).take n) { s with heap := h' }) → wpAny (model prog w) A (draw (.ref it) n) Q E s
  | 0, i, s, Q, hit, _, _, hQ => by
    show wpAny _ _ (pure []) Q E s
    exact wpAny_pure (by simpa using hQ s.heap hit (Heap.SameBut.refl ..))
  | n + 1, i, s, Q, hit, ht, hle, hQ => by
    have hlt : i < items.size := by omega
    show wpAny _ _ (pyNext (.ref it) >>= _) Q E s
    refine wpAny_bind (wpAny_pyNext_list_item hit ht (x := items[i]) (by simp [hlt]) fun h₁ hit₁ hs₁ => ?_)
    refine wpAny_bind (wpAny_holding (tl_draw_list hne n (i + 1) _ _ hit₁ (ht.extBut hs₁.extBut hne) (by omega) fun h₂ hit₂ hs₂ => wpAny_pure ?_))
    have hd : items.toList.drop i = items[i] :: items.toList.drop (i + 1) := by simp [List.drop_eq_getElem_cons, hlt]
    have := hQ h₂ (by rw [show i + (n + 1) = i + 1 + n by omega]; exact hit₂) (hs₁.trans hs₂)
    rw [hd, List.take_succ_cons] at this
    exact this
theorem tl_unpackL {t : Addr} {items : Array Value} {Q : List Value → Shared → Prop} (hh : A.handled = none) (ht : s.heap.IsList t items)
    (hQ : ∀ h', Heap.ExtBut s.heap.objs.size s.heap h' → Q items.toList { s with heap := h' }) : wpAny (model prog w) A (unpackItems (.ref t) items.size none) Q E s := by
  have hlt : t ≠ s.heap.objs.size := by obtain ⟨o, ho, _⟩ := ht; exact Nat.ne_of_lt (Heap.lt_size ho)
  unfold unpackItems
  refine wpAny_bind ?_
  · unfold notIterableAtAll
    refine wpAny_bind (wpAny_specialOf ht.typeIs F.slot_list_iter.lookup ?_)
    refine wpAny_pure ?_
    simp only [Bool.false_eq_true, if_false]
    refine wpAny_bind (wpAny_holding (wpAny_pyIter_list ht ?_))
    refine wpAny_bind (wpAny_holding (tl_draw_list hlt items.size 0 _ _ ⟨_, Heap.get?_push_size _ rfl, rfl, rfl⟩ (ht.push _) (by omega) fun h₁ hit₁ hs₁ => ?_))
    have hall : List.take items.size (List.drop 0 items.toList) = items.toList := by
      rw [List.drop_zero]; exact List.take_of_length_le (by simp)
    rw [hall]
    rw [if_neg (by simp)]
    have ht₁ : h₁.IsList t items := (ht.push _).extBut hs₁.extBut hlt
    refine wpAny_bind (wpAny_holding (wpAny_pyNext_list_end hh hit₁ ht₁ (by simp) fun h₂ he₂ => ?_))
    simp only [Option.isSome_none, Bool.false_eq_true, if_false]
    refine wpAny_pure (hQ h₂ fun b o hb e => he₂ b o hb (hs₁.extBut b o hb (Heap.get?_push_of_some _ e)))
theorem tl_assignL {env : Env} {elts : List Expr} {x1} {pos : Pos} {t : Addr} {items : Array Value} {Q : Unit → Shared → Prop} (hh : A.handled = none) (ht : s.heap.IsList t items)
    (hn : (assignEach elts env).length = items.size) (hstar : (assignEach elts env).findIdx? (·.1) = none)
    (h : ∀ h', Heap.ExtBut s.heap.objs.size s.heap h' → wpAny (model prog w) A (assignInOrder ((assignEach elts env).map (·.2)) items.toList) Q E { s with heap := h' }) :
    wpAny (model prog w) A (assign (.Tuple elts x1 pos) env (.ref t)) Q E s := by
  rw [arm_assign_Tuple]
  refine wpAny_bind (wpAny_standAt ?_)
  unfold unpack
  rw [hn, hstar]
  exact wpAny_bind (wpAny_holding (tl_unpackL hh ht h))
end
end PySem
namespace TL
open PySem PySem.Spec PyProof.Rows L2
def gTupLV (K : PySem.W.Frag) (n : Nat) (t : TGs) : TG := fun v σ H Q => ∃ a xs, v = .ref a ∧ SqL K H a xs ∧ xs.length = n ∧ t xs σ H Q
theorem pg_tupL {X : Cx} {pos : Pos} {es : List Expr} {k : Nat} {t : TGs} {n : Nat} (hc : X.calm = true) (h : PGs X es t)
    (hn : (assignEach es X.env).length = n := by rfl) (hst : (assignEach es X.env).findIdx? (·.1) = none := by rfl) : PG X (.Tuple es k pos) (gTupLV X.K n t) := by
  refine ⟨fun pins s σ H v u Q I r hw => ?_⟩
  obtain ⟨a, xs, e1, hq, hl, hw⟩ := hw
  subst e1
  cases r
  obtain ⟨its, rv, ht, hz⟩ := I.list hq
  refine tl_assignL (I.ok.hd hc) ht.isList (by simp [hn, ← hl, rv.length]) hst fun h' hx => ?_
  have I1 : Inv X pins σ H { s with heap := h' } := I.kept (t' := s.toks) fun b o e => hx b o (Nat.ne_of_lt (Heap.lt_size e)) e
  exact h.run pins _ σ H xs _ Q I1 (by simpa using rv) hw
section
variable {X : Cx} {W : WX} {σ : L2.St} {S S' : AS} {H H' : Hp} {es : List Expr} {pos : Pos}
def gTuL (n : Nat) (gs : WTgs) : WTg := fun t ρ h R RX => ∃ ts, asL h t = some ts ∧ ts.length = n ∧ gs ts ρ h R fun _ _ => False
theorem sg_tupL {k n : Nat} {gs : WTgs} (h : SGs X W es gs) (hc : X.calm = true := by rfl) (hn : (assignEach es X.env).length = n := by rfl) (hst : (assignEach es X.env).findIdx? (·.1) = none := by rfl) : SG X W (.Tuple es k pos) (gTuL n gs) :=
  PG.imp (pg_tupL hc h hn hst) fun v σ H Q ⟨S, ρ, h, t, R, RX, ar, hr, rt, ⟨ts, et, hl, hw⟩, hR, hX⟩ => by
    obtain ⟨a, us, rfl, h1, r1⟩ := asL_rel hr rt et
    exact ⟨a, us, rfl, h1, by rw [← r1.length]; exact hl, S, ρ, h, ts, R, _, ar, hr, r1, hw, hR, fun _ => noX⟩
end
def opMulT : Op2 := fun _ x y => match x, y with
  | .tup xs, .int k => if xs ≠ [] ∧ 2 ≤ k ∧ k ≤ 1000 ∧ xs.length ≤ 1000 then some (.tup (List.replicate k.toNat xs).flatten) else none
  | _, _ => none
theorem o_mulT {X : Cx} : OpR X (binaryOp .Mult) (rO X.K X.mg opMulT) := OpR.imp op_repT fun x y H Q ⟨S, h, t, t', z, hr, rx, ry, e, q⟩ => by
  unfold opMulT at e
  split at e
  · split at e
    · rename_i hz
      cases e
      obtain ⟨a, us, rfl, h1, r1⟩ := asT_rel hr rx rfl
      simp only [RelT] at ry
      subst ry
      have hl := r1.length
      refine ⟨a, _, us, rfl, rfl, h1, fun e => hz.1 (by rw [e] at hl; exact List.eq_nil_of_length_eq_zero hl), hz.2.1, hz.2.2.1, by rw [← hl]; exact hz.2.2.2, ?_⟩
      exact new_tup hr (r1.rep _) fun S' v H' e r rv => q S' v H' e r rv
    · cases e
  · cases e
end TL

namespace TL
open PySem PySem.Spec PyProof.Rows L2
section
variable {P : Program} {w : World} {K : PySem.W.Frag} {mg : Str → Option Value} {base : Heap}
theorem _root_.L2.FunD.x {st : Stmt} {x qual : Str} {dvs : List V} {kws : List (Str × V)} {f : Addr} {fd : FuncData} (F : FunD K x qual (defArgs st) (defBody st) (defScope st) dvs kws f fd) : FunX K x qual st f fd :=
  let ⟨oc, od, dV, kV, doc, pm, an, cdv, ct, osl, e, lk, hcd, _, _⟩ := F.ex
  ⟨oc, od, dV, kV, doc, pm, an, cdv, ct, osl, e, lk, hcd⟩
end
theorem _root_.L2.FunD.kbn {K : PySem.W.Frag} {x qual : Str} {params : Arguments} {body : List Stmt} {scope : Scope} {kws : List (Str × V)} {f : Addr} {fd : FuncData} {n : Nat} {ks ps : List Str} (F : FunD K x qual params body scope [] kws f fd)
    (h : ∀ (kV doc pm : Value) (an : Option Addr) (cdv ct : Value) (us ws : List Value), us.length = n → ws.length = ks.length → bindArgs (PySem.W.fnOf x qual params body scope .none kV doc pm an cdv ct) ⟨us, ks.zip ws⟩ = pure (ps.zip (us ++ ws))) : KBn K fd ps n ks (fun us ws => us ++ ws) (fun vs zs => vs ++ zs) := by
  obtain ⟨oc, od, dV, kV, doc, pm, an, cdv, ct, osl, rfl, lk, hcd, hD, hK⟩ := F.ex
  rcases hD with ⟨_, rfl⟩ | ⟨e, _⟩
  · exact ⟨fun s us ws _ l1 l2 => .of_eq (h _ _ _ _ _ _ us ws l1 l2), fun r1 r2 => r1.append r2⟩
  · exact absurd rfl e
/-- a def that may be called by its name with values for the parameters ahead; the rest is dts -/
def DCallee (P : Program) (w : World) (K : PySem.W.Frag) (mg : Str → Option Value) (base : Heap) (x : Str) (k : Nat) (ps : List Str) (dts : List T) (sp : ASp) : Prop :=
  ∃ f fd ds dvs, FnG P w K mg base k f fd ps (spA K mg sp) ∧ mg x = some (.ref f) ∧ PySem.W.keepIn K (.ref f) = true ∧ Binds K fd ps ds ∧ Vals dvs ds ∧ ∀ S, RelTs K S dts dvs
theorem DCallee.mono {P : Program} {w : World} {K : PySem.W.Frag} {mg : Str → Option Value} {base : Heap} {x : Str} {j k : Nat} {ps : List Str} {dts : List T} {sp : ASp} (c : DCallee P w K mg base x j ps dts sp) (h : j ≤ k) : DCallee P w K mg base x k ps dts sp :=
  let ⟨f, fd, ds, dvs, a, b⟩ := c
  ⟨f, fd, ds, dvs, a.mono h, b⟩
def wCallD (dts : List T) (sp : ASp) (wr : WAr) : WEx := fun ρ h R RX => wr ρ h (fun ts h1 => sp (ts ++ dts) h1 R RX) RX
section
variable {X : Cx} {W : WX} {σ : L2.St} {S S' : AS} {H H' : Hp} {e a b c o tg : Expr} {es : List Expr} {pos p p2 : Pos} {wr : WAr} {x : Str} {k : Nat} {ps : List Str} {dts : List T} {sp : ASp}
theorem run_fnGD {pins : List (Addr × Obj)} {s : Shared} {Q : VK} {us ds : List Value} {vs dvs : List V} {f : Addr} {fd : FuncData} {psp : Sp} {E : XK} (F : FnG X.prog X.w X.K X.mg X.base k f fd ps psp) (hh : Here X W k) (hW : ∀ c d H', E c d H' → W c d σ H') (hb : Binds X.K fd ps ds)
    (I : Inv X pins σ H s) (r : Vals vs us) (rd : Vals dvs ds) (h : psp (vs ++ dvs) H Q E) : wpAny (model X.prog X.w) X.A (call (.ref f) us) (EP X pins σ Q) X.xe s := by
  have ra := r.append rd
  have hl : (us ++ ds).length = ps.length := by rw [← ra.length]; exact F.len _ _ _ _ h
  have bb := hb s us I.kIn hl
  refine wpAny_call (codeAny_mono (F.run X.A X.stack s H ⟨us, []⟩ (us ++ ds) (vs ++ dvs) Q E hh.room hh.guards I.env0 bb ra h) fun r s' hq => ?_)
  match r, hq with
  | .error e, hq => exact hh.takes e s' (XE.of_call I hW hq)
  | .ok (.ret u), hq => exact I.after hq
theorem se_callD (C : DCallee X.prog X.w X.K X.mg X.base x k ps dts sp) (hh : Here X W k) (ha : SA X W (e :: es) wr) (hg : Gl X x := by rfl) (hdb : (x == ("__debug__" : Str)) = false := by decide)
    (he : starEach (e :: es) X.env = (false, eval e X.env) :: starEach es X.env := by rfl) (hpl : (backTo pos (starEach es X.env)).any (·.1) = false := by rfl) : SE X W (.Call (.Name x p) (e :: es) [] pos) (wCallD dts sp wr) := by
  obtain ⟨f, fd, ds, dvs, F, hm, hk, hb, rd, rt⟩ := C
  refine ⟨fun pins s σ H Q I ⟨S, ρ, h, R, RX, ar, hr, hw, hR, hX⟩ => ?_⟩
  refine wpAny_Call_Name_kw (ld_glob I hg hm ?_ hdb)
  refine PySem.W.callWith_K (h₀ := X.base) I.ok.mod.kin hk (thn (ha.run pos pins s σ H (fun vs H1 => spA X.K X.mg sp (vs ++ dvs) H1 Q fun c d H' => W c d σ H') I ?_) fun us s1 ⟨vs, H1, I1, r, q⟩ => ⟨I1.kIn, ?_⟩) he hpl
  · refine ⟨S, ρ, h, _, RX, ar, hr, hw, fun ts h1 q1 S1 vs H1 E1 R1 rs => ?_, hX⟩
    exact ⟨S1, h1, ts ++ dts, R, RX, RelTs.append rs (rt S1), R1, q1, fun t h' q S' v H' e => hR t h' q S' v H' (E1.trans e), fun c h' q S' H' e => hX c h' q S' H' (E1.trans e)⟩
  · exact run_fnGD (W := W) F hh (fun _ _ _ w => w) hb I1 r rd q
end
abbrev SK (X : Cx) (W : WX) (kws : List Keyword) (w : WAr) : Prop := PK X kws (tWA X W w)
theorem PK.imp {X : Cx} {kws : List Keyword} {t t' : TA} (h : PK X kws t) (i : ∀ σ H Q, t' σ H Q → t σ H Q) : PK X kws t' := ⟨fun pos pins s σ H Q I q => h.run pos pins s σ H Q I (i σ H Q q)⟩
/-- a def that is called with n values and keywords ks, all of its parameters in a row -/
def KCallee (P : Program) (w : World) (K : PySem.W.Frag) (mg : Str → Option Value) (base : Heap) (x : Str) (k : Nat) (ps : List Str) (n : Nat) (ks : List Str) (sp : ASp) : Prop :=
  ∃ f fd, FnG P w K mg base k f fd ps (spA K mg sp) ∧ mg x = some (.ref f) ∧ PySem.W.keepIn K (.ref f) = true ∧ KBn K fd ps n ks (fun us ws => us ++ ws) (fun vs zs => vs ++ zs)
theorem KCallee.mono {P : Program} {w : World} {K : PySem.W.Frag} {mg : Str → Option Value} {base : Heap} {x : Str} {j k n : Nat} {ps ks : List Str} {sp : ASp} (c : KCallee P w K mg base x j ps n ks sp) (h : j ≤ k) : KCallee P w K mg base x k ps n ks sp :=
  let ⟨f, fd, a, b⟩ := c
  ⟨f, fd, a.mono h, b⟩
def wCallK (n m : Nat) (sp : ASp) (wr wk : WAr) : WEx := fun ρ h R RX => wr ρ h (fun ts h1 => wk ρ h1 (fun us h2 => ts.length = n ∧ us.length = m ∧ sp (ts ++ us) h2 R RX) RX) RX
section
variable {X : Cx} {W : WX} {σ : L2.St} {S S' : AS} {H H' : Hp} {e a b c o tg : Expr} {es : List Expr} {pos p p2 kpos : Pos} {w : WEx} {wr wk : WAr} {x : Str} {k n : Nat} {ps ks : List Str} {dts : List T} {sp : ASp} {kws : List Keyword} {nm : Option Str}
theorem sk_nil : SK X W [] wNil := PK.imp pk_nil fun σ H Q ⟨S, ρ, h, R, RX, ar, hr, r, q, _⟩ => q [] h r S [] H (Ext.refl S H) hr .nil
theorem sk_cons (ha : SE X W e w) (hr : SK X W kws wr) : SK X W (⟨nm, e, kpos⟩ :: kws) (wCons w wr) :=
  PK.imp (pk_cons ha hr) fun σ H Q ⟨S, ρ, h, R, RX, ar, hr, hw, hR, hX⟩ => by
    refine ⟨S, ρ, h, _, RX, ar, hr, hw, fun x h1 q1 S1 u H1 E1 R1 rx => ?_, hX⟩
    refine ⟨S1, ρ, h1, _, RX, ar.mono E1.sub, R1, q1, fun xs h2 q2 S2 us H2 E2 R2 rs => ?_, hX.mono E1⟩
    exact hR _ h2 q2 S2 _ H2 (E1.trans E2) R2 (.cons (rx.mono E2.sub) rs)
theorem run_fnGK {pins : List (Addr × Obj)} {s : Shared} {Q : VK} {us ws : List Value} {vs zs : List V} {f : Addr} {fd : FuncData} {psp : Sp} {E : XK} (F : FnG X.prog X.w X.K X.mg X.base k f fd ps psp) (hh : Here X W k) (hW : ∀ c d H', E c d H' → W c d σ H') (hb : KBn X.K fd ps n ks (fun us ws => us ++ ws) (fun vs zs => vs ++ zs))
    (I : Inv X pins σ H s) (r : Vals vs us) (rz : Vals zs ws) (l1 : vs.length = n) (l2 : zs.length = ks.length) (h : psp (vs ++ zs) H Q E) : wpAny (model X.prog X.w) X.A (call (.ref f) us (ks.zip ws)) (EP X pins σ Q) X.xe s := by
  have r2 := hb.rel r rz
  refine wpAny_call (codeAny_mono (F.run X.A X.stack s H ⟨us, ks.zip ws⟩ (us ++ ws) (vs ++ zs) Q E hh.room hh.guards I.env0 (hb.to s us ws I.kIn (r.length.symm.trans l1) (rz.length.symm.trans l2)) r2 h) fun r s' hq => ?_)
  match r, hq with
  | .error e, hq => exact hh.takes e s' (XE.of_call I hW hq)
  | .ok (.ret u), hq => exact I.after hq
theorem se_callK (C : KCallee X.prog X.w X.K X.mg X.base x k ps n ks sp) (hh : Here X W k) (ha : SA X W (e :: es) wr) (hkw : SK X W kws wk) (hg : Gl X x := by rfl)
    (hall : (backToKw pos (keywordEach kws X.env)).all (·.1.isSome) = true := by rfl) (hks : (backToKw pos (keywordEach kws X.env)).filterMap (·.1) = ks := by rfl)
    (hdb : (x == ("__debug__" : Str)) = false := by decide) (he : starEach (e :: es) X.env = (false, eval e X.env) :: starEach es X.env := by rfl)
    (hpl : ((backTo pos (starEach (e :: es) X.env)).any (·.1) || (backToKw pos (keywordEach kws X.env)).any (·.1.isNone)) = false := by rfl) : SE X W (.Call (.Name x p) (e :: es) kws pos) (wCallK n ks.length sp wr wk) := by
  obtain ⟨f, fd, F, hm, hk, hb⟩ := C
  refine ⟨fun pins s σ H Q I ⟨S, ρ, h, R, RX, ar, hr, hw, hR, hX⟩ => ?_⟩
  refine wpAny_Call_Name_kw (ld_glob I hg hm ?_ hdb)
  refine PySem.W.callWith_KW (h₀ := X.base) I.ok.mod.kin hk hall (thn (ha.run pos pins s σ H (fun vs H1 => tWA X W wk σ H1 fun zs H2 => vs.length = n ∧ zs.length = ks.length ∧ spA X.K X.mg sp (vs ++ zs) H2 Q fun c d H' => W c d σ H') I ?_) fun us s1 ⟨vs, H1, I1, r, q⟩ => ?_) hpl he
  · refine ⟨S, ρ, h, _, RX, ar, hr, hw, fun ts h1 q1 S1 vs H1 E1 R1 rs => ?_, hX⟩
    refine ⟨S1, ρ, h1, _, RX, ar.mono E1.sub, R1, q1, fun xs h2 q2 S2 us H2 E2 R2 rz => ?_, hX.mono E1⟩
    obtain ⟨l1, l2, q3⟩ := q2
    exact ⟨by rw [← rs.length]; exact l1, by rw [← rz.length]; exact l2, S2, h2, ts ++ xs, R, RX, RelTs.append (rs.mono E2.sub) rz, R2, q3, fun t h' q S' v H' e => hR t h' q S' v H' ((E1.trans E2).trans e), fun c h' q S' H' e => hX c h' q S' H' ((E1.trans E2).trans e)⟩
  · refine thn (hkw.run pos pins s1 σ H1 _ I1 q) fun ws s2 ⟨zs, H2, I2, rz, l1, l2, q2⟩ => ⟨I2.kIn, ?_⟩
    rw [hks]
    exact run_fnGK (W := W) F hh (fun _ _ _ w => w) hb I2 r rz l1 l2 q2
end
end TL

namespace TL
open PySem PySem.Spec PyProof.Rows L2
def rCountD (K : PySem.W.Frag) : V → List V → Hp → VK → Prop := fun x xs H Q => ∃ (a : Addr) (y : V) (d : PyData) (ds : List PyData), x = V.ref a ∧ xs = [y] ∧ Dp K H (V.ref a) (.list ds) ∧ Dp K H y d ∧
  SeqAt.shaped (.list ds) = true ∧ SeqAt.shaped d = true ∧ Q (.int ((ds.countP fun z => PyData.eqv z d : Nat) : Int)) H
section
variable {X : Cx}
theorem mt_countD (hu : X.A.units + 65 < cLine) : MtR X "list.count" (rCountD X.K) := by
  intro pins s σ H x xs v us Q I rx rxs h
  obtain ⟨a, y, d, ds, rfl, rfl, hl, hy, sl, sd, q⟩ := h
  cases rx
  cases rxs with
  | cons ry rt =>
    rename_i uy ut
    cases rt
    obtain ⟨bs, r1⟩ := Dp.reads I d y uy hy ry
    have hxs : PyData.canLayAll0 ds = true := SeqAt.canLay_of_shaped sl
    have hroom : X.A.units + 1 + min (PyData.depthAll ds) d.depth < cLine := room_in_shaped sd hu
    cases hl with
    | lst hs ha =>
      obtain ⟨its, rv, ⟨⟨cls, dd, data, sls⟩, n, ho, hc, hdn, hdt⟩, hlen⟩ := I.list hs
      simp only at hc hdt
      subst hc hdt
      obtain ⟨as, h4⟩ := Dp.readsAll I ds _ its ha rv
      have hmap : its.map (SeqAt.readOf s.heap) = ds := SeqAt.readsAll_map ds its as hxs h4
      refine call_meets PySem.F.slot_list_count ⟨_, ho, rfl⟩ PySem.F.entry_list_count (PySem.F.args_list_count_2 _ _)
        (SeqAt.list_countAt a its.toArray n dd sls uy (fun u => PyData.eqv (SeqAt.readOf s.heap u) d)) ⟨ho, SeqAt.items_eqAt (vs := its.toArray) (show ReadsAll s.heap its.toArray.toList ds as from h4) r1 hxs (SeqAt.canLay_of_shaped sd) hroom, ?_⟩
      have ec : its.countP (fun u => PyData.eqv (SeqAt.readOf s.heap u) d) = ds.countP fun z => PyData.eqv z d := by
        rw [← hmap, List.countP_map]; rfl
      refine ⟨.int ((ds.countP fun z => PyData.eqv z d : Nat) : Int), H, I.tok _, ⟨s.toks, ?_⟩, q⟩
      show Value.int ((its.toArray.toList.countP _ : Nat) : Int) s.toks = _
      rw [← ec]
end
def wCountD (wo w : WEx) : WEx := fun ρ h R RX => wo ρ h (fun x h1 => (∃ ts, asL h1 x = some ts) ∧ w ρ h1 (fun y h2 => ∃ ds d, toD h2 deep x = some (.list ds) ∧ toD h2 deep y = some d ∧ R (.int ((ds.countP fun z => PyData.eqv z d : Nat) : Int)) h2) RX) RX
def wIndexD (wo w : WEx) : WEx := fun ρ h R RX => wo ρ h (fun x h1 => (∃ ts, asL h1 x = some ts) ∧ w ρ h1 (fun y h2 => ∃ (ds : List PyData) (d : PyData) (j : Nat), toD h2 deep x = some (.list ds) ∧ toD h2 deep y = some d ∧ ds.findIdx? (fun z => PyData.eqv z d) = some j ∧ R (.int (j : Int)) h2) RX) RX
section
variable {X : Cx} {W : WX} {σ : L2.St} {S S' : AS} {H H' : Hp} {e o : Expr} {w wo : WEx} {apos cpos : Pos}
theorem se_countD (hu : X.A.units + 65 < cLine) (ho : SE X W o wo) (he : SE X W e w) (hbase : attributeBase o "count" X.env (eval o X.env) = eval o X.env := by rfl)
    (hfew : ((backTo cpos (starEach [e] X.env)).all (fun x => !x.1) && (backToKw cpos (keywordEach [] X.env)).all (fun x => x.1.isSome) && decide (([e] : List Expr).length + ([] : List Keyword).length + (if ([] : List Keyword).isEmpty then 0 else 1) < 30)) = true := by rfl)
    (hline : (apos.endLine == cpos.line) = true := by rfl) (hs : starEach [e] X.env = (false, eval e X.env) :: starEach [] X.env := by rfl) (hpl : (backTo cpos (starEach [] X.env)).any (·.1) = false := by rfl) :
    SE X W (.Call (.Attribute o "count" apos) [e] [] cpos) (wCountD wo w) :=
  PE.imp (pe_bm PySem.F.plainAttrs_list PySem.F.slot_list_count PySem.F.type_list_count (mt_countD hu) ho (pa_cons he pa_nil hs) hbase hfew hline hs hpl) fun σ H Q ⟨S, ρ, h, R, RX, ar, hr, hw, hR, hX⟩ => by
    refine ⟨S, ρ, h, _, RX, ar, hr, hw, fun x h1 q1 S1 u H1 E1 R1 rx => ?_, hX⟩
    obtain ⟨⟨ts0, e0⟩, q1⟩ := q1
    obtain ⟨a0, us0, rfl, l0, _⟩ := asL_rel R1 rx e0
    refine ⟨.inl ⟨rfl, us0, l0⟩, S1, ρ, h1, _, RX, ar.mono E1.sub, R1, q1, fun y h2 q2 S2 u2 H2 E2 R2 ry => ?_, hX.mono E1⟩
    obtain ⟨ds, d, e1, e2, q⟩ := q2
    exact ⟨a0, u2, d, ds, rfl, rfl, dp_of R2 _ _ _ _ (rx.mono E2.sub) e1, dp_of R2 _ _ _ _ ry e2, shaped40 e1, shaped40 e2, hR _ h2 q S2 _ H2 (E1.trans E2) R2 (by simp [RelT])⟩
theorem se_indexD (hu : X.A.units + 65 < cLine) (ho : SE X W o wo) (he : SE X W e w) (hbase : attributeBase o "index" X.env (eval o X.env) = eval o X.env := by rfl)
    (hfew : ((backTo cpos (starEach [e] X.env)).all (fun x => !x.1) && (backToKw cpos (keywordEach [] X.env)).all (fun x => x.1.isSome) && decide (([e] : List Expr).length + ([] : List Keyword).length + (if ([] : List Keyword).isEmpty then 0 else 1) < 30)) = true := by rfl)
    (hline : (apos.endLine == cpos.line) = true := by rfl) (hs : starEach [e] X.env = (false, eval e X.env) :: starEach [] X.env := by rfl) (hpl : (backTo cpos (starEach [] X.env)).any (·.1) = false := by rfl) :
    SE X W (.Call (.Attribute o "index" apos) [e] [] cpos) (wIndexD wo w) :=
  PE.imp (pe_bm PySem.F.plainAttrs_list PySem.F.slot_list_index PySem.F.type_list_index (mt_indexD hu) ho (pa_cons he pa_nil hs) hbase hfew hline hs hpl) fun σ H Q ⟨S, ρ, h, R, RX, ar, hr, hw, hR, hX⟩ => by
    refine ⟨S, ρ, h, _, RX, ar, hr, hw, fun x h1 q1 S1 u H1 E1 R1 rx => ?_, hX⟩
    obtain ⟨⟨ts0, e0⟩, q1⟩ := q1
    obtain ⟨a0, us0, rfl, l0, _⟩ := asL_rel R1 rx e0
    refine ⟨.inl ⟨rfl, us0, l0⟩, S1, ρ, h1, _, RX, ar.mono E1.sub, R1, q1, fun y h2 q2 S2 u2 H2 E2 R2 ry => ?_, hX.mono E1⟩
    obtain ⟨ds, d, j, e1, e2, ej, q⟩ := q2
    rw [List.findIdx?_eq_some_iff_getElem] at ej
    obtain ⟨hj, h3, h4⟩ := ej
    refine ⟨a0, u2, d, ds, j, ds[j], rfl, rfl, dp_of R2 _ _ _ _ (rx.mono E2.sub) e1, dp_of R2 _ _ _ _ ry e2, shaped40 e1, shaped40 e2, List.getElem?_eq_getElem hj, h3, fun m z' hm hz' => ?_, hR _ h2 q S2 _ H2 (E1.trans E2) R2 (by simp [RelT])⟩
    have h5 := h4 m hm
    have hm' : m < ds.length := Nat.lt_trans hm hj
    rw [List.getElem?_eq_getElem hm'] at hz'
    cases hz'
    simpa using h5
end
end TL

namespace TL
open PySem PySem.Spec PyProof.Rows L2
theorem dedup_ok : ∀ (xs acc : List Int), acc.Nodup → (xs.foldl PyProof.Rows.step_dedup acc).Nodup ∧ ∀ k, k ∈ xs.foldl PyProof.Rows.step_dedup acc ↔ k ∈ acc ∨ k ∈ xs
  | [], acc, h => ⟨h, fun k => by simp⟩
  | x :: xs, acc, h => by
    have e : PyProof.Rows.step_dedup acc x = if acc.any (· == x) then acc else acc ++ [x] := rfl
    rw [List.foldl_cons, e]
    by_cases q : acc.any (· == x) = true
    · rw [if_pos q]
      obtain ⟨a, b⟩ := dedup_ok xs acc h
      obtain ⟨y, hy, ey⟩ := List.any_eq_true.mp q
      have ey : y = x := eq_of_beq ey
      subst ey
      refine ⟨a, fun k => ?_⟩
      rw [b, List.mem_cons]
      constructor
      · rintro (h | h)
        · exact .inl h
        · exact .inr (.inr h)
      · rintro (h | rfl | h)
        · exact .inl h
        · exact .inl hy
        · exact .inr h
    · rw [if_neg q]
      have hx : x ∉ acc := fun hm => q (List.any_eq_true.mpr ⟨x, hm, beq_self_eq_true x⟩)
      obtain ⟨a, b⟩ := dedup_ok xs (acc ++ [x]) (List.nodup_append.mpr ⟨h, List.nodup_cons.mpr ⟨List.not_mem_nil, List.nodup_nil⟩, fun a ha b hb => by rw [List.mem_singleton.mp hb]; exact fun e => hx (e ▸ ha)⟩)
      refine ⟨a, fun k => ?_⟩
      rw [b, List.mem_append, List.mem_singleton, List.mem_cons, or_assoc]
theorem firstMet_ok (ns : List Int) : (PyProof.Rows.firstMet (fun i => ns.getD i 0) ns.length).Nodup ∧ ∀ k, k ∈ PyProof.Rows.firstMet (fun i => ns.getD i 0) ns.length ↔ k ∈ ns := by
  have e : (List.range ns.length).map (fun i => ns.getD i 0) = ns := by
    apply List.ext_getElem?
    intro i
    rw [List.getElem?_map]
    by_cases h : i < ns.length
    · rw [List.getElem?_range h, List.getElem?_eq_getElem h]
      show some (ns.getD i 0) = _
      rw [List.getD_eq_getElem?_getD, List.getElem?_eq_getElem h]; rfl
    · rw [List.getElem?_eq_none (by simp; omega), List.getElem?_eq_none (by omega)]; rfl
  unfold PyProof.Rows.firstMet
  rw [e]
  obtain ⟨a, b⟩ := dedup_ok ns [] List.nodup_nil
  exact ⟨a, fun k => by rw [b]; simp⟩
def tLenSetA (K : PySem.W.Frag) (ta : TE) : TE := fun σ H Q => ta σ H fun x H1 => ∃ (l : Addr) (ns : List Int), x = .ref l ∧ (SqL K H1 l (ns.map V.int) ∨ SqT K H1 l (ns.map V.int)) ∧ ns.length ≤ 4000 ∧
  ∀ ks : List Int, ks.Nodup → (∀ k, k ∈ ks ↔ k ∈ ns) → Q (.int (ks.length : Nat)) H1
theorem pe_lenSetA {X : Cx} {a : Expr} {ta : TE} {p p2 q pos : Pos} (hg : Gl X "len") (hm : X.mg "len" = none) (hg2 : Gl X "set") (hm2 : X.mg "set" = none) (ha : PE X a ta) (hc : X.calm = true := by rfl)
    (na : starEach [a] X.env = (false, eval a X.env) :: starEach [] X.env := by rfl) : PE X (.Call (.Name "len" p) [.Call (.Name "set" p2) [a] [] q] [] pos) (tLenSetA X.K ta) := by
  refine ⟨fun pins s σ H Q I h => ?_⟩
  refine Call_ (ld_blt I hg hm boot_len ?_)
  refine PyProof.Rows.callWith_builtin1 (PyProof.Rows.args_cons ?_ rfl) rfl rfl
  refine Call_ (ld_blt I hg2 hm2 boot_set ?_)
  refine PyProof.Rows.callWith_type1 (PyProof.Rows.args_cons (thn (ha.run pins s σ H _ I h) fun v s1 ⟨x, H1, I1, r1, q1⟩ => PyProof.Rows.args_nil ?_) na) na rfl
  obtain ⟨l, ns, rfl, hq, hl, q1⟩ := q1
  cases r1
  rcases hq with hq | hq
  · obtain ⟨its, r, pl, hz⟩ := I1.list hq
    have hlen : its.toArray.size = ns.length := by rw [List.size_toArray, ← r.length, List.length_map]
    refine call_set_list (I1.ok.hd hc) pl.isList (show IntsAre its.toArray.toList ns from ints_of_vals r) (by rw [hlen]; unfold scanBound; omega) fun h' tk hS hk => ?_
    refine PyProof.Rows.args_nil ?_
    rw [hlen] at hS
    obtain ⟨a1, a2⟩ := firstMet_ok ns
    generalize PyProof.Rows.firstMet (fun i => ns.getD i 0) ns.length = ks at a1 a2 hS
    obtain ⟨o, es, ep, t, ho, hex, hd, _, _, hb, hf, hn⟩ := hS
    have I2 : Inv X pins σ H1 { s1 with heap := h', toks := tk } := I1.kept fun b o e => hk b o (Heap.lt_size e) e
    exact call_len_set ho hex hd hf (by unfold scanBound at hb; omega) ⟨.int ks.length, H1, I2.tok _, ⟨_, by rw [hn]⟩, q1 ks a1 a2⟩
  · obtain ⟨its, r, pt, hz⟩ := I1.tuple hq
    have hi : IntsAre its.toArray.toList ns := ints_of_vals r
    refine call_set_tupI ns (I1.ok.hd hc) (show s1.heap.IsTuple l its.toArray from pt) hi (by unfold scanBound; omega) fun h' tk c hS hcn hk => ?_
    refine PyProof.Rows.args_nil ?_
    obtain ⟨o, es, ep, t, ho, hex, hd, _, hnd, hm3, hb, hf, hn, _⟩ := hS
    have I2 : Inv X pins σ H1 { s1 with heap := h', toks := tk } := I1.kept fun b o e => hk b o e
    have hl2 : (es.toList.map L2.keyOf).length = es.size := by simp
    refine call_len_set ho hex hd hf (by unfold scanBound at hb; omega) ⟨.int (es.toList.map L2.keyOf).length, H1, I2.tok _, ⟨_, by rw [hl2]⟩, q1 _ hnd fun k => ?_⟩
    rw [← hm3 k]
    exact ⟨fun h => of_decide_eq_true h, fun h => decide_eq_true h⟩
def wLenSet (w : WEx) : WEx := fun ρ h R RX => w ρ h (fun x h1 => ∃ ns : List Int, asQ h1 x = some (ns.map T.int) ∧ ns.length ≤ 4000 ∧ ∀ ks : List Int, ks.Nodup → (∀ k, k ∈ ks ↔ k ∈ ns) → R (.int (ks.length : Int)) h1) RX
theorem rels_ints {K : PySem.W.Frag} {S : AS} : ∀ {ns : List Int} {us : List V}, RelTs K S (ns.map T.int) us → us = ns.map V.int
  | [], us, r => by simpa [RelTs] using r
  | n :: ns, us, r => by
    simp only [List.map_cons, RelTs] at r
    obtain ⟨u, vs, rfl, r1, r2⟩ := r
    simp only [RelT] at r1
    rw [r1, rels_ints r2]; rfl
section
variable {X : Cx} {W : WX} {a : Expr} {w : WEx} {p p2 q pos : Pos}
theorem se_lenSet (hm : X.mg "len" = none) (hm2 : X.mg "set" = none) (ha : SE X W a w) (hg : Gl X "len" := by rfl) (hg2 : Gl X "set" := by rfl) (hc : X.calm = true := by rfl)
    (na : starEach [a] X.env = (false, eval a X.env) :: starEach [] X.env := by rfl) : SE X W (.Call (.Name "len" p) [.Call (.Name "set" p2) [a] [] q] [] pos) (wLenSet w) :=
  PE.imp (pe_lenSetA hg hm hg2 hm2 ha hc na) fun σ H Q ⟨S, ρ, h, R, RX, ar, hr, hw, hR, hX⟩ => by
    refine ⟨S, ρ, h, _, RX, ar, hr, hw, fun x h1 q1 S1 u H1 E1 R1 rx => ?_, hX⟩
    obtain ⟨ns, e, hl, q1⟩ := q1
    obtain ⟨l, us, rfl, hs, rs⟩ := asQ_rel R1 rx e
    have := rels_ints rs
    subst this
    exact ⟨l, ns, rfl, hs, hl, fun ks h1' h2' => hR _ h1 (q1 ks h1' h2') S1 _ H1 E1 R1 (by simp [RelT])⟩
end
def opPowB : Op2 := fun _ x y => match x, y with
  | .int i, .int j => if 0 ≤ j ∧ j ≤ 3 ∧ i.natAbs < 2 ^ 1000 then some (.int (i ^ j.toNat)) else none
  | _, _ => none
section
variable {X : Cx}
theorem op_powB : OpR X (binaryOp .Pow) (rI (fun i j => 0 ≤ j ∧ j ≤ 3 ∧ i.natAbs < 2 ^ 1000) fun i j => .int (i ^ j.toNat)) := opI fun i j _ _ _ _ _ hc q => by
  obtain ⟨h0, h3, h1⟩ := hc
  refine PyProof.Rows.pow_int h0 ?_ q
  have hb : Builtin.Int.intBits i ≤ 1000 := by
    unfold Builtin.Int.intBits
    split
    · exact Nat.zero_le _
    · have := PySem.Flt.log2_lt_of (n := i.natAbs) (k := 1000) (by decide) h1
      omega
  have h2 : (Builtin.Int.intBits i : Int) * j ≤ 1000 * j := Int.mul_le_mul_of_nonneg_right (by omega) h0
  omega
theorem o_powB : OpR X (binaryOp .Pow) (rO X.K X.mg opPowB) := o_int2 (gt := fun i j => .int (i ^ j.toNat)) op_powB (fun _ _ _ => by simp [RelT]) fun h x y z e => by
  unfold opPowB at e; split at e
  · split at e
    · rename_i c; cases e; exact ⟨_, _, rfl, rfl, c, rfl⟩
    · cases e
  · cases e
end
end TL

namespace TL
open PySem PySem.Spec PyProof.Rows L2
def opIsB (neg : Bool) : Op2 := fun _ x y => match x, y with
  | .bl a, .bl b => some (.bl (if neg then !decide (a = b) else decide (a = b)))
  | _, _ => none
section
variable {X : Cx}
theorem o_isB : OpR X (compareOp .Is) (rO X.K X.mg (opIsB false)) := by
  refine OpR.imp op_isBl fun x y H Q q => ?_
  obtain ⟨S, h, t, t', z, hr, rx, ry, e, q⟩ := q
  unfold opIsB at e
  split at e
  · cases e
    simp only [RelT] at rx ry
    exact ⟨_, _, rx, ry, q S _ H (Ext.refl S H) hr (by simp [RelT])⟩
  · cases e
theorem o_notB : OpR X (compareOp .IsNot) (rO X.K X.mg (opIsB true)) := by
  refine OpR.imp op_notBl fun x y H Q q => ?_
  obtain ⟨S, h, t, t', z, hr, rx, ry, e, q⟩ := q
  unfold opIsB at e
  split at e
  · cases e
    simp only [RelT] at rx ry
    exact ⟨_, _, rx, ry, q S _ H (Ext.refl S H) hr (by simp [RelT])⟩
  · cases e
end
end TL

namespace TL
open PySem PySem.Spec PyProof.Rows L2
section
variable {X : Cx}
def opMin3 : OpN := fun _ ts => match ts with
  | [.int i, .int j, .int k] => some (.int (if j < i then (if k < j then k else j) else if k < i then k else i))
  | _ => none
theorem rel3i {K : PySem.W.Frag} {S : AS} {i j k : Int} {vs : List V} (r : RelTs K S [.int i, .int j, .int k] vs) : vs = [.int i, .int j, .int k] := by
  have e : [T.int i, T.int j, T.int k] = [i, j, k].map T.int := rfl
  rw [e] at r
  exact of_relTs_ints r
theorem c_min3 (hc : X.calm = true) : CallR X (.builtin "min") (rN X.K X.mg opMin3) := by
  intro pins s σ H xs us Q I r h
  obtain ⟨S, h0, ts, z, hr, rs, e, q⟩ := h
  unfold opMin3 at e
  split at e
  · rename_i i j k
    cases e
    have e1 := rel3i rs
    subst e1
    cases r with
    | cons r1 r =>
      cases r with
      | cons r2 r =>
        cases r with
        | cons r3 r =>
          cases r
          obtain ⟨t1, rfl⟩ := r1
          obtain ⟨t2, rfl⟩ := r2
          obtain ⟨t3, rfl⟩ := r3
          refine min_three_ints (I.ok.hd hc) fun h' tk k' => ⟨.int (if j < i then (if k < j then k else j) else if k < i then k else i), H, I.kept k', ?_, q S _ H (Ext.refl S H) hr (by simp [RelT])⟩
          by_cases h1 : j < i
          · rw [if_pos h1, if_pos h1]
            by_cases h2 : k < j
            · rw [if_pos h2, if_pos h2]; exact ⟨_, rfl⟩
            · rw [if_neg h2, if_neg h2]; exact ⟨_, rfl⟩
          · rw [if_neg h1, if_neg h1]
            by_cases h2 : k < i
            · rw [if_pos h2, if_pos h2]; exact ⟨_, rfl⟩
            · rw [if_neg h2, if_neg h2]; exact ⟨_, rfl⟩
  · cases e
def rRepR : R2 := fun x y H Q => ∃ l k xs, x = .ref l ∧ y = .int k ∧ Rd H l (.lst xs) ∧ -(2 ^ 63) ≤ k ∧ k < 2 ^ 63 ∧ xs.length * k.toNat ≤ sizeLine ∧
  ∀ p, H p = none → Q (.ref p) (upd H p (.lst (List.replicate k.toNat xs).flatten))
theorem op_repR : OpR X (binaryOp .Mult) rRepR := by
  intro pins s σ H x y v u Q I rx ry h
  obtain ⟨l, k, xs, rfl, rfl, hH, h1, h2, hz, q⟩ := h
  cases rx
  obtain ⟨t, rfl⟩ := ry
  obtain ⟨z, its, n, r, hl, e⟩ := rdM I hH
  have hlen : its.toArray.size * k.toNat ≤ sizeLine := by rw [List.size_toArray, ← hl]; exact hz
  have hcap : ¬ its.toArray.size * k.toNat > (2 ^ 63 - 1) / 8 := by
    have : (sizeLine : Nat) ≤ (2 ^ 63 - 1) / 8 := by decide
    omega
  have hfit : ¬ (!Builtin.List.listFitsIndex k) = true := by
    rw [fitsIndex_both h1 h2]
    exact Bool.false_ne_true
  have hlong : ¬ Builtin.List.listTooLong (its.toArray.size * k.toNat) = true := by
    rw [notLongL hlen]
    exact Bool.false_ne_true
  have hnew : List.foldl (fun x1 x2 => x1 ++ x2) #[] (List.replicate (if its.toArray.isEmpty = true then 0 else k.toNat) its.toArray) = (List.replicate k.toNat its).flatten.toArray := by
    have f0 : ∀ m : Nat, List.foldl (fun x1 x2 => x1 ++ x2) #[] (List.replicate m its.toArray) = (List.replicate m its).flatten.toArray := fun m => by
      have := foldl_rep its m []
      rw [List.nil_append] at this
      exact this
    rw [f0]
    cases its with
    | nil => simp
    | cons a r' => rw [if_neg (by simp)]
  refine wpAny_binaryOp_repeat_ref (T := "list") (U := "int") (by decide) ⟨_, e, rfl⟩ (fun s' => typeIs_int s' k t) noFill_list_mul F.fills_int_mul F.slot_int_rmul repeat_list F.slot_int_index.lookup
    (call_meets F.slot_int_rmul (typeIs_int s k t) F.entry_int_rmul (F.args_int_rmul_2 _ _) (int___rmul___int_list k t l its.toArray n)
      ⟨e, rfl, ⟨_, e, rfl⟩, call_meets F.slot_list_mul ⟨_, e, rfl⟩ F.entry_list_mul (F.args_list_mul_2 _ _) (AutoListH.list___mul___list_int_3 l its.toArray n k t hfit hcap hlong) ⟨e, ?_⟩⟩)
  rw [hnew]
  exact ⟨.ref _, _, I.lnew (t' := s.toks) (r.rep k.toNat) (by rw [PyProof.Rows.lm_len_rep_flat, Nat.mul_comm]; exact hz), rfl, q _ I.fresh⟩

def okRep (n : Nat) (k : Int) : Prop := -(2 ^ 62) ≤ k ∧ k < 2 ^ 62 ∧ n * k.toNat ≤ lim
instance (n : Nat) (k : Int) : Decidable (okRep n k) := by unfold okRep; infer_instance
def opMulL : Op2 := fun h x y => match y with
  | .int k => match asR h x with
    | some xs => if okRep xs.length k then some (.lst (List.replicate k.toNat xs).flatten) else none
    | none => none
  | _ => none
theorem o_mulL : OpR X (binaryOp .Mult) (rO X.K X.mg opMulL) := by
  refine OpR.imp op_repR fun x y H Q q => ?_
  obtain ⟨S, h, t, t', z, hr, rx, ry, e, q⟩ := q
  unfold opMulL at e
  split at e
  · split at e
    · split at e
      · rename_i xs ex hc
        cases e
        obtain ⟨a, us, rfl, h1, r1⟩ := asR_rel hr rx ex
        simp only [RelT] at ry
        refine ⟨a, _, us, rfl, ry, h1, by have := hc.1; omega, by have := hc.2.1; omega, by rw [← r1.length]; exact lim_le hc.2.2, new_lst hr (r1.rep _) q⟩
      · cases e
    · cases e
  · cases e
variable {W : WX} {a b : Expr} {wa wb : WEx} {pos : Pos}
def wMulC (wa wb : WEx) : WEx := fun ρ h R RX => wa ρ h (fun x h1 => wb ρ h1 (fun y h2 => ∃ k, y = .int k ∧ ∃ xs, asR h2 x = some xs ∧ okRep xs.length k ∧ R (.ref h2.length) (h2 ++ [.lst (List.replicate k.toNat xs).flatten])) RX) RX
theorem se_mulC (ha : SE X W a wa) (hb : SE X W b wb) : SE X W (.BinOp a .Mult b pos) (wMulC wa wb) :=
  PE.imp (pe_op op_repR ha hb) fun σ H Q q => by
    obtain ⟨S, ρ, h, R, RX, ar, hr, hw, hR, hX⟩ := q
    refine ⟨S, ρ, h, _, RX, ar, hr, hw, fun x h1 q1 S1 u H1 E1 R1 rx => ?_, hX⟩
    refine ⟨S1, ρ, h1, _, RX, ar.mono E1.sub, R1, q1, fun y h2 q2 S2 u2 H2 E2 R2 ry => ?_, hX.mono E1⟩
    obtain ⟨k, rfl, xs, ex, hc, q⟩ := q2
    obtain ⟨l, us, rfl, h3, r1⟩ := asR_rel R2 (rx.mono E2.sub) ex
    simp only [RelT] at ry
    exact ⟨l, k, us, rfl, ry, h3, by have := hc.1; omega, by have := hc.2.1; omega, by rw [← r1.length]; exact lim_le hc.2.2, new_cell R2 (r1.rep _) fun S' v H' e2 => hR _ _ q S' v H' ((E1.trans E2).trans e2)⟩
end
theorem turn_long {P : Program} {w : World} {K : PySem.W.Frag} {tg : Expr} (it : Addr) (lo : Int) (n : Nat) : Turn P w K tg (Itr lo n) [it] it (fun i h => IsLongIter h it (lo + (i : Nat) * 1) ((n : Int) - (i : Nat)) 1) where
  mem := by simp
  obj := fun i h st b hb => by
    have e : b = it := by simpa using hb
    subst e
    exact ⟨_, st, fun v z => by
      have z' : Data.fields _ = Data.cell v := z
      cases z'⟩
  keep := fun i h h' st k => k it (by simp) _ st
  item := by
    intro X hP hw hK hc i pins s σ H E I hf st hg
    subst hP hw hK
    obtain ⟨f0, f1, f2, f3, f4, f5⟩ := hf it (by simp)
    have W := Walks.longrange (prog := X.prog) (w := X.w) (I.ok.hd hc) it lo 1 n
    refine W.item i s _ _ hg st fun v h' tk hv st' kk => ?_
    obtain ⟨t, rfl⟩ := hv
    have I1 : Inv X pins σ H { s with heap := h', toks := tk } := I.turned (fun b o hb e => kk b o (by simpa using hb) e) f0 f1 f3 f4 f5
    refine ⟨_, rfl, go_of (s := { s with heap := h', toks := tk }) (n := "longrange_iterator") st' rfl rfl (by decide) ⟨.int (lo + i), H, I1, ⟨t, ?_⟩, ⟨rfl, rfl⟩, st', fun b hb => (hf b hb).1⟩⟩
    rw [Int.mul_one]
  done := by
    intro X hP hw hK hc i pins s σ H E I hf st hg
    subst hP hw hK
    obtain ⟨f0, f1, f2, f3, f4, f5⟩ := hf it (by simp)
    exact wpAny_pyNext_long_end (I.ok.hd hc) st (by have : n ≤ i := hg; omega) fun h' eb => ⟨rfl, I.turned (t' := s.toks) (fun b o hb e => eb b o hb e) f0 f1 f3 f4 f5⟩
  self := fun _ _ _ _ _ st h => wpAny_pyIter_longiter st h

section
variable {X : Cx} {tg : Expr}
theorem range_itS {pins : List (Addr × Obj)} {σ : L2.St} {H : Hp} {s : Shared} {R : It → Hp → Prop} {E : Value → Shared → Prop} {lo hi : Int} {t u v : Tok} {tk : Nat} (I : Inv X pins σ H s) (hsm : Builtin.Range.small lo hi 1 = true)
    (q : R (Itr lo (hi - lo).toNat) H) : wpAny (model X.prog X.w) X.A (pyIter (.ref s.heap.objs.size)) (PIE X pins σ tg R) E { s with heap := s.heap.push { cls := .type "range", data := .fields #[.int lo t, .int hi u, .int 1 v] }, toks := tk } := by
  refine wpAny_pyIter_range (IsRange.new ..) hsm ?_
  have I1 : Inv X pins σ H { s with heap := s.heap.push { cls := .type "range", data := .fields #[.int lo t, .int hi u, .int 1 v] }, toks := tk } := I.kept fun b o e => Heap.get?_push_of_some _ e
  refine ⟨(s.heap.push { cls := .type "range", data := .fields #[.int lo t, .int hi u, .int 1 v] }).objs.size, [(s.heap.push { cls := .type "range", data := .fields #[.int lo t, .int hi u, .int 1 v] }).objs.size], _, _, H, rfl,
    I1.kept (t' := tk) fun b o e => Heap.get?_push_of_some _ e, turn_range _ lo (hi - lo).toNat, ?_, fun b hb => ?_, q⟩
  · have e1 : lo + ((0 : Nat) : Int) * 1 = lo := by simp
    have e2 : (((hi - lo).toNat : Nat) : Int) - ((0 : Nat) : Int) = Builtin.Range.rangeSize lo hi 1 := by rw [rangeSize_one]; split <;> omega
    show IsRangeIter _ _ (lo + ((0 : Nat) : Int) * 1) ((((hi - lo).toNat : Nat) : Int) - ((0 : Nat) : Int)) 1
    rw [e1, e2]
    exact Heap.get?_push_size _ rfl
  · have e : b = (s.heap.push { cls := .type "range", data := .fields #[.int lo t, .int hi u, .int 1 v] }).objs.size := by simpa using hb
    subst e
    exact I1.fpOk (Nat.le_refl _) (I1.hok.fresh (Nat.le_refl _))
theorem range_itB {pins : List (Addr × Obj)} {σ : L2.St} {H : Hp} {s : Shared} {R : It → Hp → Prop} {E : Value → Shared → Prop} {lo hi : Int} {t u v : Tok} {tk : Nat} (I : Inv X pins σ H s) (hsm : Builtin.Range.small lo hi 1 = false)
    (q : R (Itr lo (hi - lo).toNat) H) : wpAny (model X.prog X.w) X.A (pyIter (.ref s.heap.objs.size)) (PIE X pins σ tg R) E { s with heap := s.heap.push { cls := .type "range", data := .fields #[.int lo t, .int hi u, .int 1 v] }, toks := tk } := by
  refine wpAny_pyIter_longrange (IsRange.new ..) hsm ?_
  have I1 : Inv X pins σ H { s with heap := s.heap.push { cls := .type "range", data := .fields #[.int lo t, .int hi u, .int 1 v] }, toks := tk } := I.kept fun b o e => Heap.get?_push_of_some _ e
  refine ⟨(s.heap.push { cls := .type "range", data := .fields #[.int lo t, .int hi u, .int 1 v] }).objs.size, [(s.heap.push { cls := .type "range", data := .fields #[.int lo t, .int hi u, .int 1 v] }).objs.size], _, _, H, rfl,
    I1.kept (t' := tk) fun b o e => Heap.get?_push_of_some _ e, turn_long _ lo (hi - lo).toNat, ?_, fun b hb => ?_, q⟩
  · have e1 : lo + ((0 : Nat) : Int) * 1 = lo := by simp
    have e2 : (((hi - lo).toNat : Nat) : Int) - ((0 : Nat) : Int) = Builtin.Range.rangeSize lo hi 1 := by rw [rangeSize_one]; split <;> omega
    show IsLongIter _ _ (lo + ((0 : Nat) : Int) * 1) ((((hi - lo).toNat : Nat) : Int) - ((0 : Nat) : Int)) 1
    rw [e1, e2]
    exact Heap.get?_push_size _ rfl
  · have e : b = (s.heap.push { cls := .type "range", data := .fields #[.int lo t, .int hi u, .int 1 v] }).objs.size := by simpa using hb
    subst e
    exact I1.fpOk (Nat.le_refl _) (I1.hok.fresh (Nat.le_refl _))
theorem range_itA {pins : List (Addr × Obj)} {σ : L2.St} {H : Hp} {s : Shared} {R : It → Hp → Prop} {E : Value → Shared → Prop} {lo hi : Int} {t u v : Tok} {tk : Nat} (I : Inv X pins σ H s)
    (q : R (Itr lo (hi - lo).toNat) H) : wpAny (model X.prog X.w) X.A (pyIter (.ref s.heap.objs.size)) (PIE X pins σ tg R) E { s with heap := s.heap.push { cls := .type "range", data := .fields #[.int lo t, .int hi u, .int 1 v] }, toks := tk } := by
  cases e : Builtin.Range.small lo hi 1 with
  | true => exact range_itS I e q
  | false => exact range_itB I e q
def iRng2B (ta : TA) : TI := fun σ H R => ta σ H fun vs H1 => ∃ i j : Int, vs = [.int i, .int j] ∧ R (Itr i (j - i).toNat) H1
theorem pi_range2B {a b : Expr} {ta : TA} {p pos : Pos} (hg : Gl X "range") (hm : X.mg "range" = none) (ha : PA X [a, b] ta) (hs : starEach [a, b] X.env = [(false, eval a X.env), (false, eval b X.env)] := by rfl) (hs2 : starEach [b] X.env = [(false, eval b X.env)] := by rfl) :
    PI X tg (.Call (.Name "range" p) [a, b] [] pos) (iRng2B ta) := by
  refine ⟨fun pins s σ H R I h => ?_⟩
  refine Call_ (ld_blt I hg hm boot_range (PyProof.Rows.callWith_type1 (thn (ha.run pos pins s σ H _ I h) fun us s1 ⟨vs, H1, I1, r1, q1⟩ => ?_) (by rw [hs, hs2]) (by rw [hs2]; rfl)))
  obtain ⟨i, j, e, q⟩ := q1
  subst e
  cases r1 with
  | cons r rr =>
    cases rr with
    | cons r' rr =>
      cases rr
      obtain ⟨t, rfl⟩ := r
      obtain ⟨t', rfl⟩ := r'
      exact call_range_2 (range_itA I1 q)
variable {W : WX} {a b : Expr} {wr : WAr} {pos p : Pos}
def wRg2B (wr : WAr) : WIt := fun ρ h R RX => wr ρ h (fun ts h1 => ∃ m n, ts = [.int m, .int n] ∧ R (rangeT m (n - m).toNat) (fun _ => True) h1) RX
theorem si_range2B (hm : X.mg "range" = none) (ha : SA X W [a, b] wr) (hg : Gl X "range" := by rfl) (hs : starEach [a, b] X.env = [(false, eval a X.env), (false, eval b X.env)] := by rfl) (hs2 : starEach [b] X.env = [(false, eval b X.env)] := by rfl) : SI X W tg (.Call (.Name "range" p) [a, b] [] pos) (wRg2B wr) :=
  PI.imp (pi_range2B hg hm ha hs hs2) fun σ H Q ⟨S, ρ, h, R, RX, ar, hr, hw, hR, hX⟩ => by
    refine ⟨S, ρ, h, _, RX, ar, hr, hw, fun ts h1 q1 S1 us H1 E1 R1 rs => ?_, hX⟩
    obtain ⟨m, n, rfl, q⟩ := q1
    obtain ⟨u, u', rfl, r, r'⟩ := rel2 rs
    simp only [RelT] at r r'
    subst r r'
    exact ⟨m, n, rfl, hR _ _ h1 q S1 H1 _ E1 R1 itr_rel⟩
end
section
variable {X : Cx} {W : WX} {a b c : Expr} {wr : WAr} {pos : Pos}
def wPar3 (i j l : Nat) (wr : WAr) : WSt := fun E ρ h => wr ρ h (fun ts h1 => ∃ t u v, ts = [t, u, v] ∧ E.nx (((ρ.set i (some t)).set j (some u)).set l (some v)) h1) (E.xe ρ)
theorem s_par3 (i j l : Nat) {x y z : Str} {px py pz pt : Pos} {kt k2 pt2} (hN : X.N.Nodup) (ha : SA X W [a, b, c] wr) (hc : X.calm = true := by rfl) (hi : X.N[i]? = some x := by rfl) (hj : X.N[j]? = some y := by rfl) (hl : X.N[l]? = some z := by rfl) (hij : i ≠ j := by decide) (hil : i ≠ l := by decide) (hjl : j ≠ l := by decide)
    (hx : X.env.scope.names.lookup x = some .local := by rfl) (hy : X.env.scope.names.lookup y = some .local := by rfl) (hz : X.env.scope.names.lookup z = some .local := by rfl)
    (hsw : swappedStores [.Tuple [.Name x px, .Name y py, .Name z pz] kt pt] (.Tuple [a, b, c] k2 pt2) X.env = pure (some [x, y, z]) := by rfl)
    (hs : swapsWithSole [.Tuple [.Name x px, .Name y py, .Name z pz] kt pt] (.Tuple [a, b, c] k2 pt2) pos.line X.env = pure false := by rfl) :
    SS X W (.Assign [.Tuple [.Name x px, .Name y py, .Name z pz] kt pt] (.Tuple [a, b, c] k2 pt2) pos) (wPar3 i j l wr) := PS.imp (ps_par3 hc hN hi hj hl hij hil hjl hx hy hz ha hsw hs) fun D σ H ⟨S, ρ, h, E, ar, hr, hw, k⟩ => by
  refine ⟨S, ρ, h, _, _, ar, hr, hw, fun ts h1 q1 S1 us H1 E1 R1 rs => ?_, k.xok ar⟩
  obtain ⟨t1, t2, t3, rfl, q⟩ := q1
  simp only [RelTs] at rs
  obtain ⟨v1, r, rfl, r1, v2, r', rfl, r2, v3, r'', rfl, r3, rfl⟩ := rs
  exact ⟨v1, v2, v3, rfl, k.nx _ h1 q S1 _ H1 E1 R1 ((((ar.mono E1.sub).set i r1).set j r2).set l r3)⟩
end
end TL

namespace L2
open PySem PySem.Spec PyProof.Rows
/-- what the clause 'except x as n' wishes of an exception of the body; the exception is tracked from then on -/
def wAsE (K : PySem.W.Frag) (c : Value) (i : Nat) (ts : Addr → Addr → TS) (Wout : WX) (D : Ends) : WX := fun cls d σ H =>
  ∃ b, PySem.W.exmOne K cls c = some b ∧ (b = true → ∃ C, cls = .ref C ∧ d = none ∧ ∀ a, H a = none → ts a C { nx := fun σ' H' => D.nx (σ'.set i none) H', rt := D.rt, bk := fun σ' H' => D.bk (σ'.set i none) H', ct := fun σ' H' => D.ct (σ'.set i none) H' } (σ.set i (some (.ref a))) (upd H a (.ext (TL.ExcAt a C)))) ∧
    (b = false → Wout cls d σ H)
theorem unsuiteE {X : Cx} {σ : St} {H : Hp} {s : Shared} {a : Addr} {pins pn' : List (Addr × Obj)} (I : Inv (X.suite a (X.pn ++ pins)) pn' σ H s) (ok : X.Ok) : Inv X pins σ H s :=
  ⟨ok, I.os, I.bare, I.base, I.loc, I.cell, I.free, I.freeC, fun p hp => I.pin p (List.mem_append_left _ hp), I.hok, I.len⟩
section
variable {X : Cx} {x n : Str} {c : Value} {i : Nat} {body suite : List Stmt} {b₀ : Stmt} {np pos pos' : Pos} {tb : WX → TS} {ts : Addr → Addr → TS} {Wout : WX}
theorem ps_try_asE (hs : X.stack = X.env :: X.outer) (hf : X.env.frame = some X.env.locals) (hN : X.N.Nodup) (hi : X.N[i]? = some n) (hln : X.env.kindOf n = some .local) (hc : Names X x c) (tk : Takes X Wout)
    (hb : ∀ (W : WX) (pn : List (Addr × Obj)) (xe : Value → Shared → Prop), Takes (X.tr pn xe) W → PassesOwn (model X.prog X.w) X.A X.env xe → PSs (X.tr pn xe) body (tb W))
    (hsu : ∀ (a : Addr) (C : Addr) (pn : List (Addr × Obj)), PSs (X.suite a pn) (b₀ :: suite) (ts a C)) :
    PS X (.Try body [.ExceptHandler (some (.Name x np)) (some n) (b₀ :: suite) pos'] [] [] pos) (fun D σ H => tb (wAsE X.K c i ts Wout D) D σ H) := by
  refine ⟨fun pins s σ H D I h => ?_⟩
  have ok := I.ok
  have hfr : X.A.frames = some (X.env :: X.outer) := by rw [ok.frames, hs]
  have hloc : Loc X.env.scope n := .inl hln
  refine wpAny_Try_except ?_
  refine wpAny_mono ((hb (wAsE X.K c i ts Wout D) (X.pn ++ pins) (fun e s₁ => wpAny (model X.prog X.w) X.A (noteFrame e X.env) (fun _ s₂ => wpAny (model X.prog X.w) X.A (setFlight e none) (fun _ s₃ =>
    wpAny (model X.prog X.w) X.A (handleBy e X.env [.ExceptHandler (some (.Name x np)) (some n) (b₀ :: suite) pos']) (SP X pins D) X.xe s₃) X.xe s₂) X.xe s₁) (fun u s' xx => ?_) PassesOwn.looking).run [] s σ H D (I.toTry _) h) (fun f s1 hsp => ?_) (fun e s1 he => he)
  · -- the catch
    obtain ⟨a, B, sI, pins', σ', H', cls, d, rfl, J', nb, up, sky, na, os, ag, b, hb1, hyes, hno⟩ := xx
    have J : Inv X pins σ' H' sI := J'.ofTry ok
    have sky' : Sky B (X.env :: X.outer) a (Zc cls d) X.env.locals s'.heap := by rw [← hs]; exact sky
    show wpAny (model X.prog X.w) X.A (noteFrame (.ref a) X.env) _ _ _
    refine Sky.land Zc.steady hfr hf sky' fun h3 fl3 up3 => ?_
    have J3 : Inv X pins σ' H' { s' with heap := h3 } := J.landed nb fl3.1 (up.trans up3) os ag
    obtain ⟨oe3, vs3, he3, hz3, hd3⟩ := fl3.there
    have notFr : ∀ {h : Heap} {o : Obj} {vs : Array Value}, h.FunFrames B (X.env :: X.outer) → h.get? a = some o → o.data = .fields vs → a ∉ frs (X.env :: X.outer) := fun {h o vs} ff e dd hm => by
      obtain ⟨_, o', e', hnf⟩ := ff.mem hm
      rw [e] at e'; cases e'
      exact hnf _ dd
    have nfr := notFr fl3.2.2.1 he3 hd3
    have nL : a ≠ X.env.locals := fun z => nfr (List.mem_filterMap.mpr ⟨X.env, List.mem_cons_self, by rw [hf, z]⟩)
    have nF : a ∉ X.fs := fun hm => by
      obtain ⟨e, he, q⟩ := List.mem_filterMap.mp hm
      exact nfr (List.mem_filterMap.mpr ⟨e, List.mem_cons_of_mem _ he, q⟩)
    have S3 := J3.suite he3 hd3 na nL nF
    refine wpAny_handleBy_cons (codeAny_handlers_test ?_) (by intro q; cases q)
    have LT : PySem.W.Looks (model X.prog X.w) h3 (typeOf (.ref a)) cls := fun A Q E s k q => wpAny_typeOf_ref (k _ _ he3) (by rw [hz3.1]; exact q)
    have LM := PySem.W.exm_one (M := model X.prog X.w) (J3.kIn) LT hb1
    have test : ∀ {Q : Value → Shared → Prop} {E : Value → Shared → Prop}, Q c { s' with heap := h3 } → wpAny (model X.prog X.w) (X.A.mark (some (.ref a))) (eval (.Name x np) X.env) Q E { s' with heap := h3 } := fun {Q E} q => by
      obtain ⟨hg, hdbg, hm | ⟨hm, hv, hnn⟩⟩ := hc
      · exact ld_glob (X := X.suite a ((a, oe3) :: (X.pn ++ pins))) S3 hg hm q hdbg
      · exact ld_blt (X := X.suite a ((a, oe3) :: (X.pn ++ pins))) S3 hg hm hv q hnn hdbg
    refine test (LM.here ?_)
    cases b with
    | true =>
      refine codeAny_handlers_suite_as ?_
      refine HandSPX.lands_againZ fl3 fun h4 fl4 up4 => ?_
      have J4 : Inv X pins σ' H' { s' with heap := h4 } := J.landed nb fl4.1 ((up.trans up3).trans up4) os ag
      obtain ⟨oe4, vs4, he4, hz4, hd4⟩ := fl4.there
      obtain ⟨C, rfl, rfl, hyes2⟩ := hyes rfl
      have bn : B.get? a = none := fl4.2.1
      have frs_of : ∀ b, b ≠ X.env.locals → b ∉ X.fs → b ∉ frs X.stack := fun b n1 n2 hm => by
        rw [hs] at hm
        obtain ⟨e, he, q⟩ := List.mem_filterMap.mp hm
        rcases List.mem_cons.mp he with z | z
        · subst z; rw [hf] at q; cases q; exact n1 rfl
        · exact n2 (List.mem_filterMap.mpr ⟨e, z, q⟩)
      have sIa : ∀ b o, sI.heap.get? b = some o → b ≠ X.env.locals → b ∉ X.fs → b ≠ a := fun b o e n1 n2 z => by
        have := nb b o e (frs_of b n1 n2)
        rw [z, bn] at this; cases this
      have s0a : ∀ b o, X.s_0.heap.get? b = some o → b ∉ X.ex → b ≠ a := fun b o e hx z => by
        obtain ⟨o', e'⟩ := J.base.there b o e hx
        exact sIa b o' e' (by rw [z]; exact nL.symm ∘ Eq.symm) (by rw [z]; exact nF) z
      have S4 : Inv (X.suite a (X.pn ++ pins)) [] σ' (upd H' a (.ext (TL.ExcAt a C))) { s' with heap := h4 } := by
        refine ⟨J4.ok.suite _ _, J4.os, J4.bare, ⟨J4.base.keep, J4.base.slot, fun b o e n hx => ?_, J4.base.there, fun b xs e => ?_, fun b o u e => ?_, fun b ps e => ?_⟩, J4.loc, J4.cell, ?_, fun x c e => ?_, fun p hp => ?_, fun b u e => ?_, J4.len⟩
        · rw [upd_ne (s0a b o e hx)]; exact J4.base.free b o e n hx
        · have := J4.base.tups b xs e
          rw [upd_ne (ne_of_none this na)]; exact this
        · have := J4.base.frzs b o u e
          rw [upd_ne (ne_of_none this na)]; exact this
        · obtain ⟨more, q⟩ := J4.base.tbls b ps e
          exact ⟨more, by rw [upd_ne (ne_of_none q na)]; exact q⟩
        · rw [upd_ne (Ne.symm nL)]; exact J4.free
        · obtain ⟨v, o, e1, e2⟩ := J4.cell x c e
          have : c ≠ a := fun z => by
            subst z
            rw [he4] at e1; cases e1
            rw [hd4] at e2; cases e2
          rw [upd_ne this]; exact J4.freeC x c e
        · have hp' : p ∈ X.pn ++ pins := by rw [List.append_nil] at hp; exact hp
          obtain ⟨q1, q2, q3, q4, q5⟩ := J4.pin p hp'
          have qI := (J.pin p hp').1
          exact ⟨q1, by rw [upd_ne (sIa p.1 p.2 qI q3 q4)]; exact q2, q3, q4, q5⟩
        · by_cases hb : b = a
          · subst hb
            rw [upd_same] at e; cases e
            exact ⟨⟨oe4, vs4, he4, hz4.1, hz4.2, hd4⟩, ⟨oe4, he4⟩, fun _ _ ⟨o, v, q, r⟩ k => ⟨o, v, k o q, r⟩⟩
          · rw [upd_ne hb] at e
            exact (J4.hok b u e).stay (fun _ _ _ q => q) (fun c q => by rw [upd_ne (ne_of_none q na)]; exact q) fun c xs q => by rw [upd_ne (ne_of_none q na)]; exact q
      refine store_ok (X := X.suite a (X.pn ++ pins)) (v := .ref a) S4 hN hi hloc rfl (fun s5 S5 => ?_) (.inr hln)
      refine wpAny_mono ((hsu a C (X.pn ++ pins)).run [] s5 _ _ _ S5 (hyes2 a na)) (fun f s6 hsp => ?_) (fun _ _ z => False.elim z)
      have end_ : ∀ {σ6 : St} {H6 : Hp} {Q : Shared → Prop}, Inv (X.suite a (X.pn ++ pins)) [] σ6 H6 s6 → (∀ s7, Inv X pins (σ6.set i none) H6 s7 → Q s7) →
          wpAny (model X.prog X.w) X.A (do bindName X.env n .none; unbindBehindTheSuite X.env n pos') (fun _ s7 => Q s7) X.xe s6 := fun {σ6 H6 Q} S6 hq => gone_ok (unsuiteE S6 ok) hN hi hln hq
      cases f with
      | next =>
        obtain ⟨σ6, H6, S6, q6⟩ := hsp
        exact end_ S6 fun s7 J7 => ⟨_, _, J7, q6⟩
      | brk =>
        obtain ⟨σ6, H6, S6, q6⟩ := hsp
        exact end_ S6 fun s7 J7 => ⟨_, _, J7, q6⟩
      | cont =>
        obtain ⟨σ6, H6, S6, q6⟩ := hsp
        exact end_ S6 fun s7 J7 => ⟨_, _, J7, q6⟩
      | ret u =>
        obtain ⟨v6, σ6, H6, S6, r6, q6⟩ := hsp
        exact end_ S6 fun s7 J7 => ⟨_, _, _, J7, r6, q6⟩
    | false =>
      show wpAny _ X.A (handleBy (.ref a) X.env []) _ _ _
      refine wpAny_handleBy_nil ?_
      obtain ⟨k1, k2, k3, oe, vs, T, oT, ts', he, hz, hd, h1, hr⟩ := id fl3
      unfold PySem.passOn
      refine wpAny_bind (wpAny_field he hd h1 ?_)
      rw [if_neg (show ¬ ((Value.ref T == Value.none) = true) from by simp)]
      have fin : wpAny (model X.prog X.w) X.A (setFlight (.ref a) X.env.frame) (fun _ s4 => wpAny (model X.prog X.w) X.A (throw (.ref a) : Sem Flow) (SP X pins D) X.xe s4) X.xe { s' with heap := h3 } := by
        rw [hf]
        refine HandSPX.setFlight_upZ fl3 fun h4 hh4 up4 => wpAny_throw (tk _ _ ?_)
        exact ⟨a, B, sI, pins, σ', H', cls, d, rfl, J, nb, (up.trans up3).trans up4, .inr (.inr (by rw [hs]; exact hh4)), na, os, ag, hno rfl⟩
      first
        | exact wpAny_bind (wpAny_pure (wpAny_bind fin))
        | exact wpAny_bind fin
  · cases f with
    | next =>
      obtain ⟨σ', H', J', q⟩ := hsp
      exact wpAny_execs_nil ⟨σ', H', J'.ofTry ok, q⟩
    | brk =>
      obtain ⟨σ', H', J', q⟩ := hsp
      exact ⟨σ', H', J'.ofTry ok, q⟩
    | cont =>
      obtain ⟨σ', H', J', q⟩ := hsp
      exact ⟨σ', H', J'.ofTry ok, q⟩
    | ret u =>
      obtain ⟨v, σ', H', J', r, q⟩ := hsp
      exact ⟨v, σ', H', J'.ofTry ok, r, q⟩
end
end L2

namespace TL
open PySem PySem.Spec PyProof.Rows L2
section
variable {X : Cx} {W : WX} {pos : Pos}
theorem se_edi : SE X W (.Dict [] [] pos) (wC .edi) := PE.imp pe_dnewK fun σ H Q ⟨S, ρ, h, R, RX, ar, hr, hw, hR, hX⟩ p hp => by
  obtain ⟨R', E⟩ := hr.new (o := .dK []) hp
  exact hR _ _ hw _ _ _ E R' (by simp only [RelT]; exact ⟨p, rfl, upd_same⟩)
end
abbrev bmV : List Value := [.type "ValueError", .type "Exception", .type "BaseException", .type "object"]
/-- an own exception class without an __init__ of its own, of ValueError -/
structure XCls (K : PySem.W.Frag) (mg : Str → Option Value) (c : Str) : Prop where
  ex : ∃ C, mg c = some (.ref C) ∧ PySem.W.excIn K C bmV "ValueError.__new__" = true ∧ PySem.W.keepIn K (.ref C) = true ∧ PySem.W.subIn K (.ref C) (.type "BaseException") = some true ∧ PySem.W.typeIn K (.ref C) = some (.type "type")
def wRaise (c : Str) : WSt := fun E ρ h => E.xc ⟨c, none⟩ ρ h
section
variable {X : Cx} {W : WX} {k : Nat}
theorem s_raise {c m : Str} {j : Nat} {p p2 pos pos' : Pos} (hh : Here X W k) (hx : XCls X.K X.mg c) (hc : X.calm = true := by rfl) (hg : Gl X c := by rfl) (hdb : (c == ("__debug__" : Str)) = false := by decide) :
    SS X W (.Raise (some (.Call (.Name c p) [.Constant (.str m) j p2] [] pos)) none pos') (wRaise c) := by
  obtain ⟨C, gC, q, kC, h1, h2⟩ := hx.ex
  exact PS.imp (ps_raise hc hh.takes (pmk_own PySem.F.excBase_ValueError q gC kC (raises_own h1 h2) hg hdb)) fun D σ H ⟨S, ρ, h, E, ar, hr, hw, k⟩ =>
    k.xc ⟨c, none⟩ ρ h hw S σ H (Ext.refl S H) hr ar C none gC rfl
end
/-- which of the classes a clause that names d takes -/
structure XMatch (K : PySem.W.Frag) (mg : Str → Option Value) (d : Str) (tab : List (Str × Bool)) : Prop where
  ex : ∃ D, mg d = some (.ref D) ∧ ∀ n b, tab.lookup n = some b → ∀ C, mg n = some (.ref C) → PySem.W.exmOne K (.ref C) (.ref D) = some b
def wTry (body : WSt) (tab : List (Str × Bool)) (suite : WSt) : WSt := fun E ρ h => body { E with xc := fun c ρ' h' => match tab.lookup c.name with
  | some true => suite { E with xc := fun _ _ _ => False } ρ' h'
  | some false => E.xc c ρ' h'
  | none => False } ρ h
def wTryAs (i : Nat) (body : WSt) (tab : List (Str × Bool)) (suite : WSt) : WSt := fun E ρ h => body { E with xc := fun c ρ' h' => match tab.lookup c.name with
  | some true => c.fs = none ∧ suite { nx := fun ρ2 h2 => E.nx (ρ2.set i none) h2, rt := E.rt, bk := fun ρ2 h2 => E.bk (ρ2.set i none) h2, ct := fun ρ2 h2 => E.ct (ρ2.set i none) h2, xc := fun _ _ _ => False } (ρ'.set i (some (.ref h'.length))) (h' ++ [.exc c.name])
  | some false => E.xc c ρ' h'
  | none => False } ρ h
theorem to_cx {X Y : Cx} {W : WX} {u : WSt} {D : Ends} {σ : L2.St} {H : Hp} (hK : Y.K = X.K) (hm : Y.mg = X.mg) (q : tWS X W u D σ H) : tWS Y W u D σ H := by
  obtain ⟨S, ρ, h, E, ar, hr, hw, k⟩ := q
  exact ⟨S, ρ, h, E, by rw [hK]; exact ar, by rw [hK, hm]; exact hr, hw, ⟨by rw [hK, hm]; exact k.nx, by rw [hK, hm]; exact k.rt, by rw [hK, hm]; exact k.bk, by rw [hK, hm]; exact k.ct, by rw [hK, hm]; exact k.xc⟩⟩
section
variable {X : Cx} {W : WX} {k : Nat} {d : Str} {tab : List (Str × Bool)} {body suite : List Stmt} {b₀ : Stmt} {np pos pos' : Pos} {u v : WSt}
theorem s_try (hh : Here X W k) (hm : XMatch X.K X.mg d tab)
    (hb : ∀ (W' : WX) (pn : List (Addr × Obj)) (xe : Value → Shared → Prop), Here (X.tr pn xe) W' k → PassesOwn (model X.prog X.w) X.A X.env xe → SSs (X.tr pn xe) W' body u)
    (hsu : ∀ (a : Addr) (pn : List (Addr × Obj)), SSs (X.suite a pn) (fun _ _ _ _ => False) (b₀ :: suite) v)
    (hs : X.stack = X.env :: X.outer := by rfl) (hf : X.env.frame = some X.env.locals := by rfl) (hg : Gl X d := by rfl) (hdb : (d == ("__debug__" : Str)) = false := by decide) :
    SS X W (.Try body [.ExceptHandler (some (.Name d np)) none (b₀ :: suite) pos'] [] [] pos) (wTry u tab v) := by
  obtain ⟨D, hD, hx⟩ := hm.ex
  refine PS.imp (ps_try_only (c := .ref D) (ts := fun _ _ _ => tWS X (fun _ _ _ _ => False) v) (tb := fun W' => tWS X W' u) hs hf ⟨hg, hdb, .inl hD⟩ hh.takes (fun W' pn xe tk po => PSs.imp (hb W' pn xe ⟨hh.room, hh.guards, tk⟩ po) fun _ _ _ q => to_cx (X := X) (Y := X.tr pn xe) rfl rfl q) (fun a oe cls d' pn _ _ => PSs.imp (hsu a _) fun _ _ _ q => to_cx (X := X) (Y := X.suite a _) rfl rfl q)) fun E0 σ H q => ?_
  obtain ⟨S, ρ, h, E, ar, hr, hw, kk⟩ := q
  refine ⟨S, ρ, h, _, ar, hr, hw, ⟨kk.nx, kk.rt, kk.bk, kk.ct, fun c ρ' h' q S' σ' H' e r a C dd hC hd => ?_⟩⟩
  have q : match tab.lookup c.name with
    | some true => v { E with xc := fun _ _ _ => False } ρ' h'
    | some false => E.xc c ρ' h'
    | none => False := q
  cases hl : tab.lookup c.name with
  | none => rw [hl] at q; exact q.elim
  | some b =>
    rw [hl] at q
    refine ⟨b, hx _ _ hl C hC, fun hb' _ _ => ?_, fun hb' => ?_⟩
    · subst hb'
      have k2 := kk.mono e
      exact ⟨S', ρ', h', _, a, r, q, ⟨k2.nx, k2.rt, k2.bk, k2.ct, fun _ _ _ z => z.elim⟩⟩
    · subst hb'
      exact kk.xc c ρ' h' q S' σ' H' e r a C dd hC hd
theorem s_tryAs (i : Nat) {n : Str} (hh : Here X W k) (hm : XMatch X.K X.mg d tab) (hN : X.N.Nodup)
    (hb : ∀ (W' : WX) (pn : List (Addr × Obj)) (xe : Value → Shared → Prop), Here (X.tr pn xe) W' k → PassesOwn (model X.prog X.w) X.A X.env xe → SSs (X.tr pn xe) W' body u)
    (hsu : ∀ (a : Addr) (pn : List (Addr × Obj)), SSs (X.suite a pn) (fun _ _ _ _ => False) (b₀ :: suite) v)
    (hs : X.stack = X.env :: X.outer := by rfl) (hf : X.env.frame = some X.env.locals := by rfl) (hg : Gl X d := by rfl) (hdb : (d == ("__debug__" : Str)) = false := by decide) (hi : X.N[i]? = some n := by rfl) (hln : X.env.kindOf n = some .local := by rfl) :
    SS X W (.Try body [.ExceptHandler (some (.Name d np)) (some n) (b₀ :: suite) pos'] [] [] pos) (wTryAs i u tab v) := by
  obtain ⟨D, hD, hx⟩ := hm.ex
  refine PS.imp (ps_try_asE (c := .ref D) (ts := fun _ _ => tWS X (fun _ _ _ _ => False) v) (tb := fun W' => tWS X W' u) hs hf hN hi hln ⟨hg, hdb, .inl hD⟩ hh.takes (fun W' pn xe tk po => PSs.imp (hb W' pn xe ⟨hh.room, hh.guards, tk⟩ po) fun _ _ _ q => to_cx (X := X) (Y := X.tr pn xe) rfl rfl q) (fun a C pn => PSs.imp (hsu a pn) fun _ _ _ q => to_cx (X := X) (Y := X.suite a pn) rfl rfl q)) fun E0 σ H q => ?_
  obtain ⟨S, ρ, h, E, ar, hr, hw, kk⟩ := q
  refine ⟨S, ρ, h, _, ar, hr, hw, ⟨kk.nx, kk.rt, kk.bk, kk.ct, fun c ρ' h' q S' σ' H' e r a C dd hC hd => ?_⟩⟩
  have q : match tab.lookup c.name with
    | some true => c.fs = none ∧ v { nx := fun ρ2 h2 => E.nx (ρ2.set i none) h2, rt := E.rt, bk := fun ρ2 h2 => E.bk (ρ2.set i none) h2, ct := fun ρ2 h2 => E.ct (ρ2.set i none) h2, xc := fun _ _ _ => False } (ρ'.set i (some (.ref h'.length))) (h' ++ [.exc c.name])
    | some false => E.xc c ρ' h'
    | none => False := q
  cases hl : tab.lookup c.name with
  | none => rw [hl] at q; exact q.elim
  | some b =>
    rw [hl] at q
    refine ⟨b, hx _ _ hl C hC, fun hb' => ?_, fun hb' => ?_⟩
    · subst hb'
      obtain ⟨q1, q2⟩ := q
      have hd0 : dd = none := by rw [q1] at hd; exact hd
      refine ⟨C, rfl, hd0, fun ad na => ?_⟩
      obtain ⟨R2, E2⟩ := r.cell (o := .ext (ExcAt ad C)) (c := .exc c.name) na ⟨C, upd_same, hC⟩
      have k2 := kk.mono (e.trans E2)
      have wp : ∀ {S3 : AS} {ρ3 : Rho} {σ3 : L2.St}, ARel X.K S3 ρ3 σ3 → ARel X.K S3 (ρ3.set i none) (σ3.set i none) := fun {S3 ρ3 σ3} z => by
        refine ⟨by rw [List.length_set, List.length_set]; exact z.1, fun j t q => ?_⟩
        by_cases hj : i = j
        · subst hj
          by_cases hl' : i < ρ3.length
          · rw [List.getElem?_set_self hl'] at q; cases q
          · rw [List.getElem?_eq_none (by rw [List.length_set]; exact Nat.le_of_not_lt hl')] at q; cases q
        · rw [List.getElem?_set_ne hj] at q
          rw [List.getElem?_set_ne hj]
          exact z.2 j t q
      refine ⟨_, _, _, _, (a.mono E2.sub).set i ?_, R2, q2, ⟨fun ρ2 h2 z S3 σ3 H3 e3 r3 a3 => k2.nx _ _ z S3 _ H3 e3 r3 (wp a3), k2.rt, fun ρ2 h2 z S3 σ3 H3 e3 r3 a3 => k2.bk _ _ z S3 _ H3 e3 r3 (wp a3), fun ρ2 h2 z S3 σ3 H3 e3 r3 a3 => k2.ct _ _ z S3 _ H3 e3 r3 (wp a3), fun _ _ _ z => z.elim⟩⟩
      simp only [RelT]
      exact ⟨by show h'.length < S'.k + 1; rw [r.k]; exact Nat.lt_succ_self _, by rw [← r.k, AS.more_at]⟩
    · subst hb'
      exact kk.xc c ρ' h' q S' σ' H' e r a C dd hC hd
end
/-- what isinstance tells of instances of these classes -/
structure XInst (K : PySem.W.Frag) (mg : Str → Option Value) (Dv : Value) (tab : List (Str × Bool)) : Prop where
  ex : ∀ n b, tab.lookup n = some b → ∀ C, mg n = some (.ref C) → ExcC K C ∧ PySem.W.kitOne K (.ref C) Dv = some b
def rIsX (K : PySem.W.Frag) : List V → Hp → VK → Prop := fun xs H Q => ∃ (a C : Addr) (c : V) (cv : Value) (b : Bool), xs = [.ref a, c] ∧ H a = some (.ext (ExcAt a C)) ∧ (∀ u, RelV c u → u = cv) ∧ ExcC K C ∧ PySem.W.kitOne K (.ref C) cv = some b ∧ Q (.bl b) H
theorem call_isX {X : Cx} : CallR X (.builtin "isinstance") (rIsX X.K) := by
  intro pins s σ H xs us Q I r h
  obtain ⟨a, C, c, cv, b, rfl, ha, hcv, EC, e, q⟩ := h
  cases r with
  | cons rx rr =>
    cases rr with
    | cons rt rr =>
      cases rr
      cases rx
      have ec := hcv _ rt
      subst ec
      obtain ⟨⟨oe, vs, hget, h1, h2, hv⟩, _⟩ := I.hok a _ ha
      have J : PySem.W.InstAt s.heap a oe C none := by
        obtain ⟨oc, od, oda, osl⟩ := oe
        dsimp only at h1 h2 hv
        subst h1 h2 hv
        exact ⟨hget, rfl, rfl, trivial⟩
      exact PySem.W.kia_one (PySem.W.handS_kitx_exc EC.hg EC.hk EC.hs EC.hd EC.ha EC.hn EC.ht EC.hm) I.kIn J e (fun z => nomatch z) fun tk => ⟨.bl b, H, I.kept (t' := tk) fun _ _ z => z, rfl, q⟩
def wIsE (tab : List (Str × Bool)) (w : WEx) : WEx := fun ρ h R RX => w ρ h (fun x h1 => ∃ n c b, x = .ref n ∧ h1[n]? = some (.exc c) ∧ tab.lookup c = some b ∧ R (.bl b) h1) RX
section
variable {X : Cx} {W : WX} {e : Expr} {w : WEx} {y d : Str} {tab : List (Str × Bool)} {p p2 pos : Pos}
theorem tW_isE {D : V} {Dv : Value} {σ : L2.St} {H : Hp} {Q : VK} (hD : ∀ u, RelV D u → u = Dv) (hx : XInst X.K X.mg Dv tab) (q : tW X W (wIsE tab w) σ H Q) :
    tW X W w σ H fun x H1 => rIsX X.K [x, D] H1 Q := by
  obtain ⟨S, ρ, h, R, RX, ar, hr, hw, hR, hX⟩ := q
  refine ⟨S, ρ, h, _, RX, ar, hr, hw, fun x h1 q1 S1 u H1 E1 R1 rx => ?_, hX⟩
  obtain ⟨n, c, b, rfl, hn, hl, q⟩ := q1
  simp only [RelT] at rx
  obtain ⟨_, rfl⟩ := rx
  obtain ⟨C, ha, hC⟩ := R1.c n _ hn
  obtain ⟨EC, ek⟩ := hx.ex _ _ hl C hC
  exact ⟨_, C, D, Dv, b, rfl, ha, hD, EC, ek, hR _ h1 q S1 _ H1 E1 R1 (by simp [RelT])⟩
theorem se_isE (ha : SE X W e w) (hm : X.mg "isinstance" = none) {D : Addr} (hy : X.mg y = some (.ref D)) (hx : XInst X.K X.mg (.ref D) tab) (hg : Gl X "isinstance" := by rfl) (hgy : Gl X y := by rfl) (hdy : (y == ("__debug__" : Str)) = false := by decide)
    (he : starEach [e, .Name y p2] X.env = (false, eval e X.env) :: starEach [.Name y p2] X.env := by rfl) (he2 : starEach [.Name y p2] X.env = (false, eval (.Name y p2) X.env) :: starEach [] X.env := by rfl) (hpl : (backTo pos (starEach [.Name y p2] X.env)).any (·.1) = false := by rfl) :
    SE X W (.Call (.Name "isinstance" p) [e, .Name y p2] [] pos) (wIsE tab w) :=
  PE.imp (pe_callB call_isX hg hm (by decide +kernel) (pa_cons ha (pa_cons (pe_glob (v := .ref D) hgy hy rfl hdy) pa_nil he2) he) (by decide) (by decide) he hpl) fun σ H Q q => tW_isE (D := .ref D) (fun u r => r) hx q
theorem se_isEB {n : String} (ha : SE X W e w) (hm : X.mg "isinstance" = none) (hy : X.mg y = none) (hx : XInst X.K X.mg (.type n) tab) (hvy : bootBuiltins y = some (.type n) := by decide +kernel) (hg : Gl X "isinstance" := by rfl) (hgy : Gl X y := by rfl)
    (hny : y ≠ "__name__" := by decide) (hdy : (y == ("__debug__" : Str)) = false := by decide)
    (he : starEach [e, .Name y p2] X.env = (false, eval e X.env) :: starEach [.Name y p2] X.env := by rfl) (he2 : starEach [.Name y p2] X.env = (false, eval (.Name y p2) X.env) :: starEach [] X.env := by rfl) (hpl : (backTo pos (starEach [.Name y p2] X.env)).any (·.1) = false := by rfl) :
    SE X W (.Call (.Name "isinstance" p) [e, .Name y p2] [] pos) (wIsE tab w) :=
  PE.imp (pe_callB call_isX hg hm (by decide +kernel) (pa_cons ha (pa_cons (pe_bltn (v := .ty n) hgy hy hvy rfl hny hdy) pa_nil he2) he) (by decide) (by decide) he hpl) fun σ H Q q => tW_isE (D := .ty n) (fun u r => r) hx q
end
theorem tab_cases {P : Str → Bool → Prop} : ∀ tab : List (Str × Bool), (∀ p ∈ tab, P p.1 p.2) → ∀ n b, tab.lookup n = some b → P n b
  | [], _, n, b, e => by cases e
  | (c, v) :: tab, h, n, b, e => by
    rw [List.lookup_cons] at e
    by_cases hc : n = c
    · subst hc
      simp at e
      subst e
      exact h (n, v) (by simp)
    · have : (n == c) = false := by simpa using hc
      rw [this] at e
      exact tab_cases tab (fun p hp => h p (by simp [hp])) n b e
theorem xm1 {K : PySem.W.Frag} {mg : Str → Option Value} {c : Str} {A : Addr} {D : Value} {b : Bool} (h : mg c = some (.ref A)) (e : PySem.W.exmOne K (.ref A) D = some b) : ∀ C, mg c = some (.ref C) → PySem.W.exmOne K (.ref C) D = some b := fun C hC => by
  rw [h] at hC; cases hC; exact e
theorem xi1 {K : PySem.W.Frag} {mg : Str → Option Value} {c : Str} {A : Addr} {D : Value} {b : Bool} (h : mg c = some (.ref A)) (x : ExcC K A) (e : PySem.W.kitOne K (.ref A) D = some b) : ∀ C, mg c = some (.ref C) → ExcC K C ∧ PySem.W.kitOne K (.ref C) D = some b := fun C hC => by
  rw [h] at hC; cases hC; exact ⟨x, e⟩
theorem kit_cls_r {K : PySem.W.Frag} {C D : Addr} {b : Bool} (h2 : PySem.W.isClsIn K D = true) (h3 : PySem.W.typeIn K (.ref D) = some (.type "type")) (h4 : PySem.W.subIn K (.ref C) (.ref D) = some b) : PySem.W.kitCls K (.ref C) (.ref D) = some b := by
  have e : PySem.W.kitCls K (.ref C) (.ref D) = if ((PySem.W.clsIn K D).isSome && PySem.W.typeIn K (.ref D) == some (.type "type")) = true then PySem.W.subIn K (.ref C) (.ref D) else none := rfl
  have h2 : (PySem.W.clsIn K D).isSome = true := h2
  rw [e, h2, h3, h4, if_pos (by simp)]
theorem exm_mk {K : PySem.W.Frag} {C D : Addr} {b : Bool} (h1 : PySem.W.subIn K (.ref D) (.type "BaseException") = some true) (h2 : PySem.W.isClsIn K D = true) (h3 : PySem.W.typeIn K (.ref D) = some (.type "type")) (h4 : PySem.W.subIn K (.ref C) (.ref D) = some b) : PySem.W.exmOne K (.ref C) (.ref D) = some b := by
  unfold PySem.W.exmOne
  rw [h1, if_pos (by simp)]
  exact kit_cls_r h2 h3 h4
theorem kit_self {K : PySem.W.Frag} {C : Addr} : PySem.W.kitOne K (.ref C) (.ref C) = some true := by
  unfold PySem.W.kitOne
  rw [if_pos (by simp)]
theorem kit_mkR {K : PySem.W.Frag} {C D : Addr} {b : Bool} (h0 : (Value.ref C == Value.ref D) = false) (h2 : PySem.W.isClsIn K D = true) (h3 : PySem.W.typeIn K (.ref D) = some (.type "type")) (h4 : PySem.W.subIn K (.ref C) (.ref D) = some b) : PySem.W.kitOne K (.ref C) (.ref D) = some b := by
  unfold PySem.W.kitOne
  rw [h0, if_neg (by simp)]
  exact kit_cls_r h2 h3 h4
theorem kit_mkT {K : PySem.W.Frag} {C : Addr} {y : String} {b : Bool} (h2 : PySem.W.kitMeta y = true) (h4 : PySem.W.subIn K (.ref C) (.type y) = some b) : PySem.W.kitOne K (.ref C) (.type y) = some b := by
  have e : PySem.W.kitCls K (.ref C) (.type y) = if PySem.W.kitMeta y = true then PySem.W.subIn K (.ref C) (.type y) else none := rfl
  have h0 : (Value.ref C == Value.type y) = false := rfl
  unfold PySem.W.kitOne
  rw [h0, if_neg (by simp), e, if_pos h2, h4]
end TL

namespace TL
open PySem PySem.Spec PyProof.Rows L2
section
variable {X : Cx} {W : WX} {tg a b c : Expr} {p pos : Pos} {wr : WAr}
def rangeS (lo c : Int) (n : Nat) : List T := (List.range n).map fun (i : Nat) => T.int (lo + (i : Int) * c)
theorem itc_rel {lo c : Int} {n : Nat} {S0 : AS} {H0 : Hp} : ItRel X (Itc lo c n) (rangeS lo c n) (fun _ => True) S0 H0 := fun i S' h' H' e r _ => by
  have hl : (rangeS lo c n).length = n := by simp [rangeS]
  refine ⟨fun t ht => ?_, fun hh => by rw [hl] at hh; exact hh⟩
  have hi : i < n := by have := (List.getElem?_eq_some_iff.mp ht).1; rw [hl] at this; exact this
  refine ⟨hi, fun x H'' ⟨e1, y⟩ => ?_⟩
  subst e1 y
  simp only [rangeS, List.getElem?_map, List.getElem?_range hi, Option.map_some, Option.some.injEq] at ht
  subst ht
  exact ⟨S', Ext.refl _ _, r, by simp [RelT]⟩
def wRg3 (wr : WAr) : WIt := fun ρ h R RX => wr ρ h (fun ts h1 => ∃ i j c n, ts = [.int i, .int j, .int c] ∧ RgC i j c n ∧ R (rangeS i c n) (fun _ => True) h1) RX
theorem si_range3 (hm : X.mg "range" = none) (ha : SA X W [a, b, c] wr) (hg : Gl X "range" := by rfl) (hs : starEach [a, b, c] X.env = (false, eval a X.env) :: starEach [b, c] X.env := by rfl) (hpl : (backTo pos (starEach [b, c] X.env)).any (·.1) = false := by rfl) : SI X W tg (.Call (.Name "range" p) [a, b, c] [] pos) (wRg3 wr) :=
  PI.imp (pi_range3 hg hm ha hs hpl) fun σ H Q ⟨S, ρ, h, R, RX, ar, hr, hw, hR, hX⟩ => by
    refine ⟨S, ρ, h, _, RX, ar, hr, hw, fun ts h1 q1 S1 us H1 E1 R1 rs => ?_, hX⟩
    obtain ⟨i, j, c, n, rfl, bb, q⟩ := q1
    obtain rfl := rel3i rs
    exact ⟨i, j, c, n, rfl, bb, hR _ _ h1 q S1 H1 _ E1 R1 itc_rel⟩
end
section
variable {X : Cx} {W : WX} {e : Expr} {p pos : Pos} {w : WEx}
def wSorted (w : WEx) : WEx := fun ρ h R RX => w ρ h (fun x h1 => ∃ (xs : List T) (ns : List Int), asL h1 x = some xs ∧ xs = ns.map T.int ∧ ∀ ns' : List Int, ns'.Perm ns → ns'.Pairwise (· ≤ ·) → R (.lst (ns'.map T.int)) h1) RX
theorem se_sorted (hm : X.mg "sorted" = none) (ha : SE X W e w) (hg : Gl X "sorted" := by rfl) (he : starEach [e] X.env = (false, eval e X.env) :: starEach [] X.env := by rfl) (hpl : (backTo pos (starEach [] X.env)).any (·.1) = false := by rfl) :
    SE X W (.Call (.Name "sorted" p) [e] [] pos) (wSorted w) :=
  PE.imp (pe_callB cr_sortedI hg hm (by decide +kernel) (pa_cons ha pa_nil he) (by decide) (by decide) he hpl) fun σ H Q ⟨S, ρ, h, R, RX, ar, hr, hw, hR, hX⟩ => by
    refine ⟨S, ρ, h, _, RX, ar, hr, hw, fun x h1 q1 S1 u H1 E1 R1 rx => ?_, hX⟩
    obtain ⟨xs, ns, e1, e2, q⟩ := q1
    subst e2
    obtain ⟨a, us, rfl, h1, r1⟩ := asL_rel R1 rx e1
    have eu := of_relTs_ints r1
    subst eu
    refine ⟨a, ns, rfl, h1, fun ns' p hp hs hn => ?_⟩
    exact new_lst R1 (relTs_ints ns') (fun S' v H' E2 R2 rv => hR _ _ (q ns' hp hs) S' v H' (E1.trans E2) R2 rv) p hn
end
end TL

namespace TL
open PySem PySem.Spec PyProof.Rows L2
def prT (p : Int × Int) : T := .tup [.int p.1, .int p.2]
def prLe (p q : Int × Int) : Prop := p.1 < q.1 ∨ (p.1 = q.1 ∧ p.2 ≤ q.2)
def prOf (H : Hp) : V → Int × Int
  | .ref t => match H t with
    | some (.tup [.int i, .int j]) => (i, j)
    | _ => (0, 0)
  | _ => (0, 0)
theorem pr_rel {K : PySem.W.Frag} {mg : Str → Option Value} {S : AS} {h : AH} {H : Hp} (hr : HRel K mg S h H) {p : Int × Int} {v : V} (r : RelT K S (prT p) v) : ∃ t, v = .ref t ∧ H t = some (.tup [.int p.1, .int p.2]) ∧ prOf H v = p := by
  simp only [prT, RelT, RelTs] at r
  obtain ⟨a, us, rfl, q, u1, r1, rfl, e1, u2, r2, rfl, e2, rfl⟩ := r
  subst e1 e2
  have q := hr.g _ _ q
  exact ⟨a, rfl, q, by simp [prOf, q]⟩
theorem prs_rel {K : PySem.W.Frag} {mg : Str → Option Value} {S : AS} {h : AH} {H : Hp} (hr : HRel K mg S h H) : ∀ {ps : List (Int × Int)} {us : List V}, RelTs K S (ps.map prT) us → us.map (prOf H) = ps ∧ ∀ x ∈ us, ∃ t, x = V.ref t ∧ H t = some (.tup [.int (prOf H x).1, .int (prOf H x).2])
  | [], us, r => by
    simp only [List.map_nil, RelTs] at r; subst r
    exact ⟨rfl, by simp⟩
  | p :: ps, us, r => by
    simp only [List.map_cons, RelTs] at r
    obtain ⟨u, us', rfl, r1, r2⟩ := r
    obtain ⟨t, e1, e2, e3⟩ := pr_rel hr r1
    obtain ⟨f1, f2⟩ := prs_rel hr r2
    refine ⟨by rw [List.map_cons, e3, f1], fun x hx => ?_⟩
    rcases List.mem_cons.mp hx with rfl | hx
    · exact ⟨t, e1, by rw [e3]; exact e2⟩
    · exact f2 x hx
section
variable {X : Cx} {W : WX} {e : Expr} {p pos : Pos} {w : WEx}
def wSortedUp (w : WEx) : WEx := fun ρ h R RX => w ρ h (fun x h1 => ∃ (xs : List T) (ps : List (Int × Int)), asL h1 x = some xs ∧ xs = ps.map prT ∧ ps.Pairwise prLe ∧ R (.lst xs) h1) RX
theorem se_sortedUp (hm : X.mg "sorted" = none) (ha : SE X W e w) (hg : Gl X "sorted" := by rfl) (he : starEach [e] X.env = (false, eval e X.env) :: starEach [] X.env := by rfl) (hpl : (backTo pos (starEach [] X.env)).any (·.1) = false := by rfl) :
    SE X W (.Call (.Name "sorted" p) [e] [] pos) (wSortedUp w) :=
  PE.imp (pe_callB cr_sortedPO hg hm (by decide +kernel) (pa_cons ha pa_nil he) (by decide) (by decide) he hpl) fun σ H Q ⟨S, ρ, h, R, RX, ar, hr, hw, hR, hX⟩ => by
    refine ⟨S, ρ, h, _, RX, ar, hr, hw, fun x h1 q1 S1 u H1 E1 R1 rx => ?_, hX⟩
    obtain ⟨xs, ps, e1, e2, hp, q⟩ := q1
    obtain ⟨a, us, rfl, h1, r1⟩ := asL_rel R1 rx e1
    have r0 := r1
    rw [e2] at r0
    obtain ⟨f1, f2⟩ := prs_rel R1 r0
    have su : SrtO.Srtd (ltP (prOf H1)) us := by
      have hp2 : (us.map (prOf H1)).Pairwise prLe := by rw [f1]; exact hp
      rw [List.pairwise_map] at hp2
      refine hp2.imp fun {x y} h => ?_
      refine SrtO.lexB_no.mpr ?_
      rcases h with h | ⟨h, h'⟩
      · omega
      · omega
    refine ⟨a, us, prOf H1, rfl, h1, f2, fun ys q hs hb hn => ?_⟩
    have : ys = us := SrtO.stb_uniq (ltP_swo (prOf H1)) hs su hb
    subst this
    exact new_lst R1 r1 (fun S' v H' E2 R2 rv => hR _ _ ‹_› S' v H' (E1.trans E2) R2 rv) q hn
end
end TL

namespace PySem
open Sem (wp)
/-- a zip whose tuple is in, or out, known or not -/
abbrev ZipAt (h : Heap) (z TI TO : Addr) (v : Value) (f : Bool) : Prop :=
  h.get? z = some { cls := .type "zip", dict := none, data := .fields #[v, .bool f, .bool false, .ref TI, .ref TO], slots := #[] }
def ZipV (v : Value) : Prop := v = .none ∨ ∃ T : Nat, v = rawInt (T : Int)
section
variable {prog : Program} {w : World} {A : Around} {E : Value → Shared → Prop} {s : Shared}
theorem ez_alive {a : Addr} {Q : Option Obj → Shared → Prop} (h : Q (s.heap.get? a) s) : wpAny (model prog w) A (loadIfAlive a) Q E s := fun _ _ _ => h
theorem ez_free {z TI TO : Addr} {v : Value} {f : Bool} {Q : Bool → Shared → Prop} (hz : ZipAt s.heap z TI TO v f) (hv : ZipV v)
    (h : ∀ b h' f', ZipAt h' z TI TO v f' → Heap.SameBut z s.heap h' → Q b { s with heap := h' }) : wpAny (model prog w) A (Builtin.SmallTypes.ownedTupleIsFree (.ref z)) Q E s := by
  unfold Builtin.SmallTypes.ownedTupleIsFree
  rcases hv with rfl | ⟨T, rfl⟩
  · exact wpAny_bind (wpAny_field hz rfl (x := .none) rfl (wpAny_pure (h true s.heap f hz (Heap.SameBut.refl _ _))))
  · refine wpAny_bind (wpAny_field hz rfl (x := rawInt (T : Int)) rfl ?_)
    show wpAny _ _ (loadIfAlive ((T : Int).toNat) >>= _) _ _ _
    rw [Int.toNat_natCast]
    refine wpAny_bind (ez_alive ?_)
    cases s.heap.get? T with
    | none =>
      simp only [Option.isNone_none, if_true]
      exact wpAny_pure (h true s.heap f hz (Heap.SameBut.refl _ _))
    | some o =>
      simp only [Option.isNone_some, Bool.false_eq_true, if_false]
      refine wpAny_bind (wpAny_field hz rfl (x := .bool f) rfl ?_)
      cases f with
      | true =>
        rw [if_neg (show ¬ ((Value.bool true != Value.bool true) = true) from Bool.false_ne_true)]
        exact wpAny_pure (h false s.heap true hz (Heap.SameBut.refl _ _))
      | false =>
        rw [if_pos (show (Value.bool false != Value.bool true) = true from rfl)]
        exact wpAny_bind (wpAny_setField_rec hz (by simp) fun h₁ hz₁ hs₁ => wpAny_pure (h false h₁ true hz₁ hs₁))
theorem ez_item {z TI TO i1 i2 l1 l2 : Addr} {k1 k2 : Nat} {xs ys : Array Value} {v x y a b : Value} {f : Bool} {Q : Value → Shared → Prop} (D : ZipApart z TI TO i1 i2 l1 l2)
    (hz : ZipAt s.heap z TI TO v f) (hv : ZipV v) (hTI : IsPair s.heap TI (.ref i1) (.ref i2)) (hTO : IsPair s.heap TO a b)
    (h1 : s.heap.IsListIter i1 l1 k1) (h2 : s.heap.IsListIter i2 l2 k2) (hl1 : s.heap.IsList l1 xs) (hl2 : s.heap.IsList l2 ys) (hx : xs[k1]? = some x) (hy : ys[k2]? = some y)
    (hQ : ∀ h' v' f' a' b', ZipAt h' z TI TO v' f' → ZipV v' → IsPair h' TO a' b' → h'.IsListIter i1 l1 (k1 + 1) → h'.IsListIter i2 l2 (k2 + 1) → IsPair h' s.heap.objs.size x y → h'.objs.size = s.heap.objs.size + 1 →
      (∀ c o, c ≠ z → c ≠ TO → c ≠ i1 → c ≠ i2 → s.heap.get? c = some o → h'.get? c = some o) → Q (.ref s.heap.objs.size) { s with heap := h' }) :
    wpAny (model prog w) A (Builtin.«zip.__next__» ⟨[.ref z], []⟩) (fun fin s' => ∃ v, fin = .done (.ret v) ∧ Q v s') E s := by
  show wpAny _ _ (field (.ref z) 2 >>= _) _ _ _
  refine wpAny_bind (wpAny_field hz rfl (x := .bool false) rfl ?_)
  show wpAny _ _ (field (.ref z) 3 >>= _) _ _ _
  refine wpAny_bind (wpAny_field hz rfl (x := .ref TI) rfl ?_)
  refine wpAny_bind (wpAny_seqItems hTI rfl ?_)
  show wpAny _ _ (Builtin.SmallTypes.ownedTupleIsFree (.ref z) >>= _) _ _ _
  refine wpAny_bind (ez_free hz hv fun fr h₀ f₀ hz₀ hs₀ => ?_)
  cases fr with
  | false =>
    simp only [Bool.false_eq_true, if_false]
    refine wpAny_bind ?_
    rw [← Array.forIn_toList]
    simp only [List.forIn_cons, List.forIn_nil]
    refine wpAny_bind (wpAny_bind (wpAny_holding ?_))
    show wpAny _ _ (Builtin.SmallTypes.nextOf (.ref i1) >>= _) _ _ _
    refine wpAny_bind (wpAny_nextOf_list_item (s := { s with heap := h₀ }) (h1.extBut hs₀.extBut D.i1z) (hl1.extBut hs₀.extBut D.l1z) hx fun h₂ h1₂ hs₂ => wpAny_pure ?_)
    refine wpAny_pure ?_
    refine wpAny_bind (wpAny_bind (wpAny_holding ?_))
    show wpAny _ _ (Builtin.SmallTypes.nextOf (.ref i2) >>= _) _ _ _
    refine wpAny_bind (wpAny_nextOf_list_item (s := { s with heap := h₂ }) ((h2.extBut hs₀.extBut D.i2z).extBut hs₂.extBut D.i12.symm) ((hl2.extBut hs₀.extBut D.l2z).extBut hs₂.extBut D.l2i1) hy fun h₃ h2₃ hs₃ => wpAny_pure ?_)
    refine wpAny_pure (wpAny_pure ?_)
    show wpAny _ _ (newTuple [x, y] >>= _) _ _ _
    refine wpAny_bind (wpAny_newTuple ?_)
    have hsz : h₃.objs.size = s.heap.objs.size := by rw [hs₃.1, hs₂.1, hs₀.1]
    have hz₃ : ZipAt h₃ z TI TO v f₀ := hs₃.extBut _ _ D.i2z.symm (hs₂.extBut _ _ D.i1z.symm hz₀)
    have hTO₃ : IsPair h₃ TO a b := hs₃.extBut _ _ D.TOi2 (hs₂.extBut _ _ D.TOi1 (hs₀.extBut _ _ D.TOz hTO))
    have hk : ∀ c o, c ≠ z → c ≠ i1 → c ≠ i2 → s.heap.get? c = some o → h₃.get? c = some o := fun c o c1 c2 c3 e => hs₃.extBut _ _ c3 (hs₂.extBut _ _ c2 (hs₀.extBut _ _ c1 e))
    have h1₃ : h₃.IsListIter i1 l1 (k1 + 1) := h1₂.extBut hs₃.extBut D.i12
    refine wpAny_pure ⟨_, rfl, ?_⟩
    show Q (.ref h₃.objs.size) _
    have hp : IsPair (h₃.push { cls := .type "tuple", data := .seq #[x, y] }) h₃.objs.size x y := Heap.get?_push_size _ rfl
    have hz4 : (h₃.push { cls := .type "tuple", data := .seq #[x, y] }).objs.size = h₃.objs.size + 1 := Heap.size_push ..
    rw [hsz] at hp hz4 ⊢
    exact hQ _ v f₀ a b (Heap.get?_push_of_some _ hz₃) hv (Heap.get?_push_of_some _ hTO₃) (h1₃.at fun o e => Heap.get?_push_of_some _ e) (h2₃.at fun o e => Heap.get?_push_of_some _ e) hp hz4 fun c o c1 _ c2 c3 e => Heap.get?_push_of_some _ (hk c o c1 c2 c3 e)
  | true =>
    simp only [if_true]
    refine wpAny_bind (wpAny_rule ?_)
    refine wpAny_bind (wpAny_field hz₀ rfl (x := .ref TO) rfl ?_)
    refine wpAny_bind (wpAny_setField_rec hz₀ (by simp) fun h₁ hz₁ hs₁' => ?_)
    replace hz₁ : ZipAt h₁ z TI TO .ellipsis f₀ := hz₁
    have hs₁ : Heap.SameBut z s.heap h₁ := ⟨hs₁'.1.trans hs₀.1, fun b hb => (hs₁'.2 b hb).trans (hs₀.2 b hb)⟩
    refine wpAny_bind ?_
    simp only [List.zipIdx_cons, List.zipIdx_nil, List.forIn_cons, List.forIn_nil]
    refine wpAny_bind (wpAny_bind (wpAny_onRaise ?_))
    show wpAny _ _ (Builtin.SmallTypes.nextOf (.ref i1) >>= _) _ _ _
    refine wpAny_bind (wpAny_nextOf_list_item (h1.extBut hs₁.extBut D.i1z) (hl1.extBut hs₁.extBut D.l1z) hx fun h₂ h1₂ hs₂ => wpAny_pure ?_)
    have hTO₂ : IsPair h₂ TO a b := hs₂.extBut _ _ D.TOi1 (hs₁.extBut _ _ D.TOz hTO)
    refine wpAny_bind (wpAny_seqItems hTO₂ rfl ?_)
    refine wpAny_bind (wpAny_updateSeq_pair hTO₂ fun h₃ hTO₃ hs₃ => ?_)
    replace hTO₃ : IsPair h₃ TO x b := hTO₃
    refine wpAny_bind (wpAny_letGo (wpAny_pure ?_))
    refine wpAny_bind (wpAny_bind (wpAny_onRaise ?_))
    show wpAny _ _ (Builtin.SmallTypes.nextOf (.ref i2) >>= _) _ _ _
    refine wpAny_bind (wpAny_nextOf_list_item (((h2.extBut hs₁.extBut D.i2z).extBut hs₂.extBut D.i12.symm).extBut hs₃.extBut D.TOi2.symm)
      (((hl2.extBut hs₁.extBut D.l2z).extBut hs₂.extBut D.l2i1).extBut hs₃.extBut D.l2TO) hy fun h₄ h2₄ hs₄ => wpAny_pure ?_)
    have hTO₄ : IsPair h₄ TO x b := hs₄.extBut _ _ D.TOi2 hTO₃
    refine wpAny_bind (wpAny_seqItems hTO₄ rfl ?_)
    refine wpAny_bind (wpAny_updateSeq_pair hTO₄ fun h₅ hTO₅ hs₅ => ?_)
    replace hTO₅ : IsPair h₅ TO x y := hTO₅
    refine wpAny_bind (wpAny_letGo (wpAny_pure (wpAny_pure ?_)))
    refine wpAny_bind (wpAny_seqItems hTO₅ rfl ?_)
    refine wpAny_bind (wpAny_newTuple ?_)
    have hsz : h₅.objs.size = s.heap.objs.size := by rw [hs₅.1, hs₄.1, hs₃.1, hs₂.1, hs₁.1]
    have hz₅ : ZipAt h₅ z TI TO .ellipsis f₀ := hs₅.extBut _ _ D.TOz.symm (hs₄.extBut _ _ D.i2z.symm (hs₃.extBut _ _ D.TOz.symm (hs₂.extBut _ _ D.i1z.symm hz₁)))
    have hk₅ : ∀ c o, c ≠ z → c ≠ TO → c ≠ i1 → c ≠ i2 → s.heap.get? c = some o → h₅.get? c = some o := fun c o c1 c2 c3 c4 e =>
      hs₅.extBut _ _ c2 (hs₄.extBut _ _ c4 (hs₃.extBut _ _ c2 (hs₂.extBut _ _ c3 (hs₁.extBut _ _ c1 e))))
    have h1₅ : h₅.IsListIter i1 l1 (k1 + 1) := ((h1₂.extBut hs₃.extBut D.TOi1.symm).extBut hs₄.extBut D.i12).extBut hs₅.extBut D.TOi1.symm
    have h2₅ : h₅.IsListIter i2 l2 (k2 + 1) := h2₄.extBut hs₅.extBut D.TOi2.symm
    have hzlt : z < h₅.objs.size := Heap.lt_size hz₅
    show wpAny _ _ (Builtin.SmallTypes.ownedTupleHandOut (.ref z) (.ref h₅.objs.size) >>= _) _ _ _
    refine wpAny_bind ?_
    unfold Builtin.SmallTypes.ownedTupleHandOut
    have hz₆ : ZipAt (h₅.push { cls := .type "tuple", data := .seq #[x, y] }) z TI TO .ellipsis f₀ := Heap.get?_push_of_some _ hz₅
    refine wpAny_bind (wpAny_setField_rec hz₆ (by simp) fun h₇ hz₇ hs₇ => ?_)
    replace hz₇ : ZipAt h₇ z TI TO (rawInt h₅.objs.size) f₀ := hz₇
    refine wpAny_setField_rec hz₇ (by simp) fun h₈ hz₈ hs₈ => ?_
    replace hz₈ : ZipAt h₈ z TI TO (rawInt h₅.objs.size) false := hz₈
    have up : ∀ c o, c ≠ z → h₅.get? c = some o → h₈.get? c = some o := fun c o c1 e => hs₈.extBut _ _ c1 (hs₇.extBut _ _ c1 (Heap.get?_push_of_some _ e))
    have hT₈ : IsPair h₈ h₅.objs.size x y := hs₈.extBut _ _ (Nat.ne_of_gt hzlt) (hs₇.extBut _ _ (Nat.ne_of_gt hzlt) (Heap.get?_push_size _ rfl))
    have hz8 : h₈.objs.size = h₅.objs.size + 1 := by rw [hs₈.1, hs₇.1, Heap.size_push]
    rw [hsz] at hz₈ hT₈ hz8
    refine wpAny_pure ⟨_, rfl, ?_⟩
    show Q (.ref h₅.objs.size) _
    rw [hsz]
    exact hQ h₈ _ false x y hz₈ (.inr ⟨_, rfl⟩) (up _ _ D.TOz hTO₅) (h1₅.at fun o e => up _ o D.i1z e) (h2₅.at fun o e => up _ o D.i2z e) hT₈ hz8 fun c o c1 c2 c3 c4 e => up c o c1 (hk₅ c o c1 c2 c3 c4 e)
theorem ez_end {z TI TO i1 i2 l1 l2 : Addr} {k1 k2 : Nat} {xs ys : Array Value} {v a b : Value} {f : Bool} {Q : Fin → Shared → Prop} (hh : A.handled = none) (D : ZipApart z TI TO i1 i2 l1 l2)
    (hz : ZipAt s.heap z TI TO v f) (hv : ZipV v) (hTI : IsPair s.heap TI (.ref i1) (.ref i2)) (hTO : IsPair s.heap TO a b)
    (h1 : s.heap.IsListIter i1 l1 k1) (h2 : s.heap.IsListIter i2 l2 k2) (hl1 : s.heap.IsList l1 xs) (hl2 : s.heap.IsList l2 ys) (hend : xs[k1]? = none ∨ ys[k2]? = none)
    (hE : ∀ h' e, (∀ c o, c ≠ z → c ≠ TO → c ≠ i1 → c ≠ i2 → s.heap.get? c = some o → h'.get? c = some o) → (∃ o, h'.get? e = some o ∧ o.cls = .type "StopIteration") → E (.ref e) { s with heap := h' }) :
    wpAny (model prog w) A (Builtin.«zip.__next__» ⟨[.ref z], []⟩) Q E s := by
  show wpAny _ _ (field (.ref z) 2 >>= _) _ _ _
  refine wpAny_bind (wpAny_field hz rfl (x := .bool false) rfl ?_)
  show wpAny _ _ (field (.ref z) 3 >>= _) _ _ _
  refine wpAny_bind (wpAny_field hz rfl (x := .ref TI) rfl ?_)
  refine wpAny_bind (wpAny_seqItems hTI rfl ?_)
  show wpAny _ _ (Builtin.SmallTypes.ownedTupleIsFree (.ref z) >>= _) _ _ _
  refine wpAny_bind (ez_free hz hv fun fr h₀ f₀ hz₀ hs₀ => ?_)
  cases fr with
  | false =>
    simp only [Bool.false_eq_true, if_false]
    refine wpAny_bind ?_
    rw [← Array.forIn_toList]
    simp only [List.forIn_cons, List.forIn_nil]
    refine wpAny_bind (wpAny_bind (wpAny_holding ?_))
    show wpAny _ _ (Builtin.SmallTypes.nextOf (.ref i1) >>= _) _ _ _
    cases hx : xs[k1]? with
    | none =>
      refine wpAny_bind (wpAny_nextOf_list_end (s := { s with heap := h₀ }) hh (h1.extBut hs₀.extBut D.i1z) (hl1.extBut hs₀.extBut D.l1z) hx fun h₂ e hs₂ he => ?_)
      exact hE h₂ e (fun c o c1 _ c2 _ x => hs₂ _ _ c2 (hs₀.extBut _ _ c1 x)) he
    | some x =>
      have hy : ys[k2]? = none := by rcases hend with h | h; rw [hx] at h; cases h; exact h
      refine wpAny_bind (wpAny_nextOf_list_item (s := { s with heap := h₀ }) (h1.extBut hs₀.extBut D.i1z) (hl1.extBut hs₀.extBut D.l1z) hx fun h₂ h1₂ hs₂ => wpAny_pure ?_)
      refine wpAny_pure ?_
      refine wpAny_bind (wpAny_bind (wpAny_holding ?_))
      show wpAny _ _ (Builtin.SmallTypes.nextOf (.ref i2) >>= _) _ _ _
      refine wpAny_bind (wpAny_nextOf_list_end (s := { s with heap := h₂ }) hh ((h2.extBut hs₀.extBut D.i2z).extBut hs₂.extBut D.i12.symm) ((hl2.extBut hs₀.extBut D.l2z).extBut hs₂.extBut D.l2i1) hy fun h₃ e hs₃ he => ?_)
      exact hE h₃ e (fun c o c1 _ c2 c3 x => hs₃ _ _ c3 (hs₂.extBut _ _ c2 (hs₀.extBut _ _ c1 x))) he
  | true =>
    simp only [if_true]
    refine wpAny_bind (wpAny_rule ?_)
    refine wpAny_bind (wpAny_field hz₀ rfl (x := .ref TO) rfl ?_)
    refine wpAny_bind (wpAny_setField_rec hz₀ (by simp) fun h₁ hz₁ hs₁' => ?_)
    replace hz₁ : ZipAt h₁ z TI TO .ellipsis f₀ := hz₁
    have hs₁ : Heap.SameBut z s.heap h₁ := ⟨hs₁'.1.trans hs₀.1, fun b hb => (hs₁'.2 b hb).trans (hs₀.2 b hb)⟩
    refine wpAny_bind ?_
    simp only [List.zipIdx_cons, List.zipIdx_nil, List.forIn_cons, List.forIn_nil]
    refine wpAny_bind (wpAny_bind (wpAny_onRaise ?_))
    show wpAny _ _ (Builtin.SmallTypes.nextOf (.ref i1) >>= _) _ _ _
    cases hx : xs[k1]? with
    | none =>
      refine wpAny_bind (wpAny_nextOf_list_end hh (h1.extBut hs₁.extBut D.i1z) (hl1.extBut hs₁.extBut D.l1z) hx fun h₂ e hs₂ he => ?_)
      obtain ⟨oe, hoe, hce⟩ := he
      have hz₂ : ZipAt h₂ z TI TO .ellipsis f₀ := hs₂ _ _ D.i1z.symm hz₁
      have hez : e ≠ z := fun x => by subst x; rw [hz₂] at hoe; cases hoe; simp at hce
      refine wpAny_setField_rec hz₂ (by simp) fun h₃ _ hs₃ => hE h₃ e (fun c o c1 _ c3 _ x => hs₃.extBut _ _ c1 (hs₂ _ _ c3 (hs₁.extBut _ _ c1 x))) ⟨oe, hs₃.extBut _ _ hez hoe, hce⟩
    | some x =>
      have hy : ys[k2]? = none := by rcases hend with h | h; rw [hx] at h; cases h; exact h
      refine wpAny_bind (wpAny_nextOf_list_item (h1.extBut hs₁.extBut D.i1z) (hl1.extBut hs₁.extBut D.l1z) hx fun h₂ h1₂ hs₂ => wpAny_pure ?_)
      have hTO₂ : IsPair h₂ TO a b := hs₂.extBut _ _ D.TOi1 (hs₁.extBut _ _ D.TOz hTO)
      refine wpAny_bind (wpAny_seqItems hTO₂ rfl ?_)
      refine wpAny_bind (wpAny_updateSeq_pair hTO₂ fun h₃ hTO₃ hs₃ => ?_)
      refine wpAny_bind (wpAny_letGo (wpAny_pure ?_))
      refine wpAny_bind (wpAny_bind (wpAny_onRaise ?_))
      show wpAny _ _ (Builtin.SmallTypes.nextOf (.ref i2) >>= _) _ _ _
      refine wpAny_bind (wpAny_nextOf_list_end hh (((h2.extBut hs₁.extBut D.i2z).extBut hs₂.extBut D.i12.symm).extBut hs₃.extBut D.TOi2.symm)
        (((hl2.extBut hs₁.extBut D.l2z).extBut hs₂.extBut D.l2i1).extBut hs₃.extBut D.l2TO) hy fun h₄ e hs₄ he => ?_)
      obtain ⟨oe, hoe, hce⟩ := he
      have hz₄ : ZipAt h₄ z TI TO .ellipsis f₀ := hs₄ _ _ D.i2z.symm (hs₃.extBut _ _ D.TOz.symm (hs₂.extBut _ _ D.i1z.symm hz₁))
      have hez : e ≠ z := fun x => by subst x; rw [hz₄] at hoe; cases hoe; simp at hce
      refine wpAny_setField_rec hz₄ (by simp) fun h₅ _ hs₅ => hE h₅ e (fun c o c1 c2 c3 c4 x => hs₅.extBut _ _ c1 (hs₄ _ _ c4 (hs₃.extBut _ _ c2 (hs₂.extBut _ _ c3 (hs₁.extBut _ _ c1 x))))) ⟨oe, hs₅.extBut _ _ hez hoe, hce⟩
theorem ez_nextOf_item {z TI TO i1 i2 l1 l2 : Addr} {k1 k2 : Nat} {xs ys : Array Value} {v x y a b : Value} {f : Bool} {Q : Value → Shared → Prop} (D : ZipApart z TI TO i1 i2 l1 l2)
    (hz : ZipAt s.heap z TI TO v f) (hv : ZipV v) (hTI : IsPair s.heap TI (.ref i1) (.ref i2)) (hTO : IsPair s.heap TO a b)
    (h1 : s.heap.IsListIter i1 l1 k1) (h2 : s.heap.IsListIter i2 l2 k2) (hl1 : s.heap.IsList l1 xs) (hl2 : s.heap.IsList l2 ys) (hx : xs[k1]? = some x) (hy : ys[k2]? = some y)
    (hQ : ∀ h' v' f' a' b', ZipAt h' z TI TO v' f' → ZipV v' → IsPair h' TO a' b' → h'.IsListIter i1 l1 (k1 + 1) → h'.IsListIter i2 l2 (k2 + 1) → IsPair h' s.heap.objs.size x y → h'.objs.size = s.heap.objs.size + 1 →
      (∀ c o, c ≠ z → c ≠ TO → c ≠ i1 → c ≠ i2 → s.heap.get? c = some o → h'.get? c = some o) → Q (.ref s.heap.objs.size) { s with heap := h' }) :
    wpAny (model prog w) A (Builtin.SmallTypes.nextOf (.ref z)) Q E s := by
  have hT : s.TypeIs (.ref z) "zip" := ⟨_, hz, rfl⟩
  unfold Builtin.SmallTypes.nextOf
  exact wpAny_bind (wpAny_callSpecial?_slot (name := Str.ofString "__next__") hT F.slot_zip_next
    (wpAny_call_entry F.slot_zip_next hT F.entry_zip_next (ez_item D hz hv hTI hTO h1 h2 hl1 hl2 hx hy fun h' v' f' a' b' q1 q2 q3 q4 q5 q6 q7 q8 => wpAny_pure (hQ h' v' f' a' b' q1 q2 q3 q4 q5 q6 q7 q8)) (F.args_zip_next_1 _)))
theorem ez_nextOf_end {z TI TO i1 i2 l1 l2 : Addr} {k1 k2 : Nat} {xs ys : Array Value} {v a b : Value} {f : Bool} {Q : Value → Shared → Prop} (hh : A.handled = none) (D : ZipApart z TI TO i1 i2 l1 l2)
    (hz : ZipAt s.heap z TI TO v f) (hv : ZipV v) (hTI : IsPair s.heap TI (.ref i1) (.ref i2)) (hTO : IsPair s.heap TO a b)
    (h1 : s.heap.IsListIter i1 l1 k1) (h2 : s.heap.IsListIter i2 l2 k2) (hl1 : s.heap.IsList l1 xs) (hl2 : s.heap.IsList l2 ys) (hend : xs[k1]? = none ∨ ys[k2]? = none)
    (hE : ∀ h' e, (∀ c o, c ≠ z → c ≠ TO → c ≠ i1 → c ≠ i2 → s.heap.get? c = some o → h'.get? c = some o) → (∃ o, h'.get? e = some o ∧ o.cls = .type "StopIteration") → E (.ref e) { s with heap := h' }) :
    wpAny (model prog w) A (Builtin.SmallTypes.nextOf (.ref z)) Q E s := by
  have hT : s.TypeIs (.ref z) "zip" := ⟨_, hz, rfl⟩
  unfold Builtin.SmallTypes.nextOf
  exact wpAny_bind (wpAny_callSpecial?_slot (name := Str.ofString "__next__") hT F.slot_zip_next
    (wpAny_call_entry F.slot_zip_next hT F.entry_zip_next (ez_end (show A.in1.handled = none from hh) D hz hv hTI hTO h1 h2 hl1 hl2 hend hE) (F.args_zip_next_1 _)))
/-- one step of an enumerate, whatever is drawn from within -/
theorem ez_enum {e it : Addr} {i : Nat} {old : Value} {Q : Value → Shared → Prop} {D : Value → Heap → Prop} (he : IsEnum s.heap e it i old)
    (draw : ∀ Q' : Value → Shared → Prop, (∀ x h1, D x h1 → Q' x { s with heap := h1 }) → wpAny (model prog w) A (Builtin.SmallTypes.nextOf (.ref it)) Q' E s)
    (keepE : ∀ x h1, D x h1 → IsEnum h1 e it i old)
    (hQ : ∀ x h1 h' tk, D x h1 → IsEnumOut h' e it ((i : Int) + 1) x h1.objs.size → h'.get? h1.objs.size = some { cls := .type "tuple", data := .seq #[.int i tk, x] } → h'.objs.size = h1.objs.size + 1 →
      (∀ b o, b ≠ e → h1.get? b = some o → h'.get? b = some o) → Q (.ref h1.objs.size) { s with heap := h', toks := tk + 1 }) :
    wpAny (model prog w) A (Builtin.«enumerate.__next__» ⟨[.ref e], []⟩) (fun fin s' => ∃ v, fin = .done (.ret v) ∧ Q v s') E s := by
  obtain ⟨hp, g, d, tk, os⟩ := s
  show wpAny _ _ (field (.ref e) 2 >>= _) _ _ _
  refine wpAny_bind (wpAny_field he rfl (x := .ref it) rfl ?_)
  refine wpAny_bind (draw _ fun x h₁ hD => ?_)
  have he₁ : IsEnum h₁ e it i old := keepE x h₁ hD
  show wpAny _ _ (field (.ref e) 3 >>= _) _ _ ⟨h₁, g, d, tk, os⟩
  refine wpAny_bind (wpAny_field he₁ rfl (x := rawInt i) rfl ?_)
  show wpAny _ _ (field (.ref e) 4 >>= _) _ _ ⟨h₁, g, d, tk, os⟩
  refine wpAny_bind (wpAny_field he₁ rfl (x := .none) rfl ?_)
  show wpAny _ _ (mkInt i >>= _) _ _ ⟨h₁, g, d, tk, os⟩
  refine wpAny_bind (wpAny_mkInt ?_)
  show wpAny _ _ (setField (.ref e) 3 (rawInt ((i : Int) + 1)) >>= _) _ _ ⟨h₁, g, d, tk + 1, os⟩
  refine wpAny_bind (wpAny_setField_rec he₁ (by simp) fun h₂ he₂ hs₂ => ?_)
  replace hs₂ : Heap.SameBut e h₁ h₂ := hs₂
  replace he₂ : IsEnum h₂ e it ((i : Int) + 1) old := he₂
  show wpAny _ _ (setField (.ref e) 4 .none >>= _) _ _ ⟨h₂, g, d, tk + 1, os⟩
  refine wpAny_bind (wpAny_setField_rec he₂ (by simp) fun h₃ he₃ hs₃ => ?_)
  replace hs₃ : Heap.SameBut e h₂ h₃ := hs₃
  replace he₃ : IsEnum h₃ e it ((i : Int) + 1) old := he₃
  show wpAny _ _ (newTuple [.int i tk, x] >>= _) _ _ ⟨h₃, g, d, tk + 1, os⟩
  refine wpAny_bind (wpAny_newTuple ?_)
  have he₄ : IsEnum (h₃.push { cls := .type "tuple", data := .seq #[.int i tk, x] }) e it ((i : Int) + 1) old := Heap.get?_push_of_some _ he₃
  generalize hh₄ : h₃.push { cls := .type "tuple", data := .seq #[.int i tk, x] } = h₄ at he₄
  have hsz : h₃.objs.size = h₁.objs.size := by rw [hs₃.1, hs₂.1]
  have hel : e < h₁.objs.size := Heap.lt_size he₁
  have ht₄ : h₄.get? h₁.objs.size = some { cls := .type "tuple", data := .seq #[.int i tk, x] } := by rw [← hh₄, ← hsz]; exact Heap.get?_push_size _ rfl
  have hz₄ : h₄.objs.size = h₁.objs.size + 1 := by rw [← hh₄, Heap.size_push, hsz]
  have hk₄ : ∀ b o, b ≠ e → h₁.get? b = some o → h₄.get? b = some o := fun b o hbe hb => by
    rw [← hh₄]; exact Heap.get?_push_of_some _ (hs₃.extBut b o hbe (hs₂.extBut b o hbe hb))
  show wpAny _ _ (Builtin.SmallTypes.ownedTupleIsFree (.ref e) >>= _) _ _ ⟨h₄, g, d, tk + 1, os⟩
  rw [hsz]
  clear hh₄ he₃ hs₃ he₂ hs₂ hsz h₃ h₂
  refine wpAny_bind ?_
  unfold Builtin.SmallTypes.ownedTupleIsFree
  refine wpAny_bind (wpAny_field he₄ rfl (x := .none) rfl (wpAny_pure ?_))
  simp only [if_true]
  refine wpAny_bind (wpAny_rule ?_)
  refine wpAny_bind (wpAny_field he₄ rfl (x := old) rfl ?_)
  refine wpAny_bind (wpAny_setField_rec he₄ (by simp) fun h₅ he₅ hs₅ => ?_)
  replace hs₅ : Heap.SameBut e h₄ h₅ := hs₅
  replace he₅ : IsEnum h₅ e it ((i : Int) + 1) x := he₅
  show wpAny _ _ (Builtin.SmallTypes.ownedTupleHandOut (.ref e) (.ref h₁.objs.size) >>= _) _ _ ⟨h₅, g, d, tk + 1, os⟩
  refine wpAny_bind ?_
  unfold Builtin.SmallTypes.ownedTupleHandOut
  refine wpAny_bind (wpAny_setField_rec he₅ (by simp) fun h₆ he₆ hs₆ => ?_)
  replace hs₆ : Heap.SameBut e h₅ h₆ := hs₆
  replace he₆ : IsEnumOut h₆ e it ((i : Int) + 1) x h₁.objs.size := he₆
  refine wpAny_setField_rec he₆ (by simp) fun h₇ he₇ hs₇ => ?_
  replace hs₇ : Heap.SameBut e h₆ h₇ := hs₇
  replace he₇ : IsEnumOut h₇ e it ((i : Int) + 1) x h₁.objs.size := he₇
  refine wpAny_bind (wpAny_letGo (wpAny_pure ⟨_, rfl, hQ x h₁ h₇ tk hD he₇ ?_ ?_ ?_⟩))
  · exact hs₇.extBut _ _ (Nat.ne_of_gt hel) (hs₆.extBut _ _ (Nat.ne_of_gt hel) (hs₅.extBut _ _ (Nat.ne_of_gt hel) ht₄))
  · rw [hs₇.1, hs₆.1, hs₅.1, hz₄]
  · exact fun b o hbe hb => hs₇.extBut b o hbe (hs₆.extBut b o hbe (hs₅.extBut b o hbe (hk₄ b o hbe hb)))
end
set_option maxHeartbeats 1000000 in
theorem ez_new {z TI TO : Addr} : Meets (Builtin.«enumerate.__new__» ⟨[.type "enumerate", .ref z], []⟩) (fun _ R s => ZipAt s.heap z TI TO .none false ∧
      R (.ok (.ret (.ref s.heap.objs.size))) { s with heap := s.heap.push { cls := .type "enumerate", data := .fields #[.none, .bool false, .ref z, rawInt 0, .none, .none] } }) :=
  .of_wp fun prog w A R s h => by
    obtain ⟨hp, g, d, tk, os⟩ := s; obtain ⟨h1, h⟩ := h
    have hsub := sub_enumerate
    have q1 : ∀ {A' : Around} {E : Value → Shared → Prop} {Q : Value → Shared → Prop}, Q (.ref z) ⟨hp, g, d, tk, os⟩ → wpAny (model prog w) A' (pyIter (.ref z)) Q E ⟨hp, g, d, tk, os⟩ :=
      fun q => wpAny_pyIter_zip (s := ⟨hp, g, d, tk, os⟩) h1 q
    wp_walk using q1
    refine wpAny_stack_any fun st => wpAny_pure ?_
    split
    · rename_i c _ _ _ _ _
      cases (c == Value.type "enumerate")
      · wp_walk using q1
        exact ⟨_, rfl, h⟩
      · wp_walk using q1
        exact ⟨_, rfl, h⟩
    · wp_walk using q1
      exact ⟨_, rfl, h⟩
section
variable {prog : Program} {w : World} {A : Around} {E : Value → Shared → Prop} {s : Shared}
theorem ez_begins {z TI TO : Addr} {Q : Value → Shared → Prop} (h1 : ZipAt s.heap z TI TO .none false)
    (h : ∀ h', IsEnum h' s.heap.objs.size z 0 .none → h'.objs.size = s.heap.objs.size + 1 →
      (∀ b o, s.heap.get? b = some o → h'.get? b = some o) → Q (.ref s.heap.objs.size) { s with heap := h' }) :
    wpAny (model prog w) A (call (.type "enumerate") [.ref z]) Q E s := by
  refine callType_new F.called_enumerate (by decide) (F.typeCall_enumerate_1 _) (F.newCall_enumerate_1 _) (fun obj => F.args_object_init_2 obj _) F.entry_enumerate_new
    ez_new ⟨h1, ?_⟩
  have he : IsEnum (s.heap.push { cls := .type "enumerate", data := .fields #[.none, .bool false, .ref z, rawInt 0, .none, .none] }) s.heap.objs.size z 0 .none := Heap.get?_push_size _ rfl
  exact ⟨⟨_, he, rfl⟩, h _ he (Heap.size_push ..) fun b o x => Heap.get?_push_of_some _ x⟩
end
end PySem

namespace TL
open PySem PySem.Spec PyProof.Rows L2 RZ
/-- the lists at a and b as they stand at each turn, the items in a new pair, that in a new pair with its number -/
def Itez (K : PySem.W.Frag) (a b : Addr) : It :=
  ⟨fun i H => ∃ (xs ys : List V) (x y : V), SqL K H a xs ∧ SqL K H b ys ∧ xs[i]? = some x ∧ ys[i]? = some y,
    fun i H v H' => ∃ T1 T2 x y, v = .ref T2 ∧ H T1 = none ∧ H T2 = none ∧ T2 ≠ T1 ∧ H' = upd (upd H T1 (.tup [x, y])) T2 (.tup [.int (i : Nat), .ref T1]) ∧ (∀ xs, SqL K H a xs → xs[i]? = some x) ∧ ∀ ys, SqL K H b ys → ys[i]? = some y,
    fun i H => ∃ xs ys : List V, SqL K H a xs ∧ SqL K H b ys ∧ (xs.length ≤ i ∨ ys.length ≤ i)⟩
theorem turn_enumZ {P : Program} {w : World} {K : PySem.W.Frag} {elts : List Expr} {kk : Nat} {tpos : Pos} {a b e z TI TO i1 i2 : Addr} (D : ZipApart z TI TO i1 i2 a b)
    (ez : e ≠ z) (eTI : e ≠ TI) (eTO : e ≠ TO) (e1 : e ≠ i1) (e2 : e ≠ i2) :
    Turn P w K (.Tuple elts kk tpos) (Itez K a b) [e, z, TI, TO, i1, i2] e (fun i h => (∃ old, IsEnum h e z ((i : Nat) : Int) old) ∧ (∃ v f, ZipAt h z TI TO v f ∧ ZipV v) ∧ IsPair h TI (.ref i1) (.ref i2) ∧ (∃ x y, IsPair h TO x y) ∧ h.IsListIter i1 a i ∧ h.IsListIter i2 b i) where
  mem := by simp
  obj := fun i h st c hc => by
    obtain ⟨⟨old, he⟩, ⟨v, f, hz, _⟩, hTI, ⟨x, y, hTO⟩, ⟨o1, e1, _, d1⟩, ⟨o2, e2, _, d2⟩⟩ := st
    have e' : c = e ∨ c = z ∨ c = TI ∨ c = TO ∨ c = i1 ∨ c = i2 := by simpa using hc
    rcases e' with q | q | q | q | q | q
    · rw [q]; exact ⟨_, he, fun v q => nomatch q⟩
    · rw [q]; exact ⟨_, hz, fun v q => nomatch q⟩
    · rw [q]; exact ⟨_, hTI, fun v q => nomatch q⟩
    · rw [q]; exact ⟨_, hTO, fun v q => nomatch q⟩
    · rw [q]; exact ⟨o1, e1, fun v q => by rw [d1] at q; cases q⟩
    · rw [q]; exact ⟨o2, e2, fun v q => by rw [d2] at q; cases q⟩
  keep := fun i h h' st k => by
    obtain ⟨⟨old, he⟩, ⟨v, f, hz, hv⟩, hTI, ⟨x, y, hTO⟩, h1, h2⟩ := st
    exact ⟨⟨old, k e (by simp) _ he⟩, ⟨v, f, k z (by simp) _ hz, hv⟩, k TI (by simp) _ hTI, ⟨x, y, k TO (by simp) _ hTO⟩, h1.at fun o q => k i1 (by simp) o q, h2.at fun o q => k i2 (by simp) o q⟩
  item := by
    intro X hP hw hK hc i pins s σ H E I hf st hg
    subst hP hw hK
    obtain ⟨⟨old, he⟩, ⟨v, f, hz, hv⟩, hTI, ⟨x0, y0, hTO⟩, h1, h2⟩ := st
    obtain ⟨xs, ys, x, y, hqx, hqy, hx, hy⟩ := hg
    obtain ⟨its, rv, p, _⟩ := I.list hqx
    obtain ⟨its2, rv2, p2, _⟩ := I.list hqy
    obtain ⟨u, hu, ru⟩ := rv.get hx
    obtain ⟨u2, hu2, ru2⟩ := rv2.get hy
    have lt : ∀ c ∈ [e, z, TI, TO, i1, i2], c < s.heap.objs.size := fun c hcm => by
      have e' : c = e ∨ c = z ∨ c = TI ∨ c = TO ∨ c = i1 ∨ c = i2 := by simpa using hcm
      rcases e' with q | q | q | q | q | q
      · rw [q]; exact Heap.lt_size he
      · rw [q]; exact Heap.lt_size hz
      · rw [q]; exact Heap.lt_size hTI
      · rw [q]; exact Heap.lt_size hTO
      · rw [q]; obtain ⟨_, e1, _⟩ := h1; exact Heap.lt_size e1
      · rw [q]; obtain ⟨_, e2, _⟩ := h2; exact Heap.lt_size e2
    have hel : e < s.heap.objs.size := lt e (by simp)
    have hT : s.TypeIs (.ref e) "enumerate" := ⟨_, he, rfl⟩
    unfold pyNext
    refine wpAny_bind (wpAny_attempt (wpAny_callSpecial?_slot (name := Str.ofString "__next__") hT F.slot_enumerate_next
      (wpAny_call_entry F.slot_enumerate_next hT F.entry_enumerate_next
        (ez_enum (D := fun r h1' => r = .ref s.heap.objs.size ∧ (∃ v f, ZipAt h1' z TI TO v f ∧ ZipV v) ∧ (∃ x y, IsPair h1' TO x y) ∧ h1'.IsListIter i1 a (i + 1) ∧ h1'.IsListIter i2 b (i + 1) ∧ IsPair h1' s.heap.objs.size u u2 ∧ h1'.objs.size = s.heap.objs.size + 1 ∧
            ∀ c o, c ≠ z → c ≠ TO → c ≠ i1 → c ≠ i2 → s.heap.get? c = some o → h1'.get? c = some o) he
          (fun Q' k => ez_nextOf_item D hz hv hTI hTO h1 h2 p.isList p2.isList (x := u) (y := u2) (by simpa using hu) (by simpa using hu2) fun h' v' f' a' b' q1 q2 q3 q4 q5 q6 q7 q8 => k _ h' ⟨rfl, ⟨v', f', q1, q2⟩, ⟨a', b', q3⟩, q4, q5, q6, q7, q8⟩)
          (fun r h1' ⟨_, _, _, _, _, _, _, fr⟩ => fr e _ ez eTO e1 e2 he)
          (fun r h1' h' tk hD ho hT2 hsz hk => wpAny_pure ?_)) (F.args_enumerate_next_1 _))))
    obtain ⟨rfl, ⟨v', f', z', hv'⟩, ⟨a', b', TO'⟩, n1, n2, hT1, sz1, fr⟩ := hD
    refine ⟨_, rfl, wpAny_letOwnedTupleGo_enum (s := { s with heap := h', toks := tk + 1 }) ho fun h'' he' sb => ?_⟩
    have new : ObjOk X.prog X.w (upd H s.heap.objs.size (.tup [x, y])) h1' s.heap.objs.size (.tup [x, y]) :=
      ⟨by show 2 ≤ sizeLine; decide, [u, u2], .cons ru (.cons ru2 .nil), ⟨_, hT1, rfl, _, rfl⟩⟩
    have I1 : Inv X pins σ (upd H s.heap.objs.size (.tup [x, y])) { s with heap := h1', toks := s.toks } :=
      I.turnedNew (ch := [e, z, TI, TO, i1, i2]) (fun c o hb q => fr c o (fun q' => hb (by simp [q'])) (fun q' => hb (by simp [q'])) (fun q' => hb (by simp [q'])) (fun q' => hb (by simp [q'])) q) hf (Nat.le_refl _) new
    have up : ∀ c o, c ≠ e → h1'.get? c = some o → h''.get? c = some o := fun c o hce q => (sb.2 c hce).trans (hk c o hce q)
    have hel1 : e < h1'.objs.size := by rw [sz1]; exact Nat.lt_succ_of_lt hel
    have gT2 : h''.get? h1'.objs.size = some { cls := .type "tuple", data := .seq #[.int i tk, .ref s.heap.objs.size] } := (sb.2 _ (Nat.ne_of_gt hel1)).trans hT2
    have new2 : ObjOk X.prog X.w (upd (upd H s.heap.objs.size (.tup [x, y])) h1'.objs.size (.tup [.int (i : Nat), .ref s.heap.objs.size])) h'' h1'.objs.size (.tup [.int (i : Nat), .ref s.heap.objs.size]) :=
      ⟨by show 2 ≤ sizeLine; decide, [.int i tk, .ref s.heap.objs.size], .cons ⟨_, rfl⟩ (.cons rfl .nil), ⟨_, gT2, rfl, _, rfl⟩⟩
    have hf1 : ∀ c ∈ [e, z, TI, TO, i1, i2], FpOk X pins (upd H s.heap.objs.size (.tup [x, y])) c := fun c hc => ⟨(upd_ne (Nat.ne_of_lt (lt c hc))).trans (hf c hc).1, (hf c hc).2⟩
    have I2 : Inv X pins σ (upd (upd H s.heap.objs.size (.tup [x, y])) h1'.objs.size (.tup [.int (i : Nat), .ref s.heap.objs.size])) { s with heap := h'', toks := tk + 1 } :=
      I1.turnedNew (ch := [e, z, TI, TO, i1, i2]) (fun c o hb q => up c o (fun q' => hb (by simp [q'])) q) hf1 (Nat.le_refl _) new2
    refine ⟨.ref h1'.objs.size, _, I2, rfl, ⟨s.heap.objs.size, h1'.objs.size, x, y, rfl, I.hok.fresh (Nat.le_refl _), I.hok.fresh (by rw [sz1]; exact Nat.le_succ _), Nat.ne_of_gt (by rw [sz1]; exact Nat.lt_succ_self _), rfl, fun l hl => by rw [I.list_inj hl hqx]; exact hx, fun l hl => by rw [I.list_inj hl hqy]; exact hy⟩,
      ⟨⟨.ref s.heap.objs.size, ?_⟩, ⟨v', f', up _ _ (Ne.symm ez) z', hv'⟩, up _ _ (Ne.symm eTI) (fr _ _ D.TIz D.TITO D.TIi1 D.TIi2 hTI), ⟨a', b', up _ _ (Ne.symm eTO) TO'⟩, n1.at fun o q => up _ o (Ne.symm e1) q, n2.at fun o q => up _ o (Ne.symm e2) q⟩, fun c hcm => ?_⟩
    · have ec : ((i + 1 : Nat) : Int) = (i : Int) + 1 := by omega
      rw [ec]; exact he'
    · have hlt := lt c hcm
      rw [upd_ne (show c ≠ h1'.objs.size from Nat.ne_of_lt (by rw [sz1]; exact Nat.lt_succ_of_lt hlt)), upd_ne (Nat.ne_of_lt hlt)]
      exact (hf c hcm).1
  done := by
    intro X hP hw hK hc i pins s σ H E I hf st hg
    subst hP hw hK
    obtain ⟨⟨old, he⟩, ⟨v, f, hz, hv⟩, hTI, ⟨x0, y0, hTO⟩, h1, h2⟩ := st
    obtain ⟨xs, ys, hqx, hqy, hend⟩ := hg
    obtain ⟨its, rv, p, _⟩ := I.list hqx
    obtain ⟨its2, rv2, p2, _⟩ := I.list hqy
    have l1 := rv.length
    have l2 := rv2.length
    have hx : its.toArray[i]? = none ∨ its2.toArray[i]? = none := by
      rcases hend with q | q
      · exact .inl (by simp; omega)
      · exact .inr (by simp; omega)
    have hT : s.TypeIs (.ref e) "enumerate" := ⟨_, he, rfl⟩
    have hd1 : X.A.in1.handled = none := I.ok.hd hc
    unfold pyNext
    refine wpAny_bind (wpAny_attempt (wpAny_callSpecial?_slot (name := Str.ofString "__next__") hT F.slot_enumerate_next
      (wpAny_call_entry F.slot_enumerate_next hT F.entry_enumerate_next ?_ (F.args_enumerate_next_1 _))))
    show wpAny _ _ (field (.ref e) 2 >>= _) _ _ _
    refine wpAny_bind (wpAny_field he rfl (x := .ref z) rfl ?_)
    refine wpAny_bind (ez_nextOf_end hd1 D hz hv hTI hTO h1 h2 p.isList p2.isList hx fun h' x' hk hx' => ?_)
    obtain ⟨o, ho, hc'⟩ := hx'
    refine wpAny_bind (wpAny_isInstance (T := "StopIteration") (b := true) ⟨o, ho, hc'⟩ isSubtype_stop ?_)
    exact wpAny_pure ⟨rfl, I.turnedL (t' := s.toks) (ch := [e, z, TI, TO, i1, i2]) (fun c o hb q => hk c o (fun q' => hb (by simp [q'])) (fun q' => hb (by simp [q'])) (fun q' => hb (by simp [q'])) (fun q' => hb (by simp [q'])) q) hf⟩
  self := fun A i s Q E st h => let ⟨⟨_, he⟩, _⟩ := st; wpAny_pyIter_enum he h
/-- enumerate(zip(a, b)) -/
def iEnumZ (K : PySem.W.Frag) (ta : TA) : TI := fun σ H R => ta σ H fun vs H1 => ∃ a b xs ys, vs = [.ref a, .ref b] ∧ SqL K H1 a xs ∧ SqL K H1 b ys ∧ R (Itez K a b) H1
theorem pi_enumZ {X : Cx} {e e2 : Expr} {ta : TA} {p p2 q pos tpos : Pos} {elts : List Expr} {kk : Nat} (hg : Gl X "enumerate") (hm : X.mg "enumerate" = none) (hg2 : Gl X "zip") (hm2 : X.mg "zip" = none) (ha : PA X [e, e2] ta)
    (hs : starEach [e, e2] X.env = (false, eval e X.env) :: starEach [e2] X.env := by rfl) (hpl : (backTo q (starEach [e2] X.env)).any (·.1) = false := by rfl)
    (na : starEach [.Call (.Name "zip" p2) [e, e2] [] q] X.env = (false, eval (.Call (.Name "zip" p2) [e, e2] [] q) X.env) :: starEach [] X.env := by rfl) :
    PI X (.Tuple elts kk tpos) (.Call (.Name "enumerate" p) [.Call (.Name "zip" p2) [e, e2] [] q] [] pos) (iEnumZ X.K ta) := by
  refine ⟨fun pins s σ H R I h => ?_⟩
  refine Call_ (ld_blt I hg hm boot_enumerate ?_)
  refine PyProof.Rows.callWith_type1 (PyProof.Rows.args_cons ?_ na) na rfl
  refine Call_ (ld_blt I hg2 hm2 PyProof.Rows.boot_zip (PyProof.Rows.callWith_type1 (thn (ha.run q pins s σ H _ I h) fun us s1 ⟨vs, H1, I1, r1, q1⟩ => ?_) hs hpl))
  obtain ⟨a, b, xs, ys, ex, hqx, hqy, q1⟩ := q1
  subst ex
  cases r1 with
  | cons r rr =>
    cases rr with
    | cons r' rr =>
      cases rr
      cases r
      cases r'
      obtain ⟨its, rv, p1, _⟩ := I1.list hqx
      obtain ⟨its2, rv2, p2, _⟩ := I1.list hqy
      refine call_zip_2 p1.isList p2.isList fun h' hz hTI hTO h1 h2 hsz hk => PyProof.Rows.args_nil ?_
      refine ez_begins (s := { s1 with heap := h' }) hz fun h'' he hsz2 hk2 => wpAny_pyIter_enum he ?_
      have I2 : Inv X pins σ H1 { s1 with heap := h'' } := I1.kept (t' := s1.toks) fun c o q => hk2 c o (hk c o q)
      have hsz : h'.objs.size = s1.heap.objs.size + 5 := hsz
      have L : ∀ k : Nat, k < 5 → h'.objs.size ≠ s1.heap.objs.size + k := fun k hk => Nat.ne_of_gt (by rw [hsz]; exact Nat.add_lt_add_left hk _)
      refine ⟨h'.objs.size, [h'.objs.size, s1.heap.objs.size + 4, s1.heap.objs.size + 2, s1.heap.objs.size + 3, s1.heap.objs.size, s1.heap.objs.size + 1], _, _, H1, rfl, I2,
        turn_enumZ (PySem.W.ktu_apart s1.heap.objs.size a b p1.lt p2.lt) (L 4 (by decide)) (L 2 (by decide)) (L 3 (by decide)) (L 0 (by decide)) (L 1 (by decide)),
        ⟨⟨.none, he⟩, ⟨.none, false, hk2 _ _ hz, .inl rfl⟩, hk2 _ _ hTI, ⟨_, _, hk2 _ _ hTO⟩, h1.at fun o q => hk2 _ o q, h2.at fun o q => hk2 _ o q⟩, fun c hcm => ?_, q1⟩
      have hle : s1.heap.objs.size ≤ c := by
        have e' : c = h'.objs.size ∨ c = s1.heap.objs.size + 4 ∨ c = s1.heap.objs.size + 2 ∨ c = s1.heap.objs.size + 3 ∨ c = s1.heap.objs.size ∨ c = s1.heap.objs.size + 1 := by simpa using hcm
        rcases e' with z | z | z | z | z | z
        · rw [z, hsz]; exact Nat.le_add_right _ _
        · rw [z]; exact Nat.le_add_right _ _
        · rw [z]; exact Nat.le_add_right _ _
        · rw [z]; exact Nat.le_add_right _ _
        · rw [z]; exact Nat.le_refl _
        · rw [z]; exact Nat.le_add_right _ _
      exact I1.fpOk hle (I1.hok.fresh hle)
section
variable {X : Cx} {W : WX} {σ : L2.St} {S S' : AS} {H H' : Hp} {e e2 : Expr} {pos p p2 q : Pos} {wr : WAr}
theorem itez_rel {a b : Addr} {xs ys : List T} {P : AH → Prop} {S0 : AS} {H0 : Hp} (hs : ∀ S' h' H', Ext S0 H0 S' H' → HRel X.K X.mg S' h' H' → P h' → ∃ us vs, SqL X.K H' a us ∧ RelTs X.K S' xs us ∧ SqL X.K H' b vs ∧ RelTs X.K S' ys vs) : ItRel X (Itez X.K a b) (numT (zipT xs ys)) P S0 H0 := fun i S' h' H' e r hP => by
  obtain ⟨us, vs, q, rs, q2, rs2⟩ := hs S' h' H' e r hP
  refine ⟨fun t ht => ?_, fun hl => ⟨us, vs, q, q2, by rw [numT_len, zipT_len] at hl; rw [← rs.length, ← rs2.length]; omega⟩⟩
  obtain ⟨t1, ht1, rfl⟩ := numT_at ht
  obtain ⟨x, y, hx, hy, rfl⟩ := zipT_at ht1
  obtain ⟨u, hu, ru⟩ := rs.get hx
  obtain ⟨u2, hu2, ru2⟩ := rs2.get hy
  refine ⟨⟨us, vs, u, u2, q, q2, hu, hu2⟩, fun v H'' ⟨T1, T2, y1, y2, ev, hT1, hT2, ne, eH, h1, h2⟩ => ?_⟩
  have e1 := h1 us q
  rw [hu] at e1; cases e1
  have e2 := h2 vs q2
  rw [hu2] at e2; cases e2
  subst ev eH
  obtain ⟨S1, E1, R1, r1⟩ := pair_new2 r hT1 ru ru2
  have hT2' : upd H' T1 (.tup [u, u2]) T2 = none := by rw [upd_ne ne]; exact hT2
  obtain ⟨S2, E2, R2, r2⟩ := pair_new R1 hT2' r1 (i := i)
  exact ⟨S2, E1.trans E2, R2, r2⟩
/-- what enumerate over zip of two lists goes through -/
def wEnumZ (wr : WAr) : WIt := fun ρ h R RX => wr ρ h (fun ts h1 => ∃ x y xs ys, ts = [x, y] ∧
  asL h1 x = some xs ∧ asL h1 y = some ys ∧ R (numT (zipT xs ys)) (fun h' => asL h' x = some xs ∧ asL h' y = some ys) h1) RX
theorem si_enumZ {elts : List Expr} {kk : Nat} {tpos : Pos} (hm : X.mg "enumerate" = none) (hm2 : X.mg "zip" = none) (ha : SA X W [e, e2] wr) (hg : Gl X "enumerate" := by rfl) (hg2 : Gl X "zip" := by rfl)
    (hs : starEach [e, e2] X.env = (false, eval e X.env) :: starEach [e2] X.env := by rfl) (hpl : (backTo q (starEach [e2] X.env)).any (·.1) = false := by rfl)
    (na : starEach [.Call (.Name "zip" p2) [e, e2] [] q] X.env = (false, eval (.Call (.Name "zip" p2) [e, e2] [] q) X.env) :: starEach [] X.env := by rfl) :
    SI X W (.Tuple elts kk tpos) (.Call (.Name "enumerate" p) [.Call (.Name "zip" p2) [e, e2] [] q] [] pos) (wEnumZ wr) := PI.imp (pi_enumZ hg hm hg2 hm2 ha hs hpl na) fun σ H Q ⟨S, ρ, h, R, RX, ar, hr, hw, hR, hX⟩ => by
  refine ⟨S, ρ, h, _, RX, ar, hr, hw, fun ts h1 q1 S1 us H1 E1 R1 rs => ?_, hX⟩
  obtain ⟨x, y, xs, ys, rfl, e1, e2, q⟩ := q1
  obtain ⟨u, u2, rfl, rx, ry⟩ := rel2 rs
  obtain ⟨a, us, rfl, h2, r2⟩ := asL_rel R1 rx e1
  obtain ⟨b, vs, rfl, h3, r3⟩ := asL_rel R1 ry e2
  refine ⟨a, b, us, vs, rfl, h2, h3, hR _ _ h1 q S1 H1 _ E1 R1 (itez_rel fun S' h' H' e r hP => ?_)⟩
  obtain ⟨a', us', e4, h4, r4⟩ := asL_rel r (rx.mono e.sub) hP.1
  cases e4
  obtain ⟨b', vs', e5, h5, r5⟩ := asL_rel r (ry.mono e.sub) hP.2
  cases e5
  exact ⟨us', vs', h4, r4, h5, r5⟩
end
end TL

namespace PySem
open Sem (wp)
open PyProof.Rows PySem.Spec
def pairLt (p q : Int × Int) : Bool := if p.1 = q.1 then decide (p.2 < q.2) else decide (p.1 < q.1)
section
variable {prog : Program} {w : World} {A : Around} {E : Value → Shared → Prop} {s : Shared}
theorem mp_lt {t u : Addr} {p q : Int × Int} {a b c d : Tok} (hu : A.units < cLine) (h1 : s.heap.IsTuple t #[.int p.1 a, .int p.2 b]) (h2 : s.heap.IsTuple u #[.int q.1 c, .int q.2 d]) :
    Ob.RcOp .Lt A s (.ref t) (.ref u) (pairLt p q) := by
  have R := Ob.RcOp.tuples_lt (A := A) (s := s) (e := fun j => if j = 0 then decide (p.1 = q.1) else decide (p.2 = q.2)) (r := fun j => if j = 0 then decide (p.1 < q.1) else decide (p.2 < q.2)) h1 h2 hu
    (fun j j1 j2 => by
      have z : ∀ x y : Int, (x == y) = decide (x = y) := fun x y => by
        by_cases q : x = y
        · rw [decide_eq_true q]; exact beq_iff_eq.mpr q
        · rw [decide_eq_false q]; exact beq_eq_false_iff_ne.mpr q
      match j, j1, j2 with
      | 0, _, _ => simp only [if_true]; rw [← z]; exact SeqAt.EqAt.int_int _ _ _ _
      | 1, _, _ => simp only [Nat.one_ne_zero, if_false]; rw [← z]; exact SeqAt.EqAt.int_int _ _ _ _
      | j + 2, j1, _ => exact absurd j1 (by simp))
    (fun j j1 j2 _ => by
      match j, j1, j2 with
      | 0, _, _ => simp only [if_true]; exact Ob.RcOp.lt_int _ _ _ _
      | 1, _, _ => simp only [Nat.one_ne_zero, if_false]; exact Ob.RcOp.lt_int _ _ _ _
      | j + 2, j1, _ => exact absurd j1 (by simp))
  have e : Ob.lexAt (fun j => if j = 0 then decide (p.1 = q.1) else decide (p.2 = q.2)) (fun j => if j = 0 then decide (p.1 < q.1) else decide (p.2 < q.2)) (decide (2 < 2)) 0 2 = pairLt p q := by
    simp only [Ob.lexAt, pairLt, if_true, Nat.zero_add, Nat.one_ne_zero, if_false, decide_eq_true_eq]
    by_cases h1 : p.1 = q.1
    · rw [if_pos h1, if_pos h1]
      by_cases h2 : p.2 = q.2
      · rw [if_pos h2, h2]; simp
      · rw [if_neg h2]
    · rw [if_neg h1, if_neg h1]
  exact e ▸ R
theorem pairLt_no {p q : Int × Int} : pairLt p q = false ↔ q.1 < p.1 ∨ (q.1 = p.1 ∧ q.2 ≤ p.2) := by
  unfold pairLt
  by_cases h : p.1 = q.1
  · rw [if_pos h, decide_eq_false_iff_not]; omega
  · rw [if_neg h, decide_eq_false_iff_not]; omega
theorem pairLt_yes {p q : Int × Int} : pairLt p q = true ↔ p.1 < q.1 ∨ (p.1 = q.1 ∧ p.2 < q.2) := by
  unfold pairLt
  by_cases h : p.1 = q.1
  · rw [if_pos h, decide_eq_true_iff]; omega
  · rw [if_neg h, decide_eq_true_iff]; omega
variable {h₀ : Heap} {l I S : Addr} {vs : List Value} {k : Nat → Int × Int} {kw : List (Str × Value)} {R : Result → Shared → Prop}
def UpH (h₀ h : Heap) : Prop := ∀ b o, h₀.get? b = some o → h.get? b = some o
theorem UpH.put {h h' : Heap} {S : Addr} (u : UpH h₀ h) (hS : h₀.objs.size ≤ S) (hs : Heap.SameBut S h h') : UpH h₀ h' := fun b o e => hs.extBut b o (Nat.ne_of_lt (Nat.lt_of_lt_of_le (Heap.lt_size e) hS)) (u b o e)
theorem mp_loop (hu : A.units + 1 < cLine) (hh : A.handled = none) (hI : h₀.objs.size ≤ I) (hS : h₀.objs.size ≤ S) (hSI : S ≠ I) (hl : h₀.IsList l vs.toArray)
    (hv : ∀ i v, vs[i]? = some v → ∃ t ta tb, v = .ref t ∧ h₀.IsTuple t #[.int (k i).1 ta, .int (k i).2 tb])
    (hR : ∀ i v h' tk', vs[i]? = some v → (∀ j, j < vs.length → pairLt (k j) (k i) = false) → UpH h₀ h' → R (.ok (.ret v)) { s with heap := h', toks := tk' }) :
    ∀ (r j i : Nat) (h : Heap) (tk : Nat) (vb : Value) (c : Nat), vs.length - (j + 1) = r → j + 1 ≤ vs.length → UpH h₀ h →
      h.get? S = some (seqObj "list" #[vb, vb] c) → h.IsListIter I l (j + 1) → vs[i]? = some vb → i ≤ j → (∀ j', j' ≤ j → pairLt (k j') (k i) = false) →
      codeAny (model prog w) A (.builtin "min.loop" ⟨[.ref I, .none, .ref S], kw⟩) R { s with heap := h, toks := tk } := by
  have hname : (toString "min" ++ toString ".loop" : String) = "min.loop" := by decide
  have hlI : l ≠ I := fun e => by obtain ⟨o, ho, _⟩ := hl; exact absurd (Heap.lt_size ho) (by rw [e]; exact Nat.not_lt.mpr hI)
  have W := Walks.list (prog := prog) (w := w) (A := A.in1) hh I l hlI vs.toArray
  have hsz : vs.toArray.size = vs.length := List.size_toArray ..
  have lat : ∀ h, UpH h₀ h → h.IsList l vs.toArray := fun h u => hl.at fun o e => u l o e
  have tat : ∀ h t xs, UpH h₀ h → h₀.IsTuple t xs → h.IsTuple t xs := fun h t xs u ⟨o, ho, q⟩ => ⟨o, u t o ho, q⟩
  intro r
  induction r with
  | zero =>
    intro j i h tk vb c hr hj F gS hit hvb hij hbest
    have hin : j + 1 = vs.length := by omega
    refine codeAny_builtin PySem.F.entry_min_loop ?_
    rw [Around.under_plainId PySem.F.plain_min_loop _]
    show wpAny _ A.in1 (seqItems? (.ref S) >>= _) _ _ _
    refine wpAny_bind (wpAny_seqItems gS rfl ?_)
    show wpAny _ A.in1 (tryCatch (pyNext (.ref I)) _ >>= _) _ _ _
    refine wpAny_bind (wpAny_tryCatch (W.done _ _ _ ⟨by rw [hsz, ← hin]; exact hit, lat h F⟩ fun h' tk' hk' => ?_))
    have F1 : UpH h₀ h' := fun b o e => hk' b o (by simpa using Nat.ne_of_lt (Nat.lt_of_lt_of_le (Heap.lt_size e) hI)) (F b o e)
    have hS' := hk' S _ (by simpa using hSI) gS
    have s1 := Heap.SameBut.update h' S (Obj.mapSeq fun _ => (#[] : Array Value))
    show wpAny _ A.in1 (updateSeq S (fun _ => #[]) >>= _) _ _ _
    refine wpAny_bind ?_
    refine wpAny_updateSeq hS' rfl (wpAny_bind (wpAny_letGo (wpAny_pure ?_)))
    exact hR i vb _ _ hvb (fun j' hj' => hbest j' (by omega)) (F1.put hS s1)
  | succ r ih =>
    intro j i h tk vb c hr hj F gS hit hvb hij hbest
    have hlt : j + 1 < vs.length := by omega
    refine codeAny_builtin PySem.F.entry_min_loop ?_
    rw [Around.under_plainId PySem.F.plain_min_loop _]
    show wpAny _ A.in1 (seqItems? (.ref S) >>= _) _ _ _
    refine wpAny_bind (wpAny_seqItems gS rfl ?_)
    show wpAny _ A.in1 (tryCatch (pyNext (.ref I)) _ >>= _) _ _ _
    refine wpAny_bind (wpAny_tryCatch (W.item (j + 1) _ _ _ (by rw [hsz]; exact hlt) ⟨hit, lat h F⟩ fun v h' tk' hP hst' hk' => ?_))
    have hvj : vs[j + 1]? = some v := by simpa using hP
    obtain ⟨oI', hoI', hoc, hod⟩ := id hst'.1
    have F1 : UpH h₀ h' := fun b o e => hk' b o (by simpa using Nat.ne_of_lt (Nat.lt_of_lt_of_le (Heap.lt_size e) hI)) (F b o e)
    have gS1 := hk' S _ (by simpa using hSI) gS
    obtain ⟨t, ta, tb, rfl, ht⟩ := hv _ _ hvj
    obtain ⟨u, ua, ub, rfl, hu2⟩ := hv _ _ hvb
    show wpAny _ A.in1 (tryCatch (holding [.ref t, .ref t] (richCompare .Lt (.ref t) (.ref u) >>= _)) _ >>= _) _ _ _
    refine wpAny_bind (wpAny_tryCatch (wpAny_holding (wpAny_bind (mp_lt (s := { s with heap := h', toks := tk' }) (show A.in1.units < cLine from hu) (tat _ _ _ F1 ht) (tat _ _ _ F1 hu2) prog w _ _ ?_))))
    refine wpAny_bind (wpAny_holding (wpAny_truthy_bool ?_))
    refine wpAny_bind (wpAny_letGo (wpAny_pure ?_))
    cases hb : pairLt (k (j + 1)) (k i) with
    | true =>
      have s1 := Heap.SameBut.update h' S (Obj.mapSeq fun _ => #[.ref t, .ref t])
      obtain ⟨c2, hc2⟩ : ∃ c2, (h'.update S (Obj.mapSeq fun _ => #[.ref t, .ref t])).get? S = some (seqObj "list" #[.ref t, .ref t] c2) := ⟨_, get?_update_seq gS1 fun _ => #[.ref t, .ref t]⟩
      simp only [if_true]
      refine wpAny_bind ?_
      refine wpAny_updateSeq gS1 rfl (wpAny_bind (wpAny_letGo ?_))
      rw [hname]
      refine wpAny_pure ⟨plainId_quiet PySem.F.plain_min_loop _, ih (j + 1) (j + 1) _ _ _ c2 (by omega) hlt (F1.put hS s1) hc2 ⟨oI', (s1.2 I hSI.symm).trans hoI', hoc, hod⟩ hvj (Nat.le_refl _) fun j' hj' => ?_⟩
      by_cases e : j' = j + 1
      · subst e; exact pairLt_no.mpr (.inr ⟨rfl, Int.le_refl _⟩)
      · have h1 := pairLt_no.mp (hbest j' (by omega))
        have h2 := pairLt_yes.mp hb
        exact pairLt_no.mpr (by omega)
    | false =>
      simp only [Bool.false_eq_true, if_false]
      refine wpAny_bind (wpAny_letGo ?_)
      rw [hname]
      refine wpAny_pure ⟨plainId_quiet PySem.F.plain_min_loop _, ih (j + 1) i _ _ _ c (by omega) hlt F1 gS1 hst'.1 hvb (by omega) fun j' hj' => ?_⟩
      by_cases e : j' = j + 1
      · subst e; exact hb
      · exact hbest j' (by omega)
theorem mp_args (a v : Value) : argsOk "min" ⟨[a], [(Str.ofString "default", v)]⟩ := by unfold argsOk; kernel_rfl
theorem mp_min {Q : Value → Shared → Prop} {d : Value} (hu : A.units + 1 < cLine) (hh : A.handled = none) (hl : s.heap.IsList l vs.toArray)
    (hv : ∀ i v, vs[i]? = some v → ∃ t ta tb, v = .ref t ∧ s.heap.IsTuple t #[.int (k i).1 ta, .int (k i).2 tb])
    (hQ : ∀ i v h' tk', vs[i]? = some v → (∀ j, j < vs.length → pairLt (k j) (k i) = false) → UpH s.heap h' → Q v { s with heap := h', toks := tk' })
    (hD : vs = [] → ∀ h' tk', UpH s.heap h' → Q d { s with heap := h', toks := tk' }) :
    wpAny (model prog w) A (call (.builtin "min") [.ref l] [(Str.ofString "default", d)]) Q E s := by
  have hname : (toString "min" ++ toString ".loop" : String) = "min.loop" := by decide
  obtain ⟨ol, hol, _⟩ := id hl
  have hll : l < s.heap.objs.size := Heap.lt_size hol
  refine kmk_tree PySem.F.kind_min PySem.F.plain_min PySem.F.entry_min (mp_args _ _) ?_
  show wpAny _ A.in1 (Builtin.Builtins.bindParams "min" ["key", "default"] 0 ⟨[], [(Str.ofString "default", d)]⟩ >>= _) _ _ s
  refine wpAny_bind (wpAny_of_eq (show Builtin.Builtins.bindParams "min" ["key", "default"] 0 ⟨[], [(Str.ofString "default", d)]⟩ = pure [none, some d] from rfl) ?_)
  refine wpAny_bind (wpAny_pure ?_)
  refine wpAny_bind (wpAny_pyIter_list hl ?_)
  refine wpAny_bind (wpAny_newList ?_ (Nat.zero_le _))
  rw [hname]
  have hS : (s.heap.push { cls := .type "list_iterator", data := .fields #[.ref l, .int 0 0] }).objs.size = s.heap.objs.size + 1 := size_push' ..
  have hlI : l ≠ s.heap.objs.size := Nat.ne_of_lt hll
  have hSI : (s.heap.push { cls := .type "list_iterator", data := .fields #[.ref l, .int 0 0] }).objs.size ≠ s.heap.objs.size := by rw [hS]; exact Nat.ne_of_gt (Nat.lt_succ_self _)
  have hS0 : s.heap.objs.size ≤ (s.heap.push { cls := .type "list_iterator", data := .fields #[.ref l, .int 0 0] }).objs.size := by rw [hS]; exact Nat.le_succ _
  refine wpAny_pure ⟨plainId_quiet PySem.F.plain_min_loop _, ?_⟩
  have F0 : UpH s.heap ((s.heap.push { cls := .type "list_iterator", data := .fields #[.ref l, .int 0 0] }).push (seqObj "list" #[] 0)) := fun b x e => Heap.get?_push_of_some _ (Heap.get?_push_of_some _ e)
  have gI : ((s.heap.push { cls := .type "list_iterator", data := .fields #[.ref l, .int 0 0] }).push (seqObj "list" #[] 0)).get? s.heap.objs.size = some { cls := .type "list_iterator", data := .fields #[.ref l, .int 0 0] } :=
    Heap.get?_push_of_some _ (Heap.get?_push_size _ rfl)
  have gS : ((s.heap.push { cls := .type "list_iterator", data := .fields #[.ref l, .int 0 0] }).push (seqObj "list" #[] 0)).get? (s.heap.push { cls := .type "list_iterator", data := .fields #[.ref l, .int 0 0] }).objs.size = some (seqObj "list" #[] 0) := Heap.get?_push_size _ rfl
  have W := Walks.list (prog := prog) (w := w) (A := A.in1) hh s.heap.objs.size l hlI vs.toArray
  have hsz : vs.toArray.size = vs.length := List.size_toArray ..
  have lat : ∀ h, UpH s.heap h → h.IsList l vs.toArray := fun h u => hl.at fun o e => u l o e
  generalize (s.heap.push { cls := .type "list_iterator", data := .fields #[.ref l, .int 0 0] }).push (seqObj "list" #[] 0) = hp0 at F0 gI gS ⊢
  generalize (s.heap.push { cls := .type "list_iterator", data := .fields #[.ref l, .int 0 0] }).objs.size = S at hSI hS0 gS ⊢
  refine codeAny_builtin PySem.F.entry_min_loop ?_
  rw [Around.under_plainId PySem.F.plain_min_loop _]
  show wpAny _ A.in1 (seqItems? (.ref S) >>= _) _ _ _
  refine wpAny_bind (wpAny_seqItems gS rfl ?_)
  show wpAny _ A.in1 (tryCatch (pyNext (.ref s.heap.objs.size)) _ >>= _) _ _ _
  by_cases hne : 0 < vs.length
  · refine wpAny_bind (wpAny_tryCatch (W.item 0 _ _ _ (by rw [hsz]; exact hne) ⟨⟨_, gI, rfl, rfl⟩, lat _ F0⟩ fun v h' tk' hP hst' hk' => ?_))
    have hvj : vs[0]? = some v := by simpa using hP
    have F1 : UpH s.heap h' := fun b o e => hk' b o (by simpa using Nat.ne_of_lt (Heap.lt_size e)) (F0 b o e)
    have gS1 := hk' S _ (by simpa using hSI) gS
    obtain ⟨oI', hoI', hoc, hod⟩ := id hst'.1
    have s1 := Heap.SameBut.update h' S (Obj.mapSeq fun _ => #[v, v])
    obtain ⟨c2, hc2⟩ : ∃ c2, (h'.update S (Obj.mapSeq fun _ => #[v, v])).get? S = some (seqObj "list" #[v, v] c2) := ⟨_, get?_update_seq gS1 fun _ => #[v, v]⟩
    show wpAny _ A.in1 (updateSeq S (fun _ => #[v, v]) >>= _) _ _ _
    refine wpAny_bind ?_
    refine wpAny_updateSeq gS1 rfl ?_
    rw [hname]
    refine wpAny_pure ⟨plainId_quiet PySem.F.plain_min_loop _, mp_loop (h₀ := s.heap) hu hh (Nat.le_refl _) hS0 hSI hl hv hQ _ 0 0 _ _ v c2 rfl hne (F1.put hS0 s1) hc2 ⟨oI', (s1.2 _ hSI.symm).trans hoI', hoc, hod⟩ hvj (Nat.le_refl _) fun j' hj' => ?_⟩
    obtain rfl : j' = 0 := by omega
    exact pairLt_no.mpr (.inr ⟨rfl, Int.le_refl _⟩)
  · have e0 : vs = [] := List.length_eq_zero_iff.mp (by omega)
    refine wpAny_bind (wpAny_tryCatch (W.done _ _ _ ⟨by rw [hsz, e0]; exact ⟨_, gI, rfl, rfl⟩, lat _ F0⟩ fun h' tk' hk' => ?_))
    have F1 : UpH s.heap h' := fun b o e => hk' b o (by simpa using Nat.ne_of_lt (Heap.lt_size e)) (F0 b o e)
    refine wpAny_bind (wpAny_rule (wpAny_pure ?_))
    exact hD e0 h' tk' F1
theorem mp_args0 (a : Value) : argsOk "min" ⟨[a], []⟩ := by unfold argsOk; kernel_rfl
theorem mp_min0 {Q : Value → Shared → Prop} (hu : A.units + 1 < cLine) (hh : A.handled = none) (hl : s.heap.IsList l vs.toArray)
    (hv : ∀ i v, vs[i]? = some v → ∃ t ta tb, v = .ref t ∧ s.heap.IsTuple t #[.int (k i).1 ta, .int (k i).2 tb])
    (hQ : ∀ i v h' tk', vs[i]? = some v → (∀ j, j < vs.length → pairLt (k j) (k i) = false) → UpH s.heap h' → Q v { s with heap := h', toks := tk' })
    (hne : 0 < vs.length) :
    wpAny (model prog w) A (call (.builtin "min") [.ref l] []) Q E s := by
  have hname : (toString "min" ++ toString ".loop" : String) = "min.loop" := by decide
  obtain ⟨ol, hol, _⟩ := id hl
  have hll : l < s.heap.objs.size := Heap.lt_size hol
  refine kmk_tree PySem.F.kind_min PySem.F.plain_min PySem.F.entry_min (mp_args0 _) ?_
  show wpAny _ A.in1 (Builtin.Builtins.bindParams "min" ["key", "default"] 0 ⟨[], []⟩ >>= _) _ _ s
  refine wpAny_bind (wpAny_of_eq (show Builtin.Builtins.bindParams "min" ["key", "default"] 0 ⟨[], []⟩ = pure [none, none] from rfl) ?_)
  refine wpAny_bind (wpAny_pure ?_)
  refine wpAny_bind (wpAny_pyIter_list hl ?_)
  refine wpAny_bind (wpAny_newList ?_ (Nat.zero_le _))
  rw [hname]
  have hS : (s.heap.push { cls := .type "list_iterator", data := .fields #[.ref l, .int 0 0] }).objs.size = s.heap.objs.size + 1 := size_push' ..
  have hlI : l ≠ s.heap.objs.size := Nat.ne_of_lt hll
  have hSI : (s.heap.push { cls := .type "list_iterator", data := .fields #[.ref l, .int 0 0] }).objs.size ≠ s.heap.objs.size := by rw [hS]; exact Nat.ne_of_gt (Nat.lt_succ_self _)
  have hS0 : s.heap.objs.size ≤ (s.heap.push { cls := .type "list_iterator", data := .fields #[.ref l, .int 0 0] }).objs.size := by rw [hS]; exact Nat.le_succ _
  refine wpAny_pure ⟨plainId_quiet PySem.F.plain_min_loop _, ?_⟩
  have F0 : UpH s.heap ((s.heap.push { cls := .type "list_iterator", data := .fields #[.ref l, .int 0 0] }).push (seqObj "list" #[] 0)) := fun b x e => Heap.get?_push_of_some _ (Heap.get?_push_of_some _ e)
  have gI : ((s.heap.push { cls := .type "list_iterator", data := .fields #[.ref l, .int 0 0] }).push (seqObj "list" #[] 0)).get? s.heap.objs.size = some { cls := .type "list_iterator", data := .fields #[.ref l, .int 0 0] } :=
    Heap.get?_push_of_some _ (Heap.get?_push_size _ rfl)
  have gS : ((s.heap.push { cls := .type "list_iterator", data := .fields #[.ref l, .int 0 0] }).push (seqObj "list" #[] 0)).get? (s.heap.push { cls := .type "list_iterator", data := .fields #[.ref l, .int 0 0] }).objs.size = some (seqObj "list" #[] 0) := Heap.get?_push_size _ rfl
  have W := Walks.list (prog := prog) (w := w) (A := A.in1) hh s.heap.objs.size l hlI vs.toArray
  have hsz : vs.toArray.size = vs.length := List.size_toArray ..
  have lat : ∀ h, UpH s.heap h → h.IsList l vs.toArray := fun h u => hl.at fun o e => u l o e
  generalize (s.heap.push { cls := .type "list_iterator", data := .fields #[.ref l, .int 0 0] }).push (seqObj "list" #[] 0) = hp0 at F0 gI gS ⊢
  generalize (s.heap.push { cls := .type "list_iterator", data := .fields #[.ref l, .int 0 0] }).objs.size = S at hSI hS0 gS ⊢
  refine codeAny_builtin PySem.F.entry_min_loop ?_
  rw [Around.under_plainId PySem.F.plain_min_loop _]
  show wpAny _ A.in1 (seqItems? (.ref S) >>= _) _ _ _
  refine wpAny_bind (wpAny_seqItems gS rfl ?_)
  show wpAny _ A.in1 (tryCatch (pyNext (.ref s.heap.objs.size)) _ >>= _) _ _ _
  refine wpAny_bind (wpAny_tryCatch (W.item 0 _ _ _ (by rw [hsz]; exact hne) ⟨⟨_, gI, rfl, rfl⟩, lat _ F0⟩ fun v h' tk' hP hst' hk' => ?_))
  have hvj : vs[0]? = some v := by simpa using hP
  have F1 : UpH s.heap h' := fun b o e => hk' b o (by simpa using Nat.ne_of_lt (Heap.lt_size e)) (F0 b o e)
  have gS1 := hk' S _ (by simpa using hSI) gS
  obtain ⟨oI', hoI', hoc, hod⟩ := id hst'.1
  have s1 := Heap.SameBut.update h' S (Obj.mapSeq fun _ => #[v, v])
  obtain ⟨c2, hc2⟩ : ∃ c2, (h'.update S (Obj.mapSeq fun _ => #[v, v])).get? S = some (seqObj "list" #[v, v] c2) := ⟨_, get?_update_seq gS1 fun _ => #[v, v]⟩
  show wpAny _ A.in1 (updateSeq S (fun _ => #[v, v]) >>= _) _ _ _
  refine wpAny_bind ?_
  refine wpAny_updateSeq gS1 rfl ?_
  rw [hname]
  refine wpAny_pure ⟨plainId_quiet PySem.F.plain_min_loop _, mp_loop (h₀ := s.heap) hu hh (Nat.le_refl _) hS0 hSI hl hv hQ _ 0 0 _ _ v c2 rfl hne (F1.put hS0 s1) hc2 ⟨oI', (s1.2 _ hSI.symm).trans hoI', hoc, hod⟩ hvj (Nat.le_refl _) fun j' hj' => ?_⟩
  obtain rfl : j' = 0 := by omega
  exact pairLt_no.mpr (.inr ⟨rfl, Int.le_refl _⟩)
end
end PySem

namespace TL
open PySem PySem.Spec PyProof.Rows L2
def rMinP (K : PySem.W.Frag) : List V → List V → Hp → VK → Prop := fun vs zs H Q => ∃ (a : Addr) (xs : List V) (k : V → Int × Int) (d : V), vs = [V.ref a] ∧ zs = [d] ∧ SqL K H a xs ∧
  (∀ x ∈ xs, ∃ t, x = V.ref t ∧ H t = some (.tup [.int (k x).1, .int (k x).2])) ∧ (xs = [] → Q d H) ∧ ∀ x ∈ xs, (∀ y ∈ xs, pairLt (k y) (k x) = false) → Q x H
theorem cr_minP {X : Cx} (hu : X.A.units + 64 < cLine) (hc : X.calm = true := by rfl) : CallRK X (.builtin "min") [Str.ofString "default"] (rMinP X.K) := by
  intro pins s σ H vs zs us ws Q I r rz h
  obtain ⟨a, xs, k, d, rfl, rfl, hs, hp, h0, h1⟩ := h
  obtain rfl := Vals.ref1 r
  obtain ⟨dv, rfl, ed⟩ := vals1 rz
  obtain ⟨its, rv, hl, hz⟩ := I.list hs
  have len := rv.length
  refine mp_min (vs := its) (k := fun i => k (xs.getD i (.int 0))) (by omega) (I.ok.hd hc) hl.isList (fun i v hv => ?_) (fun i v h' tk' hv hb up => ?_) (fun e h' tk' up => ?_)
  · obtain ⟨x, hx, rx⟩ : ∃ x, xs[i]? = some x ∧ RelV x v := by
      have hi : i < xs.length := by rw [len]; exact (List.getElem?_eq_some_iff.mp hv).1
      obtain ⟨u, hu, ru⟩ := rv.get (List.getElem?_eq_getElem hi)
      rw [hv] at hu; cases hu
      exact ⟨_, List.getElem?_eq_getElem hi, ru⟩
    obtain ⟨t, rfl, ht⟩ := hp x (List.mem_of_getElem? hx)
    cases rx
    have eg : xs.getD i (.int 0) = .ref t := by rw [List.getD_eq_getElem?_getD, hx]; rfl
    obtain ⟨its2, rv2, p2, _⟩ := I.tuple (.inl (.inl ht))
    rw [eg]
    cases rv2 with
    | cons r1 rr =>
      cases rr with
      | cons r2 rr =>
        cases rr
        obtain ⟨ta, rfl⟩ := r1
        obtain ⟨tb, rfl⟩ := r2
        exact ⟨t, ta, tb, rfl, p2⟩
  · obtain ⟨x, hx, rx⟩ : ∃ x, xs[i]? = some x ∧ RelV x v := by
      have hi : i < xs.length := by rw [len]; exact (List.getElem?_eq_some_iff.mp hv).1
      obtain ⟨u, hu, ru⟩ := rv.get (List.getElem?_eq_getElem hi)
      rw [hv] at hu; cases hu
      exact ⟨_, List.getElem?_eq_getElem hi, ru⟩
    have eg : xs.getD i (.int 0) = x := by rw [List.getD_eq_getElem?_getD, hx]; rfl
    refine ⟨x, H, I.kept (t' := tk') up, rx, h1 x (List.mem_of_getElem? hx) fun y hy => ?_⟩
    obtain ⟨j, hj⟩ := List.mem_iff_getElem?.mp hy
    have := hb j (by rw [← len]; exact (List.getElem?_eq_some_iff.mp hj).1)
    rw [eg] at this
    have ej : xs.getD j (.int 0) = y := by rw [List.getD_eq_getElem?_getD, hj]; rfl
    rw [ej] at this
    exact this
  · have : xs = [] := List.length_eq_zero_iff.mp (by rw [len, e]; rfl)
    exact ⟨d, H, I.kept (t' := tk') up, ed, h0 this⟩
def rMinP0 (K : PySem.W.Frag) : List V → Hp → VK → Prop := fun vs H Q => ∃ (a : Addr) (xs : List V) (k : V → Int × Int), vs = [V.ref a] ∧ SqL K H a xs ∧
  (∀ x ∈ xs, ∃ t, x = V.ref t ∧ H t = some (.tup [.int (k x).1, .int (k x).2])) ∧ 0 < xs.length ∧ ∀ x ∈ xs, (∀ y ∈ xs, pairLt (k y) (k x) = false) → Q x H
theorem cr_minP0 {X : Cx} (hu : X.A.units + 64 < cLine) (hc : X.calm = true := by rfl) : CallR X (.builtin "min") (rMinP0 X.K) := by
  intro pins s σ H vs us Q I r h
  obtain ⟨a, xs, k, rfl, hs, hp, h0, h1⟩ := h
  obtain rfl := Vals.ref1 r
  obtain ⟨its, rv, hl, hz⟩ := I.list hs
  have len := rv.length
  refine mp_min0 (vs := its) (k := fun i => k (xs.getD i (.int 0))) (by omega) (I.ok.hd hc) hl.isList (fun i v hv => ?_) (fun i v h' tk' hv hb up => ?_) (by rw [← len]; exact h0)
  · obtain ⟨x, hx, rx⟩ : ∃ x, xs[i]? = some x ∧ RelV x v := by
      have hi : i < xs.length := by rw [len]; exact (List.getElem?_eq_some_iff.mp hv).1
      obtain ⟨u, hu, ru⟩ := rv.get (List.getElem?_eq_getElem hi)
      rw [hv] at hu; cases hu
      exact ⟨_, List.getElem?_eq_getElem hi, ru⟩
    obtain ⟨t, rfl, ht⟩ := hp x (List.mem_of_getElem? hx)
    cases rx
    have eg : xs.getD i (.int 0) = .ref t := by rw [List.getD_eq_getElem?_getD, hx]; rfl
    obtain ⟨its2, rv2, p2, _⟩ := I.tuple (.inl (.inl ht))
    rw [eg]
    cases rv2 with
    | cons r1 rr =>
      cases rr with
      | cons r2 rr =>
        cases rr
        obtain ⟨ta, rfl⟩ := r1
        obtain ⟨tb, rfl⟩ := r2
        exact ⟨t, ta, tb, rfl, p2⟩
  · obtain ⟨x, hx, rx⟩ : ∃ x, xs[i]? = some x ∧ RelV x v := by
      have hi : i < xs.length := by rw [len]; exact (List.getElem?_eq_some_iff.mp hv).1
      obtain ⟨u, hu, ru⟩ := rv.get (List.getElem?_eq_getElem hi)
      rw [hv] at hu; cases hu
      exact ⟨_, List.getElem?_eq_getElem hi, ru⟩
    have eg : xs.getD i (.int 0) = x := by rw [List.getD_eq_getElem?_getD, hx]; rfl
    refine ⟨x, H, I.kept (t' := tk') up, rx, h1 x (List.mem_of_getElem? hx) fun y hy => ?_⟩
    obtain ⟨j, hj⟩ := List.mem_iff_getElem?.mp hy
    have := hb j (by rw [← len]; exact (List.getElem?_eq_some_iff.mp hj).1)
    rw [eg] at this
    have ej : xs.getD j (.int 0) = y := by rw [List.getD_eq_getElem?_getD, hj]; rfl
    rw [ej] at this
    exact this
def wMinP (w : WEx) : WEx := fun ρ h R RX => w ρ h (fun x h1 => ∃ xs ps, asL h1 x = some xs ∧ xs = ps.map prT ∧ ps ≠ [] ∧ ∀ p ∈ ps, (∀ q ∈ ps, pairLt q p = false) → R (prT p) h1) RX
def wMinD (wr wk : WAr) : WEx := fun ρ h R RX => wr ρ h (fun ts h1 => wk ρ h1 (fun us h2 => ∃ x d xs ps, ts = [x] ∧ us = [d] ∧ asL h2 x = some xs ∧ xs = ps.map prT ∧ (ps = [] → R d h2) ∧ ∀ p ∈ ps, (∀ q ∈ ps, pairLt q p = false) → R (prT p) h2) RX) RX
section
variable {X : Cx} {W : WX} {σ : L2.St} {S S' : AS} {H H' : Hp} {e : Expr} {es : List Expr} {pos p : Pos} {wr wk : WAr} {kws : List Keyword}
theorem se_minD (hu : X.A.units + 64 < cLine) (hm : X.mg "min" = none) (ha : SA X W [e] wr) (hk : SK X W kws wk) (hg : Gl X "min" := by rfl)
    (he : backTo pos (starEach [e] X.env) = (false, eval e X.env) :: backTo pos (starEach [] X.env) := by rfl) (hpl : (backTo pos (starEach [e] X.env)).any (·.1) = false := by rfl)
    (hall : (backToKw pos (keywordEach kws X.env)).all (·.1.isSome) = true := by rfl) (hnone : (backToKw pos (keywordEach kws X.env)).any (·.1.isNone) = false := by rfl) (hks : (backToKw pos (keywordEach kws X.env)).filterMap (·.1) = [Str.ofString "default"] := by rfl)
    (hc : X.calm = true := by rfl) :
    SE X W (.Call (.Name "min" p) [e] kws pos) (wMinD wr wk) :=
  PE.imp (pe_callBK (cr_minP hu hc) hg hm (by decide +kernel) ha hk (by decide) (by decide) he hpl hall hnone hks) fun σ H Q ⟨S, ρ, h, R, RX, ar, hr, hw, hR, hX⟩ => by
    refine ⟨S, ρ, h, _, RX, ar, hr, hw, fun ts h1 q1 S1 us H1 E1 R1 rs => ?_, hX⟩
    refine ⟨S1, ρ, h1, _, RX, ar.mono E1.sub, R1, q1, fun ds h2 q2 S2 ws H2 E2 R2 rd => ?_, hX.mono E1⟩
    obtain ⟨x, d, xs, ps, rfl, rfl, ex, eps, k0, k1⟩ := q2
    obtain ⟨u, rfl, rx⟩ := rel1 rs
    obtain ⟨dv, rfl, rdv⟩ := rel1 rd
    obtain ⟨a, vs, rfl, h3, r3⟩ := asL_rel R2 (rx.mono E2.sub) ex
    have r0 := r3
    rw [eps] at r0
    obtain ⟨f1, f2⟩ := prs_rel R2 r0
    have plen : ps.length = vs.length := by rw [← f1, List.length_map]
    refine ⟨a, vs, prOf H2, dv, rfl, rfl, h3, f2, fun e => hR _ h2 (k0 (List.length_eq_zero_iff.mp (by rw [plen, e]; rfl))) S2 _ H2 (E1.trans E2) R2 rdv, fun v hv hb => ?_⟩
    obtain ⟨i, hi⟩ := List.mem_iff_getElem?.mp hv
    have hip : i < ps.length := by rw [plen]; exact (List.getElem?_eq_some_iff.mp hi).1
    have hpi : ps[i]? = some ps[i] := List.getElem?_eq_getElem hip
    have hti : (ps.map prT)[i]? = some (prT ps[i]) := by rw [List.getElem?_map, hpi]; rfl
    obtain ⟨v', hv', rv'⟩ := r0.get hti
    rw [hi] at hv'; cases hv'
    have ev : prOf H2 v = ps[i] := by
      have := congrArg (·[i]?) f1
      simp only [List.getElem?_map, hi, hpi, Option.map_some, Option.some.injEq] at this
      exact this
    refine hR _ h2 (k1 ps[i] (List.getElem_mem hip) fun q hq => ?_) S2 v H2 (E1.trans E2) R2 rv'
    rw [← f1] at hq
    obtain ⟨y, hy, rfl⟩ := List.mem_map.mp hq
    rw [← ev]
    exact hb y hy
theorem se_minP {w : WEx} (hu : X.A.units + 64 < cLine) (hm : X.mg "min" = none) (ha : SE X W e w) (hg : Gl X "min" := by rfl) (he : starEach [e] X.env = (false, eval e X.env) :: starEach [] X.env := by rfl) (hpl : (backTo pos (starEach [] X.env)).any (·.1) = false := by rfl)
    (hc : X.calm = true := by rfl) :
    SE X W (.Call (.Name "min" p) [e] [] pos) (wMinP w) :=
  PE.imp (pe_callB (cr_minP0 hu hc) hg hm (by decide +kernel) (pa_cons ha pa_nil he) (by decide) (by decide) he hpl) fun σ H Q ⟨S, ρ, h, R, RX, ar, hr, hw, hR, hX⟩ => by
    refine ⟨S, ρ, h, _, RX, ar, hr, hw, fun x h2 q2 S2 u H2 E2 R2 rx => ?_, hX⟩
    obtain ⟨xs, ps, ex, eps, k0, k1⟩ := q2
    obtain ⟨a, vs, rfl, h3, r3⟩ := asL_rel R2 rx ex
    have r0 := r3
    rw [eps] at r0
    obtain ⟨f1, f2⟩ := prs_rel R2 r0
    have plen : ps.length = vs.length := by rw [← f1, List.length_map]
    refine ⟨a, vs, prOf H2, rfl, h3, f2, by rw [← plen]; exact List.length_pos_iff.mpr k0, fun v hv hb => ?_⟩
    obtain ⟨i, hi⟩ := List.mem_iff_getElem?.mp hv
    have hip : i < ps.length := by rw [plen]; exact (List.getElem?_eq_some_iff.mp hi).1
    have hpi : ps[i]? = some ps[i] := List.getElem?_eq_getElem hip
    have hti : (ps.map prT)[i]? = some (prT ps[i]) := by rw [List.getElem?_map, hpi]; rfl
    obtain ⟨v', hv', rv'⟩ := r0.get hti
    rw [hi] at hv'; cases hv'
    have ev : prOf H2 v = ps[i] := by
      have := congrArg (·[i]?) f1
      simp only [List.getElem?_map, hi, hpi, Option.map_some, Option.some.injEq] at this
      exact this
    refine hR _ h2 (k1 ps[i] (List.getElem_mem hip) fun q hq => ?_) S2 v H2 E2 R2 rv'
    rw [← f1] at hq
    obtain ⟨y, hy, rfl⟩ := List.mem_map.mp hq
    rw [← ev]
    exact hb y hy
end
end TL

namespace TL
open PySem PySem.Spec PyProof.Rows L2
section
variable {X : Cx} {pins : List (Addr × Obj)} {σ : L2.St} {H : Hp} {s : Shared} {d : Addr} {o : Obj}
theorem frzT2 {kvs : List (List Key × V)} (I : Inv X pins σ H s) (h : H d = some (.frz o (.dT kvs))) :
    (d == sysModules) = false ∧ s.heap.get? d = some o ∧ o.ExactDict ∧ ∃ (es : Array DictEntry) (ep : Nat), o.data = .dict es ep ∧ es.size = kvs.length ∧
      ∀ (i : Nat) (k : List Key) (v : V), kvs[i]? = some (k, v) → ∃ (en : DictEntry) (q : Addr), es[i]? = some en ∧ en.key = .ref q ∧ H q = some (.tup (k.map kV)) ∧ RelV v en.val := by
  obtain ⟨hd, z, hs, xs, pr, o', es, ep, ho, hx, hdt, he, _⟩ := I.hok d _ h
  rw [hd] at ho
  cases ho
  refine ⟨hs, hd, hx, es, ep, hdt, ?_, fun i k v e => ?_⟩
  · have l1 : es.size = xs.length := size_of_entries he
    have l2 : kvs.length = xs.length := Paired.length pr
    omega
  · obtain ⟨b, hb, e1, e2, e3⟩ := paired_get pr e
    have q := entry_at he i
    rw [hb] at q
    exact ⟨_, b.2.1, q, rfl, e2, e3⟩
end
/-- the pairs of a locked dict with tuple keys, each a new tuple -/
def Itit (d : Addr) (o : Obj) (kvs : List (List Key × V)) : It :=
  ⟨fun i H => H d = some (.frz o (.dT kvs)) ∧ i < kvs.length, fun i H x H' => ∃ T k v q, kvs[i]? = some (k, v) ∧ x = .ref T ∧ H T = none ∧ H q = some (.tup (k.map kV)) ∧ H' = upd H T (.tup [.ref q, v]), fun i H => H d = some (.frz o (.dT kvs)) ∧ kvs.length ≤ i⟩
section
variable {P : Program} {w : World} {K : PySem.W.Frag} {d : Addr} {o : Obj} {es : Array DictEntry} {ep : Nat}
theorem turn_itemsT {kvs : List (List Key × V)} {elts : List Expr} {kk : Nat} {tpos : Pos} (it : Addr) (hod : o.data = .dict es ep) :
    Turn P w K (.Tuple elts kk tpos) (Itit d o kvs) [it] it (fun i h => ∃ ok ov, IsItemIter h it d i kvs.length ep ok ov) where
  mem := by simp
  obj := fun i h st b hb => by
    have e : b = it := by simpa using hb
    subst e
    obtain ⟨ok, ov, e⟩ := st
    exact ⟨_, e, fun v z => nomatch z⟩
  keep := fun i h h' st k => let ⟨ok, ov, e⟩ := st; ⟨ok, ov, k it (by simp) _ e⟩
  item := by
    intro X hP hw hK hc i pins s σ H E I hf st hg
    subst hP hw hK
    obtain ⟨hd, hi⟩ := hg
    obtain ⟨hs, hgd, hx, es', ep', hdt, hsz, ent⟩ := frzT2 I hd
    obtain ⟨rfl, rfl⟩ := dict_ep hod hdt
    obtain ⟨⟨k, v⟩, hkv⟩ : ∃ p, kvs[i]? = some p := ⟨kvs[i], List.getElem?_eq_getElem hi⟩
    obtain ⟨en, q, hen, hkey, hq, rv⟩ := ent i k v hkv
    obtain ⟨ok, ov, he⟩ := st
    rw [← hsz] at he
    have hlt : it < s.heap.objs.size := Heap.lt_size he
    have hi' : i < es'.size := by rw [hsz]; exact hi
    have hge : es'[i] = en := by rw [Array.getElem?_eq_getElem hi'] at hen; exact Option.some.inj hen
    refine DT.nextI he ⟨o, hgd, hx, hdt⟩ hi' fun h' ho hT hz hk => ?_
    refine ⟨_, rfl, wpAny_letOwnedTupleGo_items (s := { s with heap := h' }) ho fun h'' he' sb => ?_⟩
    rw [hge] at hT
    have hT2 : h''.get? s.heap.objs.size = some { cls := .type "tuple", data := .seq #[en.key, en.val] } := (sb.2 _ (Nat.ne_of_gt hlt)).trans hT
    have new : ObjOk X.prog X.w (upd H s.heap.objs.size (.tup [.ref q, v])) h'' s.heap.objs.size (.tup [.ref q, v]) :=
      ⟨by show 2 ≤ sizeLine; decide, [en.key, en.val], .cons hkey (.cons rv .nil), ⟨_, hT2, rfl, _, rfl⟩⟩
    have I1 : Inv X pins σ (upd H s.heap.objs.size (.tup [.ref q, v])) { s with heap := h'' } :=
      I.turnedNew (t' := s.toks) (ch := [it]) (fun b ob hb e => (sb.2 b (by simpa using hb)).trans (hk b ob (by simpa using hb) e)) hf (Nat.le_refl _) new
    refine ⟨.ref s.heap.objs.size, _, I1, rfl, ⟨_, k, v, q, hkv, rfl, I.hok.fresh (Nat.le_refl _), hq, rfl⟩, ⟨es'[i].key, es'[i].val, ?_⟩, fun b hb => ?_⟩
    · rw [← hsz]; exact he'
    · have e : b = it := by simpa using hb
      rw [e, upd_ne (Nat.ne_of_lt hlt)]
      exact (hf it (by simp)).1
  done := by
    intro X hP hw hK hc i pins s σ H E I hf st hg
    subst hP hw hK
    obtain ⟨hd, hi⟩ := hg
    obtain ⟨f0, f1, f2, f3, f4, f5⟩ := hf it (by simp)
    obtain ⟨hs, hgd, hx, es', ep', hdt, hsz, ent⟩ := frzT2 I hd
    obtain ⟨rfl, rfl⟩ := dict_ep hod hdt
    obtain ⟨ok, ov, he⟩ := st
    rw [← hsz] at he
    exact DT.endI (I.ok.hd hc) he ⟨o, hgd, hx, hdt⟩ (by rw [hsz]; exact hi) fun h' eb => ⟨rfl, I.turned (t' := s.toks) (fun b ob hb e => eb b ob hb e) f0 f1 f3 f4 f5⟩
  self := fun A i s Q E st h => let ⟨_, _, e⟩ := st; PySem.W.kcp_self e h
end
def iItemsT (td : TE) : TI := fun σ H R => td σ H fun x H1 => ∃ d o kvs, x = .ref d ∧ H1 d = some (.frz o (.dT kvs)) ∧ R (Itit d o kvs) H1
theorem pi_itemsT {X : Cx} {e : Expr} {td : TE} {apos cpos : Pos} {elts : List Expr} {kk : Nat} {tpos : Pos} (he : PE X e td) (hbase : attributeBase e "items" X.env (eval e X.env) = eval e X.env := by rfl) (hline : (apos.endLine == cpos.line) = true := by rfl) :
    PI X (.Tuple elts kk tpos) (.Call (.Attribute e "items" apos) [] [] cpos) (iItemsT td) := by
  refine ⟨fun pins s σ H R I h => ?_⟩
  refine wpAny_Call_method (T := "dict") (id := "dict.items") hbase rfl hline F.plainAttrs_dict F.slot_dict_items F.type_dict_items (thn (he.run pins s σ H _ I h) fun u s1 ⟨x, H1, I1, rx, d, o, kvs, ex, hd, q⟩ => ?_)
  subst ex
  obtain rfl : u = Value.ref d := rx
  obtain ⟨hs, hgd, hx, es, ep, hdt, hsz, ent⟩ := frzT2 I1 hd
  have raw : DT.Raw s1.heap d es ep := ⟨o, hgd, hx, hdt⟩
  refine ⟨raw.typeIs, fun a z => by cases z; exact ⟨o, hgd, hx.2.1⟩, ?_⟩
  have I2 : Inv X pins σ H1 { s1 with heap := s1.heap.push { cls := .type "dict_items", data := .fields #[.ref d] } } := I1.kept (t' := s1.toks) fun b ob q => Heap.get?_push_of_some _ q
  have fin : wpAny (model X.prog X.w) X.A (pyIter (.ref s1.heap.objs.size)) (PIE X pins σ (.Tuple elts kk tpos) R) X.xe { s1 with heap := s1.heap.push { cls := .type "dict_items", data := .fields #[.ref d] } } := by
    refine DT.iterI (d := d) (es := es) (ep := ep) ⟨_, Heap.get?_push_size _ rfl, rfl, rfl⟩ (raw.push _) (pi_one (tk := s1.toks) I2 _ (turn_itemsT _ hdt) ⟨.none, .none, ?_⟩ q)
    rw [← hsz]
    exact Heap.get?_push_size _ rfl
  show wpAny _ _ (callWith cpos (.builtin "dict.items") [.ref d] [] []) _ X.xe s1
  exact method_meetsIn F.slot_dict_items F.entry_dict_items rfl (PySem.evalArgs_none ⟨rfl, raw.typeIs, F.args_dict_items_1 _, _, DT.meetsItems (es := es) (ep := ep) hs, ⟨raw, fin⟩⟩)
/-- the ghost step: a thing is locked for good -/
def tFrzD (t : TE) : TE := fun σ H Q => t σ H fun v H1 => ∃ d u, H1 d = some u ∧ Mut (some u) ∧ ∀ od, Q v (upd H1 d (.frz od u))
theorem pe_frzD {X : Cx} {e : Expr} {t : TE} (h : PE X e t) : PE X e (tFrzD t) := by
  refine ⟨fun pins s σ H Q I hw => ?_⟩
  refine thn (h.run pins s σ H _ I hw) fun v s1 ⟨x, H1, I1, r, d, u, hd, mu, q⟩ => ?_
  obtain ⟨od, I2⟩ := I1.lock hd mu
  exact ⟨x, _, I2, r, q od⟩
def kT : Key → T
  | .inl i => .int i
  | .inr s => .str s
def itemT (k : List Key) (t : T) : T := .tup [.tup (k.map kT), t]
theorem kT_rel {K : PySem.W.Frag} {S : AS} (k : Key) : RelT K S (kT k) (kV k) := by
  cases k <;> (simp only [kT, RelT]; rfl)
theorem kTs_rel {K : PySem.W.Frag} {S : AS} : ∀ k : List Key, RelTs K S (k.map kT) (k.map kV)
  | [] => .nil
  | k :: ks => .cons (kT_rel k) (kTs_rel ks)
section
variable {X : Cx} {W : WX} {σ : L2.St} {S S' : AS} {H H' : Hp} {e o i : Expr} {w wo wi : WEx} {pos apos cpos : Pos}
def wFrzD (w : WEx) : WEx := fun ρ h R RX => w ρ h (fun x h1 => ∃ n kvs, x = .ref n ∧ h1[n]? = some (.dtt kvs) ∧ R (.fdt (kvs.map (·.1)) (kvs.map (·.2))) (h1.set n .dead)) RX
theorem se_frzD (he : SE X W e w) : SE X W e (wFrzD w) := PE.imp (pe_frzD he) fun σ H Q ⟨S, ρ, h, R, RX, ar, hr, hw, hR, hX⟩ => by
  refine ⟨S, ρ, h, _, RX, ar, hr, hw, fun x h1 q1 S1 u H1 E1 R1 rx => ?_, hX⟩
  obtain ⟨n, kvs, rfl, hn, q⟩ := q1
  simp only [RelT] at rx
  obtain ⟨_, rfl⟩ := rx
  obtain ⟨us, hH, _⟩ := R1.freezeD hn default
  refine ⟨_, _, hH, trivial, fun od => ?_⟩
  obtain ⟨us', hH', S2, R2, E2, r2⟩ := R1.freezeD hn od
  rw [hH] at hH'
  injection hH' with hH'
  injection hH' with hH'
  rw [← hH'] at R2 E2
  exact hR _ _ q S2 _ _ (E1.trans E2) R2 r2
def fgetO (x y : T) : Option T := match x with
  | .fdt ks ts => (keysOf y).bind fun k => aget (ks.zip ts) k
  | _ => none
def opFGet : Op2 := fun _ x y => fgetO x y
theorem fget_rel {K : PySem.W.Frag} {mg : Str → Option Value} {h : AH} {t k z : T} {v u : V} (hr : HRel K mg S h H) (rt : RelT K S t v) (rk : RelT K S k u) (e : fgetO t k = some z) :
    ∃ a v', v = .ref a ∧ DGetU H a u (some v') ∧ RelT K S z v' := by
  cases t <;> simp only [fgetO, reduceCtorEq] at e
  rename_i ks ts
  simp only [RelT] at rt
  obtain ⟨a, od, us, rfl, hG, hl, rs⟩ := rt
  obtain ⟨k', e1, e2⟩ := Option.bind_eq_some_iff.mp e
  obtain ⟨b, rfl, hb⟩ := keys_rel hr rk e1
  have hl2 : ts.length = us.length := rs.length
  have m1 : (ks.zip ts).map (·.1) = ks := by rw [List.map_fst_zip]; omega
  have m2 : (ks.zip ts).map (·.2) = ts := by rw [List.map_snd_zip]; omega
  have g := aget_rel (S := S) (K := K) k' (kvs := ks.zip ts) (us := us) (by rw [List.length_zip]; omega) (by rw [m2]; exact rs)
  rw [e2, m1] at g
  obtain ⟨v', g1, g2⟩ := g
  refine ⟨a, v', rfl, .inl (.inr ⟨_, k', b, .inr ⟨od, hr.g _ _ hG⟩, rfl, hb, g1.symm⟩), g2⟩
theorem se_fget (hu : X.A.units + 64 < cLine) (ha : SE X W o wo) (hb : SE X W i wi) (hs : NoSl i := by exact fun _ _ => rfl) : SE X W (.Subscript o i pos) (wBin opFGet wo wi) :=
  PE.imp (pe_dgetU hu ha hb hs) fun σ H Q ⟨S, ρ, h, R, RX, ar, hr, hw, hR, hX⟩ => by
    refine ⟨S, ρ, h, _, RX, ar, hr, hw, fun x h1 q1 S1 u H1 E1 R1 rx => ?_, hX⟩
    refine ⟨S1, ρ, h1, _, RX, ar.mono E1.sub, R1, q1, fun y h2 q2 S2 u2 H2 E2 R2 ry => ?_, hX.mono E1⟩
    obtain ⟨z, ez, rz⟩ := q2
    obtain ⟨a, v', e1, g, r'⟩ := fget_rel R2 (rx.mono E2.sub) ry ez
    exact ⟨a, v', e1, g, hR z h2 rz S2 v' H2 (E1.trans E2) R2 r'⟩
def itemsT (ks : List (List Key)) (ts : List T) : List T := List.zipWith itemT ks ts
theorem itit_rel {d : Addr} {od : Obj} {ks : List (List Key)} {ts : List T} {us : List V} {P : AH → Prop} {S0 : AS} {H0 : Hp} (hl : ks.length = us.length)
    (hd : S0.G d = some (.frz od (.dT (ks.zip us)))) (rs : RelTs X.K S0 ts us) : ItRel X (Itit d od (ks.zip us)) (itemsT ks ts) P S0 H0 := fun i S' h' H' e r hP => by
  have hl2 := rs.length
  have hH := r.g _ _ (e.g _ _ hd)
  refine ⟨fun t ht => ?_, fun hi => ⟨hH, by unfold itemsT at hi; rw [List.length_zipWith] at hi; rw [List.length_zip]; omega⟩⟩
  have hi := (List.getElem?_eq_some_iff.mp ht).1
  unfold itemsT at hi ht
  rw [List.length_zipWith] at hi
  have hk : ks[i]? = some (ks[i]'(by omega)) := List.getElem?_eq_getElem _
  have hx : ts[i]? = some (ts[i]'(by omega)) := List.getElem?_eq_getElem _
  generalize ks[i]'(by omega) = k at hk
  generalize ts[i]'(by omega) = x at hx
  have et : t = itemT k x := by
    rw [List.getElem?_zipWith, hk, hx] at ht
    exact (Option.some.inj ht).symm
  subst et
  obtain ⟨u, hu, ru⟩ := (rs.mono e.sub).get hx
  have hz : (ks.zip us)[i]? = some (k, u) := by rw [List.getElem?_zip_eq_some]; exact ⟨hk, hu⟩
  refine ⟨⟨hH, (List.getElem?_eq_some_iff.mp hz).1⟩, fun v H'' ⟨T0, k1, v1, q, e1, ev, hT, hq, eH⟩ => ?_⟩
  rw [hz] at e1
  cases e1
  subst ev eH
  obtain ⟨R1, E1⟩ := r.adoptT hq
  obtain ⟨R2, E2⟩ := R1.new (o := .tup [.ref q, u]) hT
  have E := E1.trans E2
  refine ⟨_, E, R2, ?_⟩
  unfold itemT
  rw [RelT]
  refine ⟨T0, _, rfl, upd_same, .cons ?_ (.cons (ru.mono E.sub) .nil)⟩
  rw [RelT]
  exact ⟨q, _, rfl, E2.g _ _ upd_same, kTs_rel k⟩
def wItemsT (w : WEx) : WIt := fun ρ h R RX => w ρ h (fun x h1 => ∃ ks ts, x = .fdt ks ts ∧ R (itemsT ks ts) (fun _ => True) h1) RX
theorem si_itemsT {elts : List Expr} {kk : Nat} {tpos : Pos} (he : SE X W e w) (hbase : attributeBase e "items" X.env (eval e X.env) = eval e X.env := by rfl) (hline : (apos.endLine == cpos.line) = true := by rfl) :
    SI X W (.Tuple elts kk tpos) (.Call (.Attribute e "items" apos) [] [] cpos) (wItemsT w) := PI.imp (pi_itemsT he hbase hline) fun σ H Q ⟨S, ρ, h, R, RX, ar, hr, hw, hR, hX⟩ => by
  refine ⟨S, ρ, h, _, RX, ar, hr, hw, fun x h1 q1 S1 u H1 E1 R1 rx => ?_, hX⟩
  obtain ⟨ks, ts, rfl, q⟩ := q1
  simp only [RelT] at rx
  obtain ⟨a, od, us, rfl, hG, hl, rs⟩ := rx
  exact ⟨a, od, _, rfl, R1.g _ _ hG, hR _ _ h1 q S1 H1 _ E1 R1 (itit_rel hl hG rs)⟩
end
end TL

set_option maxHeartbeats 2000000
namespace TL
open PySem PySem.Spec PyProof.Rows L2
section
variable {X : Cx}
theorem newSetI {w : World} {P : Program} {H : Hp} {h : Heap} : ObjOk P w H (h.push { cls := .type "set", dict := none, data := .set #[] 0 (.fresh 0 0 (!w.params.followText "set-order")) }) h.objs.size (SetO w h.objs.size (fun _ => false) 0) := setO_new (setR_fresh w)
theorem addI_ok {pins : List (Addr × Obj)} {σ : L2.St} {H : Hp} {s : Shared} {E : Value → Shared → Prop} {D : Addr} {S : Int → Bool} {n : Nat} {y : Int} {tk : Tok} {Q : Value → Shared → Prop} (I : Inv X pins σ H s) (hD : H D = some (SetO X.w D S n)) (room : n + 1 < scanBound)
    (h : ∀ s', Inv X pins σ (upd H D (SetO X.w D (fun j => S j || decide (j = y)) (if S y = true then n else n + 1))) s' → Q .none s') : wpAny (model X.prog X.w) X.A (call (.builtin "set.add") [.ref D, .int y tk]) Q E s := by
  have R := setO_get I hD
  refine setR_add R room fun h' sb new => ?_
  have he : ∃ u, h'.get? D = some u := by
    have ⟨o, _, _, _, ho, _⟩ := new
    exact ⟨o, ho⟩
  exact h _ (I.write (e := D) (t' := s.toks + 1) (by rw [hD]; trivial) (.inl rfl) (fun b u hb hu => (sb.2 b hb).trans hu) he (setO_new new))
/-- the set is finished: known by its members alone -/
theorem setI_done {pins : List (Addr × Obj)} {σ : L2.St} {H : Hp} {s : Shared} {D : Addr} {S : Int → Bool} {n : Nat} (I : Inv X pins σ H s) (hD : H D = some (SetO X.w D S n)) : Inv X pins σ (upd H D (.set S n)) s := by
  have R := setO_get I hD
  have ho : ∃ o, s.heap.get? D = some o := by
    have ⟨o, _, _, _, ho, _⟩ := R
    exact ⟨o, ho⟩
  exact I.write (x := D) (e := D) (t' := s.toks) (h' := s.heap) (by rw [hD]; trivial) (.inl rfl) (fun b v _ q => q) ho (show s.heap.SetOf (intKind X.prog X.w) D S n from R.setOf)
/-- {elt for target in iter if ..}, elt a whole number: D the new set -/
def tSi (w : World) (wi : TI) (g : TG) (tt : TT) (te : TE) (vs : List Nat) : TE := fun σ H Q => wi σ H fun J H1 => ∀ D, H1 D = none → ∃ W : Nat → Nat → Hp → Prop, (∃ m, W 0 m (upd H1 D (SetO w D (fun _ => false) 0))) ∧ ∀ i m H, W i m H →
  (J.stop i H ∧ ∃ S n, H D = some (SetO w D S n) ∧ Q (.ref D) (upd H D (.set S n))) ∨ (J.go i H ∧ ∃ Nx : Hp → Prop, (∀ H', Nx H' → ∃ m', m' < m ∧ W (i + 1) m' H') ∧ ∀ x H', J.yld i H x H' → g x (wipe σ vs) H' fun σ2 H2 => wipe σ2 vs = wipe σ vs ∧ tt σ2 H2 fun b H3 =>
    if b = true then te σ2 H3 fun y H4 => ∃ (c : Int) (S : Int → Bool) (n : Nat), y = .int c ∧ H4 D = some (SetO w D S n) ∧ n + 1 < scanBound ∧ Nx (upd H4 D (SetO w D (fun j => S j || decide (j = c)) (if S c = true then n else n + 1))) else Nx H3)
theorem si_core {pins : List (Addr × Obj)} {s : Shared} {σ : L2.St} {H : Hp} {Q : VK} {elt tg iter : Expr} {ifs : List Expr} {scope : Scope} {own : List (PySem.Str × Nat)} {pos pos' : Pos} {wi : TI} {g : TG} {tt : TT} {te : TE} {use : Option (Value → Sem Unit)} {Qf : Value → Shared → Prop}
    (hc : X.calm = true) (hN : X.N.Nodup) (I : Inv X pins σ H s) (hi : PI X tg iter wi) (ok : BlkOk X.N X.env.scope scope own)
    (hg : ∀ (s : Shared) (H : Hp) (C : Addr) (cl : List (PySem.Str × Addr)) (fp : List Addr), PG (X.blk s H scope (compEnvC scope cl C X.env) fp) tg g) (ht : ∀ (s : Shared) (H : Hp) (C : Addr) (cl : List (PySem.Str × Addr)) (fp : List Addr), PTs (X.blk s H scope (compEnvC scope cl C X.env) fp) ifs tt)
    (he : ∀ (s : Shared) (H : Hp) (C : Addr) (cl : List (PySem.Str × Addr)) (fp : List Addr), PE (X.blk s H scope (compEnvC scope cl C X.env) fp) elt te) (hs : ∀ x, foldedSetIterable iter X.env x = pure x)
    (h : tSi X.w wi g tt te (own.map (·.2)) σ H Q)
    (hRR : ∀ D C s' m H', Inv X pins σ H' s' → Q (.ref D) H' → s'.heap.Ns C m → FpOk X pins H' C → compPost (model X.prog X.w) X.A X.xe use Qf (.ref D) C (.ok .next) s') :
    wpAny (model X.prog X.w) X.A (comprehension (.SetComp elt [⟨tg, iter, ifs, 0⟩] scope pos) scope X.env pos' (newSet (.type "set")) false (eval iter X.env) use) Qf X.xe s := by
  have hfree : ∀ y ∈ scope.names, y.2 = .free → ∃ c, X.env.cells.lookup y.1 = some c := fun y hy e => by
    rcases ok.free y hy e with k | k
    · exact I.ok.has _ (.inl k)
    · exact I.ok.has _ (.inr k)
  refine wpAny_comprehension_free (use := use) rfl hs (closure_ok hfree) ok.kind (fun y hy e => by rw [ok.uniq y hy, e])
    (thn (hi.run pins s σ H _ I h) fun xv s1 hx => thn hx fun itv s2 h2 => ?_)
  obtain ⟨it, fp, tn, J, H2, e, I2, T, st2, f2, q⟩ := h2
  subst e
  refine PpSet.newSet_ok (newEnv_comp ?_)
  generalize hD : s2.heap.objs.size = D
  have hDn : H2 D = none := I2.hok.fresh (Nat.le_of_eq hD)
  obtain ⟨W, ⟨m0, w0⟩, turn⟩ := q D hDn
  generalize hs3 : ({ s2 with heap := s2.heap.push { cls := .type "set", dict := none, data := .set #[] 0 (.fresh 0 0 (!X.w.params.followText "set-order")) } } : Shared) = s3
  have I3 : Inv X pins σ (upd H2 D (SetO X.w D (fun _ => false) 0)) s3 := by
    rw [← hs3]
    refine I2.laid (t' := s2.toks) (fun b o e => Heap.get?_push_of_some _ e) (Nat.le_of_eq hD) ?_
    rw [← hD]
    exact newSetI
  have h3 : s3.heap = s2.heap.push { cls := .type "set", dict := none, data := .set #[] 0 (.fresh 0 0 (!X.w.params.followText "set-order")) } := by rw [← hs3]
  have sz : ∀ b ∈ fp, b < s2.heap.objs.size := fun b hb => by
    obtain ⟨o, e, _⟩ := T.obj _ _ st2 b hb
    exact Heap.lt_size e
  have f3 : ∀ b ∈ fp, FpOk X pins (upd H2 D (SetO X.w D (fun _ => false) 0)) b ∧ b < s3.heap.objs.size := fun b hb => by
    have hlt := sz b hb
    refine ⟨⟨?_, (f2 b hb).2⟩, by rw [h3, Heap.size_push]; exact Nat.lt_succ_of_lt hlt⟩
    rw [upd_ne (by rw [← hD]; exact Nat.ne_of_lt hlt)]
    exact (f2 b hb).1
  have st3 : tn 0 s3.heap := T.keep _ _ _ st2 fun b _ o e => by rw [h3]; exact Heap.get?_push_of_some _ e
  have I4 := block_start I3 ok hN f3
  have pg := hg s3 (upd H2 D (SetO X.w D (fun _ => false) 0)) s3.heap.objs.size (cellsFrom (s3.heap.objs.size + 1) scope.names (cloFrom X.env.cells scope.names [])) fp
  have pt := ht s3 (upd H2 D (SetO X.w D (fun _ => false) 0)) s3.heap.objs.size (cellsFrom (s3.heap.objs.size + 1) scope.names (cloFrom X.env.cells scope.names [])) fp
  have pe := he s3 (upd H2 D (SetO X.w D (fun _ => false) 0)) s3.heap.objs.size (cellsFrom (s3.heap.objs.size + 1) scope.names (cloFrom X.env.cells scope.names [])) fp
  show codeAny _ _ (.compStart (.SetComp elt [⟨tg, iter, ifs, 0⟩] scope pos) 0 (.ref it) (.ref D) (compEnvC scope (cellsFrom (s3.heap.objs.size + 1) scope.names (cloFrom X.env.cells scope.names [])) s3.heap.objs.size X.env)) (compPost (model X.prog X.w) X.A X.xe use Qf (.ref D) s3.heap.objs.size) { s3 with heap := pushCells (s3.heap.push { cls := .type "dict", data := .dict #[] }) scope.names }
  have nfp : ∀ b ∈ fp, (upd H2 D (SetO X.w D (fun _ => false) 0)) b = none := fun b hb => (f3 b hb).1.1
  generalize hce : compEnvC scope (cellsFrom (s3.heap.objs.size + 1) scope.names (cloFrom X.env.cells scope.names [])) s3.heap.objs.size X.env = ce at I4 pg pt pe ⊢
  have cL : ce.locals = s3.heap.objs.size := by subst hce; rfl
  generalize hH3 : upd H2 D (SetO X.w D (fun _ => false) 0) = H3 at I3 I4 pg pt pe w0 nfp f3
  generalize hs4 : ({ s3 with heap := pushCells (s3.heap.push { cls := .type "dict", data := .dict #[] }) scope.names } : Shared) = s4 at I4 ⊢
  have st4 : tn 0 s4.heap := T.keep _ _ _ st3 fun b _ o e => by rw [← hs4]; exact pushCells_keeps _ _ _ _ (Heap.get?_push_of_some _ e)
  have stat : ∀ {σ' : L2.St} {H' : Hp} {s' : Shared}, Inv (X.blk s3 H3 scope ce fp) [] σ' H' s' → (∀ b ∈ fp, H' b = none) → ∀ b ∈ fp, FpOk (X.blk s3 H3 scope ce fp) [] H' b := fun {σ' H' s'} I' hn b hb =>
    ⟨hn b hb, (I'.ok.exf b hb).1, I'.ok.exfs b hb, .inl hb, fun x c e => (I'.ok.exf b hb).2 x c e, fun p hp => absurd (show p ∈ ([] : List (Addr × Obj)) ++ [] from hp) (by simp)⟩
  have loop : codeAny (model X.prog X.w) X.A (.compLoop (.SetComp elt [⟨tg, iter, ifs, 0⟩] scope pos) 0 (.ref it) (.ref D) ce) (compPost (model X.prog X.w) X.A X.xe use Qf (.ref D) s3.heap.objs.size) s4 := by
    refine PpSet.compLoopS_any (fun n s' => ∃ i H', Inv (X.blk s3 H3 scope ce fp) [] (wipe σ (own.map (·.2))) H' s' ∧ tn i s'.heap ∧ (∀ b ∈ fp, H' b = none) ∧ W i n H') ?_ m0 ⟨0, H3, I4, st4, nfp, w0⟩
    rintro n s5 ⟨i, H5, I5, st5, n5, w5⟩
    rcases turn i n H5 w5 with ⟨stop, Sf, nf, hDf, qq⟩ | ⟨go, Nx, hNx, step⟩
    · have td := T.done (X.blk s3 H3 scope ce fp) rfl rfl rfl hc i [] s5 _ H5 (fun _ _ => False) I5 (stat I5 n5) st5 stop
      refine thnF td fun r s6 ⟨hr, I6⟩ => ?_
      subst hr
      have I7 : Inv X pins σ H5 s6 := I3.call' (ch := fp) I6.os I6.base I6.hok I6.bare fun b hb => ⟨(f3 b hb).1.2.2.2.1, (f3 b hb).1.2.1, (f3 b hb).1.2.2.2.2.1, (f3 b hb).1.2.2.2.2.2⟩
      have nC : H5 s3.heap.objs.size = none := by
        have z : H5 ce.locals = none := I6.free
        rw [cL] at z
        exact z
      obtain ⟨m, hn, _⟩ := I6.loc
      have hn : s6.heap.Ns ce.locals m := hn
      rw [cL] at hn
      have I8 := setI_done I7 hDf
      have nC8 : (upd H5 D (.set Sf nf)) s3.heap.objs.size = none := by
        rw [upd_ne (fun z => by rw [z, hDf] at nC; cases nC)]; exact nC
      exact hRR D s3.heap.objs.size s6 m _ I8 qq hn (I3.fpOk (Nat.le_refl _) nC8)
    · have ti := T.item (X.blk s3 H3 scope ce fp) rfl rfl rfl hc i [] s5 _ H5 (fun _ _ => False) I5 (stat I5 n5) st5 go
      refine thnF ti fun r s6 ⟨u, hr, h6⟩ => ?_
      subst hr
      refine thnF h6 fun _ s7 ⟨x, H7, I7, r7, y7, st7, n7⟩ => ?_
      have I7' := I7.pinned (stat I7 n7) (T.obj _ _ st7)
      refine thnF (pg.run _ s7 _ H7 x u _ I7' r7 (step x H7 y7)) fun _ s8 ⟨σ8, H8, I8, hw8, q8⟩ => ?_
      refine thnF (pt.run _ s8 σ8 H8 _ I8 q8) fun b s9 ⟨H9, I9, q9⟩ => ?_
      have fin : ∀ {s' : Shared} {H' : Hp}, Inv (X.blk s3 H3 scope ce fp) ([] ++ pinsAt fp s7.heap) σ8 H' s' → Nx H' → ∃ m, m < n ∧ ∃ i H', Inv (X.blk s3 H3 scope ce fp) [] (wipe σ (own.map (·.2))) H' s' ∧ tn i s'.heap ∧ (∀ b ∈ fp, H' b = none) ∧ W i m H' := fun {s' H'} I' nx => by
        obtain ⟨m', hm, w'⟩ := hNx H' nx
        have pin' : ∀ b ∈ fp, ∀ o, s7.heap.get? b = some o → s'.heap.get? b = some o ∧ H' b = none := fun b hb o e =>
          let z := I'.pin (b, o) (List.mem_append_right _ (List.mem_append_right _ (mem_pinsAt hb e)))
          ⟨z.1, z.2.1⟩
        have hl : (wipe σ (own.map (·.2))).length = σ8.length := by rw [← hw8, wipe_length]
        refine ⟨m', hm, i + 1, H', (I'.unpinned (pins := [])).weak hl (fun j v e => ?_), T.keep _ _ _ st7 fun b hb o e => (pin' b hb o e).1, fun b hb => ?_, w'⟩
        · rw [← hw8] at e
          exact (wipe_some e).1
        · obtain ⟨o, e, _⟩ := T.obj _ _ st7 b hb
          exact (pin' b hb o e).2
      cases b with
      | false =>
        simp only [Bool.false_eq_true, if_false] at q9 ⊢
        exact fin I9 q9
      | true =>
        simp only [if_true] at q9 ⊢
        refine thnF (pe.run _ s9 σ8 H9 _ I9 q9) fun z s10 ⟨yv, H10, I10, r10, cb, S0, n0, ey, hD10, hz10, nx⟩ => ?_
        subst ey
        obtain ⟨tk, rfl⟩ := (show ∃ tk, z = Value.int cb tk from r10)
        exact addI_ok (X := X.blk s3 H3 scope ce fp) I10 hD10 hz10 fun s11 I11 => fin I11 nx
  exact PpSet.codeAny_compStart_set loop (T.self X.A 0 _ _ _ st4 loop)
theorem sw_trueS {elt : Expr} {gs : List Comprehension} {scope : Scope} {pos py : Pos} {y : PySem.Str} {l : Nat} {env : Env} (hk : env.scope.kind = .function) (hy : env.scope.names.lookup y = some .local) (hl : (py.line == pos.line) = true)
    (ha : (scope.names.any fun (n, k) => n == y && (k == .local || k == .cell)) = false) : swapsWith (.SetComp elt gs scope pos) (some (.Name y py)) l env = pure true := by
  have ky : env.kindOf y = some .local := hy
  have hb : env.blockKind = .function := by unfold Env.blockKind; rw [hk]; rfl
  unfold swapsWith
  simp only [hb, ky, ha, Expr.pos, hl]
  rfl
theorem ps_setSi {i : Nat} {y : PySem.Str} {py : Pos} {elt tg iter : Expr} {ifs : List Expr} {scope : Scope} {own : List (PySem.Str × Nat)} {pos spos : Pos} {wi : TI} {g : TG} {tt : TT} {te : TE} (hc : X.calm = true) (hN : X.N.Nodup) (hy : X.N[i]? = some y) (hyl : X.env.scope.names.lookup y = some .local)
    (hsw : swapsWith (.SetComp elt [⟨tg, iter, ifs, 0⟩] scope pos) (some (.Name y py)) spos.line X.env = pure true) (hi : PI X tg iter wi) (ok : BlkOk X.N X.env.scope scope own)
    (hg : ∀ (s : Shared) (H : Hp) (C : Addr) (cl : List (PySem.Str × Addr)) (fp : List Addr), PG (X.blk s H scope (compEnvC scope cl C X.env) fp) tg g) (ht : ∀ (s : Shared) (H : Hp) (C : Addr) (cl : List (PySem.Str × Addr)) (fp : List Addr), PTs (X.blk s H scope (compEnvC scope cl C X.env) fp) ifs tt)
    (he : ∀ (s : Shared) (H : Hp) (C : Addr) (cl : List (PySem.Str × Addr)) (fp : List Addr), PE (X.blk s H scope (compEnvC scope cl C X.env) fp) elt te) (hs : ∀ x, foldedSetIterable iter X.env x = pure x := by intro _; rfl) :
    PS X (.Assign [.Name y py] (.SetComp elt [⟨tg, iter, ifs, 0⟩] scope pos) spos) (tAsg (tSi X.w wi g tt te (own.map (·.2))) (gName i)) := by
  refine ⟨fun pins s σ H D I h => ?_⟩
  rw [exec_Assign_Name_used _ _ _ _ hsw]
  refine wpAny_bind (wpAny_standAt (wpAny_bind ?_))
  show wpAny _ X.A (do let _ ← comprehension (.SetComp elt [⟨tg, iter, ifs, 0⟩] scope pos) scope X.env (firstIterPos [⟨tg, iter, ifs, 0⟩] pos) (newSet (.type "set")) false (eval iter X.env) (some (assign (.Name y py) X.env))) _ _ s
  have h : tSi X.w wi g tt te (own.map (·.2)) σ H (fun x H1 => gName i x σ H1 D.nx) := h
  refine wpAny_bind (thn (si_core (Qf := fun _ s' => SP X pins D .next s') hc hN I hi ok hg ht he hs h fun L C s' m H' I' q hn f => ?_) fun _ s' hq => wpAny_pure (wpAny_pure hq))
  show wpAny _ _ (assign (.Name y py) X.env (.ref L)) _ _ _
  refine wpAny_assign_Name (store_ok2 (v := V.ref L) I' hN hy (.inl hyl) rfl (fun s2 I2 ⟨a, sb, ha⟩ => ?_) (.inr hyl))
  obtain ⟨f0, f1, f2, f3, f4, f5⟩ := f
  have haC : C ≠ a := by
    rcases ha with z | z
    · rw [z]; exact f1
    · exact fun e => f4 y a z e.symm
  refine ⟨m, hn.sameBut sb haC, fun h3 sb3 => ?_⟩
  exact ⟨_, H', I2.turned (t' := s2.toks) (fun b o hb e => (sb3.2 b hb).trans e) f0 f1 f3 f4 f5, q⟩
theorem pe_si {elt tg iter : Expr} {ifs : List Expr} {scope : Scope} {own : List (PySem.Str × Nat)} {pos : Pos} {wi : TI} {g : TG} {tt : TT} {te : TE} (hc : X.calm = true) (hN : X.N.Nodup) (hi : PI X tg iter wi) (ok : BlkOk X.N X.env.scope scope own)
    (hg : ∀ (s : Shared) (H : Hp) (C : Addr) (cl : List (PySem.Str × Addr)) (fp : List Addr), PG (X.blk s H scope (compEnvC scope cl C X.env) fp) tg g) (ht : ∀ (s : Shared) (H : Hp) (C : Addr) (cl : List (PySem.Str × Addr)) (fp : List Addr), PTs (X.blk s H scope (compEnvC scope cl C X.env) fp) ifs tt)
    (he : ∀ (s : Shared) (H : Hp) (C : Addr) (cl : List (PySem.Str × Addr)) (fp : List Addr), PE (X.blk s H scope (compEnvC scope cl C X.env) fp) elt te) (hs : ∀ x, foldedSetIterable iter X.env x = pure x := by intro _; rfl) :
    PE X (.SetComp elt [⟨tg, iter, ifs, 0⟩] scope pos) (tSi X.w wi g tt te (own.map (·.2))) := by
  refine ⟨fun pins s σ H Q I h => ?_⟩
  rw [PpSet.eval_SetComp]
  refine si_core hc hN I hi ok hg ht he hs h fun D C s' m H' I' q hn f => ⟨m, hn, fun h'' sb => ?_⟩
  obtain ⟨f0, f1, f2, f3, f4, f5⟩ := f
  exact ⟨.ref D, H', I'.turned (t' := s'.toks) (fun b o hb e => (sb.2 b hb).trans e) f0 f1 f3 f4 f5, rfl, q⟩
/-- k not in s -/
theorem or_setNotIn : OpR X (compareOp .NotIn) (fun x y H Q => ∃ k a S n, x = V.int k ∧ y = V.ref a ∧ H a = some (.set S n) ∧ Q (.bl (!S k)) H) := by
  intro pins s σ H x y v u Q I rx ry h
  obtain ⟨k, a, S, n, rfl, rfl, ha, q⟩ := h
  obtain ⟨tk, rfl⟩ := rx
  cases ry
  exact wpAny_notInSet_of (intKind_is _ _ _ _) rfl (show s.heap.SetOf (intKind X.prog X.w) a S n from I.hok a _ ha) ⟨.bl (!S k), H, I.tok _, rfl, q⟩
end
section
variable {X : Cx} {W : WX} {σ : L2.St} {S S' : AS} {H H' : Hp} {elt tg iter e o : Expr} {ifs : List Expr} {scope : Scope} {wi : WIt} {is vs : List Nat} {g : WTg} {wt : WTe} {w we wo : WEx} {pos spos : Pos}
/-- the set's members: the numbers that came -/
def memI (l : List Int) : Int → Bool := fun j => l.any fun i => decide (j = i)
theorem memI_app (l : List Int) (i : Int) : memI (l ++ [i]) = fun j => memI l j || decide (j = i) := by
  funext j
  simp [memI, List.any_append]
def wSetL (P : AH → Prop) (g : WTg) (wt : WTe) (w : WEx) (vs : List Nat) (ρ : Rho) : List T → List Int → AH → (List Int → AH → Prop) → Prop
  | [], acc, h, R => P h ∧ R acc h
  | t :: ts, acc, h, R => P h ∧ g t (wipeT ρ vs) h (fun ρ2 h2 => wt ρ2 h2 (fun k h3 => if k = true then w ρ2 h3 (fun y h4 => ∃ i, y = .int i ∧ acc.length < 4000 ∧ wSetL P g wt w vs ρ ts (acc ++ [i]) h4 R) (fun _ _ => False) else wSetL P g wt w vs ρ ts acc h3 R) (fun _ _ => False)) (fun _ _ => False)
def wSetI (wi : WIt) (g : WTg) (wt : WTe) (w : WEx) (vs : List Nat) : WEx := fun ρ h R RX => wi ρ h (fun items P h1 => wSetL P g wt w vs ρ items [] h1 (fun acc h2 => R (.fst (memI acc)) h2)) RX
/-- what is apart may be told otherwise, and is known from then on -/
theorem lsi_sound {J : It} {Q : VK} (hv : ∀ i ∈ is, i ∈ vs) {S1 : AS} {H1 : Hp} {ρ : Rho} {h1 : AH} {items : List T} {P : AH → Prop} {Rf : List Int → AH → Prop} (ar : ARel X.K S1 ρ σ) (R1 : HRel X.K X.mg S1 h1 H1) (it : ItRel X J items P S1 H1)
    (q : wSetL P g wt w vs ρ items [] h1 Rf) {Dl : Addr} (hD : H1 Dl = none)
    (hQ : ∀ acc h' n S' H', Rf acc h' → HRel X.K X.mg S' h' H' → Ext S1 H1 S' H' → Apart S' H' Dl (SetO X.w Dl (memI acc) n) → Q (.ref Dl) (upd H' Dl (.set (memI acc) n))) :
    ∃ Wm : Nat → Nat → Hp → Prop, (∃ m, Wm 0 m (upd H1 Dl (SetO X.w Dl (fun _ => false) 0))) ∧ ∀ i m H, Wm i m H →
      (J.stop i H ∧ ∃ S n, H Dl = some (SetO X.w Dl S n) ∧ Q (.ref Dl) (upd H Dl (.set S n))) ∨ (J.go i H ∧ ∃ Nx : Hp → Prop, (∀ H', Nx H' → ∃ m', m' < m ∧ Wm (i + 1) m' H') ∧ ∀ x H', J.yld i H x H' → tWGc X is g x (wipe σ vs) H' fun σ2 H2 => wipe σ2 vs = wipe σ vs ∧ tWT X WF wt σ2 H2 fun b H3 =>
        if b = true then tW X WF w σ2 H3 fun y H4 => ∃ (c : Int) (S : Int → Bool) (n : Nat), y = .int c ∧ H4 Dl = some (SetO X.w Dl S n) ∧ n + 1 < scanBound ∧ Nx (upd H4 Dl (SetO X.w Dl (fun j => S j || decide (j = c)) (if S c = true then n else n + 1))) else Nx H3) := by
  refine ⟨fun i m H => m = items.length - i ∧ i ≤ items.length ∧ ∃ S' h' acc n, HRel X.K X.mg S' h' H ∧ Ext S1 H1 S' H ∧ Apart S' H Dl (SetO X.w Dl (memI acc) n) ∧ n ≤ acc.length ∧ wSetL P g wt w vs ρ (items.drop i) acc h' Rf, ?_, ?_⟩
  · have gn : S1.G Dl = none := by
      cases z : S1.G Dl with
      | none => rfl
      | some u => have := R1.g Dl u z; rw [hD] at this; cases this
    have nc : ∀ n, n < S1.k → S1.m n ≠ Dl := fun n hn z => by
      obtain ⟨o, q⟩ := R1.lv n hn
      rw [z, hD] at q; cases q
    obtain ⟨R2, E2⟩ := R1.other (o := SetO X.w Dl (fun _ => false) 0) hD
    exact ⟨_, rfl, Nat.zero_le _, S1, h1, [], 0, R2, E2, ⟨upd_same, nc, gn, fun _ z => nomatch z⟩, Nat.le_refl _, by simpa using q⟩
  · rintro i m H ⟨rfl, hle, S2, h2, acc, n, R2, E2, ap, hn, q2⟩
    by_cases hlt : i < items.length
    · have hd : items.drop i = items[i] :: items.drop (i + 1) := List.drop_eq_getElem_cons hlt
      rw [hd] at q2
      obtain ⟨hP, q2⟩ := q2
      obtain ⟨go, _⟩ := it i S2 h2 H E2 R2 hP
      obtain ⟨go, yl⟩ := go items[i] (List.getElem?_eq_getElem hlt)
      refine .inr ⟨go, fun H => ∃ S' h' acc n, HRel X.K X.mg S' h' H ∧ Ext S1 H1 S' H ∧ Apart S' H Dl (SetO X.w Dl (memI acc) n) ∧ n ≤ acc.length ∧ wSetL P g wt w vs ρ (items.drop (i + 1)) acc h' Rf, fun H' r => ⟨_, by omega, rfl, hlt, r⟩, fun x H3 y => ?_⟩
      obtain ⟨S3, E3, R3, rx⟩ := yl x H3 y
      have E13 := E2.trans E3
      refine ⟨S3, wipeT ρ vs, h2, items[i], _, (ar.mono E13.sub).wipe vs, R3, rx, q2, fun ρ4 h4 q4 S4 σ4 H4 E4 R4 a4 sb => ⟨?_, ?_⟩⟩
      · rw [sb.wipe hv]
        exact wipe_wipe σ vs
      refine ⟨S4, ρ4, h4, _, _, a4, R4, q4, fun k h5 q5 S5 H5 E5 R5 => ?_, noX⟩
      have E15 := (E13.trans E4).trans E5
      have F15 := (E3.trans E4).trans E5
      have ap5 := ap.go F15
      cases k with
      | false => exact iteF ⟨S5, h5, acc, n, R5, E15, ap5, hn, by simpa using q5⟩
      | true =>
        refine iteT ⟨S5, ρ4, h5, _, _, a4.mono E5.sub, R5, by simpa using q5, fun t h6 q6 S6 v H6 E6 R6 r6 => ?_, noX⟩
        have ap6 := ap5.go E6
        obtain ⟨c, rfl, hl, q7⟩ := q6
        simp only [RelT] at r6
        obtain ⟨R7, ap7⟩ := R6.apart (u := SetO X.w Dl (fun j => memI acc j || decide (j = c)) (if memI acc c = true then n else n + 1)) ap6
        refine ⟨c, memI acc, n, r6, ap6.at', Nat.lt_of_le_of_lt (Nat.succ_le_succ hn) (Nat.lt_of_le_of_lt (Nat.succ_le_of_lt hl) (by decide)), S6, h6, acc ++ [c], _, R7, (E15.trans E6).apart hD, by rw [memI_app]; exact ap7, ?_, q7⟩
        rw [List.length_append, List.length_singleton]
        split <;> omega
    · have hl : i = items.length := by omega
      subst hl
      rw [List.drop_length] at q2
      obtain ⟨hP, q2⟩ := q2
      obtain ⟨_, stop⟩ := it items.length S2 h2 H E2 R2 hP
      exact .inl ⟨stop (Nat.le_refl _), memI acc, n, ap.at', hQ acc h2 n S2 H q2 R2 E2 ap⟩
theorem tW_setI (hv : ∀ i ∈ is, i ∈ vs) {Q : VK} (q : tW X W (wSetI wi g wt w vs) σ H Q) : tSi X.w (tWI X W wi) (tWGc X is g) (tWT X WF wt) (tW X WF w) vs σ H Q := by
  obtain ⟨S, ρ, h, R, RX, ar, hr, hw, hR, hX⟩ := q
  refine ⟨S, ρ, h, _, RX, ar, hr, hw, fun items P h1 q1 S1 H1 J E1 R1 it Dl hD => ?_, hX⟩
  refine lsi_sound hv (ar.mono E1.sub) R1 it q1 hD fun acc h' n S' H' rf r e ap => ?_
  obtain ⟨R2, ap2⟩ := r.apart (u := .set (memI acc) n) ap
  obtain ⟨R3, E3, sb⟩ := R2.adopt ap2 (e.apart hD) hD
  exact hR _ h' rf _ _ _ (E1.trans E3) R3 (by simp only [RelT]; exact ⟨Dl, n, rfl, upd_same⟩)
variable {own : List (PySem.Str × Nat)}
theorem s_setSetI (i : Nat) {y : PySem.Str} {py : Pos} (own : List (PySem.Str × Nat)) (hN : X.N.Nodup) (hi : SI X W tg iter wi) (hg : Blk X scope fun Y => SGc Y tg is g) (ht : Blk X scope fun Y => SCs Y ifs wt) (he : Blk X scope fun Y => SE Y WF elt w)
    (hy : X.N[i]? = some y := by rfl) (hyl : X.env.scope.names.lookup y = some .local := by rfl) (hsw : swapsWith (.SetComp elt [⟨tg, iter, ifs, 0⟩] scope pos) (some (.Name y py)) spos.line X.env = pure true := by exact sw_trueS rfl rfl rfl (by decide +kernel))
    (ok : BlkOk X.N X.env.scope scope own := by exact blkOk_by (by kernel_rfl)) (hv : ∀ i ∈ is, i ∈ own.map (·.2) := by decide) (hc : X.calm = true := by rfl) (hs : ∀ x, foldedSetIterable iter X.env x = pure x := by intro _; rfl) :
    SS X W (.Assign [.Name y py] (.SetComp elt [⟨tg, iter, ifs, 0⟩] scope pos) spos) (wAsg (wSetI wi g wt w (own.map (·.2))) (gNm i)) := PS.imp (ps_setSi hc hN hy hyl hsw hi ok hg ht he hs) fun D σ H ⟨S, ρ, h, E, ar, hr, hw, k⟩ => by
  refine tW_setI hv ⟨S, ρ, h, _, _, ar, hr, hw, fun t h1 q1 S1 u H1 E1 R1 rx => ?_, k.xok ar⟩
  exact k.nx _ h1 q1 S1 _ H1 E1 R1 ((ar.mono E1.sub).set i rx)
theorem se_setI (own : List (PySem.Str × Nat)) (hN : X.N.Nodup) (hi : SI X W tg iter wi) (hg : Blk X scope fun Y => SGc Y tg is g) (ht : Blk X scope fun Y => SCs Y ifs wt) (he : Blk X scope fun Y => SE Y WF elt w)
    (ok : BlkOk X.N X.env.scope scope own := by exact blkOk_by (by kernel_rfl)) (hv : ∀ i ∈ is, i ∈ own.map (·.2) := by decide) (hc : X.calm = true := by rfl) (hs : ∀ x, foldedSetIterable iter X.env x = pure x := by intro _; rfl) :
    SE X W (.SetComp elt [⟨tg, iter, ifs, 0⟩] scope pos) (wSetI wi g wt w (own.map (·.2))) := PE.imp (pe_si hc hN hi ok hg ht he hs) fun _ _ _ q => tW_setI hv q
def opNotInI : Op2 := fun _ x y => match x, y with
  | .int k, .fst f => some (.bl (!f k))
  | _, _ => none
theorem o_notInI : OpR X (compareOp .NotIn) (rO X.K X.mg opNotInI) := by
  refine OpR.imp or_setNotIn fun x y H Q q => ?_
  obtain ⟨S, h, t, t', z, hr, rx, ry, e, q⟩ := q
  unfold opNotInI at e
  split at e
  · cases e
    simp only [RelT] at rx ry
    obtain ⟨a, n, rfl, hG⟩ := ry
    exact ⟨_, a, _, n, rx, rfl, hr.g _ _ hG, q S _ H (Ext.refl S H) hr (by simp [RelT])⟩
  · cases e
end
end TL

namespace TL
open PySem PySem.Spec PyProof.Rows L2
theorem fnG_false {P : Program} {w : World} {K : PySem.W.Frag} {mg : Str → Option Value} {base : Heap} {k : Nat} {f : Addr} {fd : FuncData} {ps : List Str} : FnG P w K mg base k f fd ps (spA K mg fun _ _ _ _ => False) :=
  ⟨fun vs H Q E ⟨_, _, _, _, _, _, _, q, _⟩ => q.elim, fun A outer s H args us vs Q E _ _ _ _ _ ⟨_, _, _, _, _, _, _, q, _⟩ => q.elim⟩
/-- the promise of a call that a def makes to itself -/
def spB (sp : Nat → ASp) : Nat → ASp
  | 0 => fun _ _ _ _ => False
  | d + 1 => sp d
theorem callee_rec {P : Program} {w : World} {K : PySem.W.Frag} {mg : Str → Option Value} {base : Heap} {x : Str} {k : Nat} {f : Addr} {fd : FuncData} {ps : List Str} {sp : Nat → ASp} (hm : mg x = some (.ref f)) (hk : PySem.W.keepIn K (.ref f) = true) (hb : Binds K fd ps [])
    (go : ∀ d, Callee P w K mg base x (k + d) ps (spB sp d) → FnG P w K mg base (k + d + 1) f fd ps (spA K mg (sp d))) : ∀ d, FnG P w K mg base (k + d + 1) f fd ps (spA K mg (sp d))
  | 0 => go 0 ⟨f, fd, fnG_false, hm, hk, hb⟩
  | d + 1 => go (d + 1) ⟨f, fd, callee_rec hm hk hb go d, hm, hk, hb⟩
section
variable {X : Cx}
def opEqNil (neg : Bool) : Op2 := fun _ x y => match x, y with
  | .tup xs, .tup [] => some (.bl (if neg then !xs.isEmpty else xs.isEmpty))
  | _, _ => none
theorem vals_len : ∀ {vs : List V} {us : List Value}, Vals vs us → vs.length = us.length := fun h => h.length
theorem o_eqNil (hu : X.A.units + 64 < cLine) : OpR X (compareOp .Eq) (rO X.K X.mg (opEqNil false)) := by
  intro pins s σ H x y v u Q I rx ry ⟨S, h, t, t', z, hr, rt, rt', e, q⟩
  unfold opEqNil at e
  split at e
  · rename_i xs
    cases e
    simp only [RelT] at rt rt'
    obtain ⟨a, us, rfl, hG, rs⟩ := rt
    obtain ⟨b, vs, rfl, hG2, rs2⟩ := rt'
    simp only [RelTs] at rs2
    subst rs2
    cases (show v = Value.ref a from rx)
    cases (show u = Value.ref b from ry)
    obtain ⟨_, its, rr, p⟩ := (show ObjOk X.prog X.w H s.heap a (.tup us) from I.hok a _ (hr.g _ _ hG))
    obtain ⟨_, its2, rr2, p2⟩ := (show ObjOk X.prog X.w H s.heap b (.tup []) from I.hok b _ (hr.g _ _ hG2))
    cases rr2
    have hl : its.length = xs.length := by rw [rs.length, rr.length]
    refine SeqAt.eq_tupleAt (e := fun _ => true) p p2 (by omega) (fun j h1 h2 => by simp at h2) ?_
    have e2 : (((List.range (min its.toArray.size ([] : List Value).toArray.size)).all fun _ => true) && its.toArray.size == ([] : List Value).toArray.size) = xs.isEmpty := by
      simp
      cases xs with
      | nil => simp at hl; simp [hl]
      | cons x l => simp at hl; cases its with
        | nil => simp at hl
        | cons y m => simp
    rw [e2]
    exact ⟨.bl xs.isEmpty, H, I, rfl, q S _ H (Ext.refl S H) hr (by simp [RelT])⟩
  · cases e
/-- l != [] of a list of anything -/
def opNeNilL : Op2 := fun _ x y => match x, y with
  | .lst xs, .lst [] => some (.bl (!xs.isEmpty))
  | _, _ => none
theorem o_neNilL (hu : X.A.units + 64 < cLine) : OpR X (compareOp .NotEq) (rO X.K X.mg opNeNilL) := by
  intro pins s σ H x y v u Q I rx ry ⟨S, h, t, t', z, hr, rt, rt', e, q⟩
  unfold opNeNilL at e
  split at e
  · rename_i xs
    cases e
    simp only [RelT] at rt rt'
    obtain ⟨a, us, rfl, hG, rs⟩ := rt
    obtain ⟨b, vs, rfl, hG2, rs2⟩ := rt'
    simp only [RelTs] at rs2
    subst rs2
    cases (show v = Value.ref a from rx)
    cases (show u = Value.ref b from ry)
    obtain ⟨its, rr, p, _⟩ := I.list (.inl (rd_mono hr.g hG))
    obtain ⟨its2, rr2, p2, _⟩ := I.list (.inl (rd_mono hr.g hG2))
    cases rr2
    have hl : its.length = xs.length := by rw [rs.length, rr.length]
    have fin : ∀ k : Bool, k = !xs.isEmpty → EP X pins σ Q (.bool k) s := fun k ek => by
      subst ek
      exact ⟨.bl _, H, I, rfl, q S _ H (Ext.refl S H) hr (by simp [RelT])⟩
    cases hx : xs with
    | nil =>
      rw [hx] at hl fin
      have hi : its = [] := List.eq_nil_of_length_eq_zero hl
      subst hi
      exact PySem.SeqAt.RcNeAt.lists (e := fun _ => true) p.isList p2.isList rfl (by omega) (fun j h1 h2 => by simp at h1) _ _ _ _ (fin _ rfl)
    | cons x l =>
      rw [hx] at hl fin
      exact PySem.SeqAt.RcNeAt.lists_lengths p.isList p2.isList (by simp [hl]) (by omega) _ _ _ _ (fin _ rfl)
  · cases e
end
end TL

namespace TL
open PySem PySem.Spec PyProof.Rows L2
def toE : Nat → T → Option PyData
  | 0, _ => none
  | _ + 1, .non => some .none
  | _ + 1, .bl b => some (.bool b)
  | _ + 1, .int i => some (.int i)
  | _ + 1, .str s => some (.str s)
  | n + 1, .tup xs => (xs.mapM (toE n)).map .tuple
  | n + 1, .lst xs => (xs.mapM (toE n)).map .list
  | _ + 1, .edi => some (.dict [])
  | _, _ => none
/-- a value that repr tells -/
structure RP (P : Program) (w : World) (h : Heap) (u : Value) (d : PyData) : Prop where
  rd : ∃ as, Reads h u d as
  rk : d.showable = true → d.shown.length ≤ sizeLine → ∃ bs, ReadAtMost h d.depth bs ∧ ReprK P w bs h d.depth u d.shown
  top : d.showable = true → d.shown.length ≤ sizeLine → ∀ (A : Around) (E : Value → Shared → Prop) (s : Shared) (Q : Value → Shared → Prop), A.guards = some [] → A.units + (d.depth + 1) < cLine → (∀ b o, h.get? b = some o → s.heap.get? b = some o) →
    (∀ h' u tk, (∀ b o, s.heap.get? b = some o → h'.get? b = some o) → Q (.str d.shown u) { s with heap := h', toks := tk }) → wpAny (model P w) A (call (.builtin "repr") [u]) Q E s
structure RPs (P : Program) (w : World) (h : Heap) (us : List Value) (ds : List PyData) : Prop where
  rd : ∃ as, ReadsAll h us ds as
  rk : PyData.showableAll ds = true → (∀ t ∈ PyData.shownAll ds, t.length ≤ sizeLine) → ∃ bs, ReadAtMost h (PyData.depthAll ds) bs ∧ ReprAllK P w bs h (PyData.depthAll ds) us (PyData.shownAll ds)
section
variable {P : Program} {w : World} {h : Heap}
theorem rps_nil : RPs P w h [] [] := ⟨⟨[], .nil⟩, fun _ _ => ⟨[], (fun _ h => nomatch h), by simp only [PyData.shownAll]; exact .nil⟩⟩
theorem rps_cons {u : Value} {d : PyData} {us : List Value} {ds : List PyData} (r : RP P w h u d) (rs : RPs P w h us ds) : RPs P w h (u :: us) (d :: ds) := by
  obtain ⟨as, r1⟩ := r.rd
  obtain ⟨bs, r2⟩ := rs.rd
  refine ⟨⟨as ++ bs, .cons r1 r2⟩, fun hs hz => ?_⟩
  have hs' : d.showable = true ∧ PyData.showableAll ds = true := by simpa [PyData.showableAll] using hs
  obtain ⟨b1, hb1, k1⟩ := r.rk hs'.1 (hz _ (by simp only [PyData.shownAll]; exact List.mem_cons_self ..))
  obtain ⟨b2, hb2, k2⟩ := rs.rk hs'.2 (fun t ht => hz t (by simp only [PyData.shownAll]; exact List.mem_cons_of_mem _ ht))
  refine ⟨b1 ++ b2, ?_, ?_⟩
  · intro b hm
    simp only [PyData.depthAll]
    rcases List.mem_append.mp hm with hm | hm
    · obtain ⟨d', as', r', hd'⟩ := hb1 b hm
      exact ⟨d', as', r', Nat.le_trans hd' (Nat.le_max_left _ _)⟩
    · obtain ⟨d', as', r', hd'⟩ := hb2 b hm
      exact ⟨d', as', r', Nat.le_trans hd' (Nat.le_max_right _ _)⟩
  · simp only [PyData.depthAll, PyData.shownAll]
    exact .cons ((k1.more fun b hb => List.mem_append_left _ hb).level_le (Nat.le_max_left _ _)) (k2.more_le (fun b hb => List.mem_append_right _ hb) (Nat.le_max_right _ _))
theorem rp_tuple {a : Addr} {o : Obj} {vs : Array Value} {n : Nat} {xs : List PyData} (h1 : h.get? a = some o) (h2 : o.cls = .type "tuple") (h3 : o.data = .seq vs n) (rs : RPs P w h vs.toList xs) : RP P w h (.ref a) (.tuple xs) := by
  obtain ⟨as, h4⟩ := rs.rd
  have r : Reads h (.ref a) (.tuple xs) _ := .tuple h1 h2 h3 h4
  refine ⟨⟨as, r⟩, fun hs hz => ?_, fun hs hz A E s Q hg hu hk0 hQ => ?_⟩
  · have hz' : (tupleText (PyData.shownAll xs)).length ≤ sizeLine := by simpa only [PyData.shown] using hz
    obtain ⟨bs, hb, hk⟩ := rs.rk (by simpa [PyData.showable] using hs) (fun t ht => Nat.le_trans (tupleText_mem_le ht) hz')
    have hna : a ∉ bs := not_mem_of_deeper r (by simp only [PyData.depth]; omega) hb
    refine ⟨a :: bs, ReadAtMost.cons r (by simp only [PyData.depth]; omega) hb, ?_⟩
    simp only [PyData.depth, PyData.shown]
    exact ReprK.tuple h1 h2 h3 hna hk
  · have hz' : (tupleText (PyData.shownAll xs)).length ≤ sizeLine := by simpa only [PyData.shown] using hz
    obtain ⟨bs, hb, hk⟩ := rs.rk (by simpa [PyData.showable] using hs) (fun t ht => Nat.le_trans (tupleText_mem_le ht) hz')
    have hna : a ∉ bs := not_mem_of_deeper r (by simp only [PyData.depth]; omega) hb
    simp only [PyData.depth] at hu
    simp only [PyData.shown] at hQ
    exact call_repr_slot (by omega) ⟨o, hk0 _ _ h1, h2⟩ F.slot_tuple_repr (call_tuple_reprK h1 h2 h3 hna hk hg (fun b _ => Clear.nil b) (by show A.units + 1 + (_ + 1) < cLine; omega) hk0 (fun h' u tk k => ⟨_, _, rfl, hQ h' u tk k⟩) hz')
theorem rp_list {a : Addr} {o : Obj} {vs : Array Value} {n : Nat} {xs : List PyData} (h1 : h.get? a = some o) (h2 : o.cls = .type "list") (h3 : o.data = .seq vs n) (rs : RPs P w h vs.toList xs) : RP P w h (.ref a) (.list xs) := by
  obtain ⟨as, h4⟩ := rs.rd
  have r : Reads h (.ref a) (.list xs) _ := .list h1 h2 h3 h4
  obtain ⟨l⟩ := vs
  refine ⟨⟨_, r⟩, fun hs hz => ?_, fun hs hz A E s Q hg hu hk0 hQ => ?_⟩
  · have hz' : (listText (PyData.shownAll xs)).length ≤ sizeLine := by simpa only [PyData.shown] using hz
    obtain ⟨bs, hb, hk⟩ := rs.rk (by simpa [PyData.showable] using hs) (fun t ht => Nat.le_trans (listText_mem_le ht) hz')
    have hna : a ∉ bs := not_mem_of_deeper r (by simp only [PyData.depth]; omega) hb
    refine ⟨a :: bs, ReadAtMost.cons r (by simp only [PyData.depth]; omega) hb, ?_⟩
    simp only [PyData.depth, PyData.shown]
    cases l with
    | nil =>
      have h4' : ReadsAll h [] xs _ := h4
      cases h4'
      simp only [PyData.shownAll, listText_nil]
      exact ReprK.listEmpty h1 h2 h3
    | cons x l => exact ReprK.list h1 h2 h3 hna (by simpa using hk.length_eq) (fun i y e => hk.item i y (by simpa using e))
  · have hz' : (listText (PyData.shownAll xs)).length ≤ sizeLine := by simpa only [PyData.shown] using hz
    obtain ⟨bs, hb, hk⟩ := rs.rk (by simpa [PyData.showable] using hs) (fun t ht => Nat.le_trans (listText_mem_le ht) hz')
    have hna : a ∉ bs := not_mem_of_deeper r (by simp only [PyData.depth]; omega) hb
    simp only [PyData.depth] at hu
    simp only [PyData.shown] at hQ
    refine call_repr_slot (by omega) ⟨o, hk0 _ _ h1, h2⟩ F.slot_list_repr.toG ?_
    cases l with
    | nil =>
      have h4' : ReadsAll h [] xs _ := h4
      cases h4'
      simp only [PyData.shownAll, listText_nil] at hQ
      exact call_list_repr_empty ⟨o, hk0 _ _ h1, h2⟩ (hk0 _ _ h1) h3 ⟨_, _, rfl, hQ s.heap _ _ fun _ _ e => e⟩
    | cons x l =>
      exact call_list_reprK h1 h2 h3 hna (by simpa using hk.length_eq) (fun i y e => hk.item i y (by simpa using e)) hg (fun b _ => Clear.nil b) (by show A.units + 1 + (_ + 1) < cLine; omega) hk0 (fun h' u tk k => ⟨_, _, rfl, hQ h' u tk k⟩) hz'
theorem rp_edict {a : Addr} {o : Obj} {es : Array DictEntry} {n : Nat} (h1 : h.get? a = some o) (h2 : o.cls = .type "dict") (h3 : o.data = .dict es n) (he : es.toList = []) (hsys : (a == sysModules) = false) : RP P w h (.ref a) (.dict []) := by
  have r : Reads h (.ref a) (.dict []) (a :: [] ++ []) := .dict h1 h2 h3 (by rw [he]; exact .nil) (by rw [he]; exact .nil)
  have hE : ReprEntriesK P w [] h (PyData.depthKv []) es.toList (PyData.shownKv []) := by rw [he]; exact .nil
  refine ⟨⟨_, r⟩, fun hs hz => ⟨[a], ReadAtMost.cons (n := 0) r (by simp only [PyData.depth]; omega) (fun _ h => nomatch h), ?_⟩, fun hs hz A E s Q hg hu hk0 hQ => ?_⟩
  · simp only [PyData.depth, PyData.shown]
    exact ReprK.dict h1 h2 h3 hsys (by simp) hE
  · simp only [PyData.depth] at hu
    simp only [PyData.shown] at hQ
    refine call_repr_slot (by omega) ⟨o, hk0 _ _ h1, h2⟩ F.slot_dict_repr ?_
    exact call_dict_reprK h1 h2 h3 hsys (by simp) hE hg (fun b _ => Clear.nil b) (by show A.units + 1 + (_ + 1) < cLine; omega) hk0 (fun h' u tk k => ⟨_, _, rfl, hQ h' u tk k⟩) (by simpa only [PyData.shown] using hz)
end
section
variable {X : Cx} {S : AS} {H : Hp} {h : AH} {pins : List (Addr × Obj)} {s : Shared} {σ : L2.St}
theorem rps_of (I : Inv X pins σ H s) (n : Nat) (ih : ∀ (t : T) (v : V) (u : Value) (d : PyData), RelT X.K S t v → RelV v u → toE n t = some d → RP X.prog X.w s.heap u d) :
    ∀ (ts : List T) (vs : List V) (us : List Value) (ds : List PyData), RelTs X.K S ts vs → Vals vs us → ts.mapM (toE n) = some ds → RPs X.prog X.w s.heap us ds
  | [], vs, us, ds, r, rv, e => by
    simp only [RelTs] at r; subst r
    cases rv
    simp at e; subst e
    exact rps_nil
  | t :: ts, vs, us, ds, r, rv, e => by
    simp only [RelTs] at r
    obtain ⟨v, r', rfl, r1, r2⟩ := r
    cases rv with
    | cons q1 q2 =>
      rw [List.mapM_cons] at e
      cases e1 : toE n t with
      | none => rw [e1] at e; cases e
      | some d =>
        cases e2 : ts.mapM (toE n) with
        | none => rw [e1, e2] at e; cases e
        | some ds' =>
          rw [e1, e2] at e
          cases e
          exact rps_cons (ih t v _ d r1 q1 e1) (rps_of I n ih ts _ _ ds' r2 q2 e2)
theorem rp_of (I : Inv X pins σ H s) (hr : HRel X.K X.mg S h H) : ∀ (n : Nat) (t : T) (v : V) (u : Value) (d : PyData), RelT X.K S t v → RelV v u → toE n t = some d → RP X.prog X.w s.heap u d
  | 0, _, _, _, _, _, _, e => by cases e
  | n + 1, t, v, u, d, r, rv, e => by
    cases t with
    | non =>
      simp only [RelT] at r; subst r; cases e; cases (show u = Value.none from rv)
      refine ⟨⟨[], .none⟩, fun _ _ => ⟨[], (fun _ h => nomatch h), by simp only [PyData.shown]; exact .of_is ReprIs.none _ _ _⟩, fun _ _ A E s Q _ _ _ hQ => ?_⟩
      simp only [PyData.shown] at hQ
      exact PySem.P.repr_of_none (hQ s.heap _ _ fun _ _ e => e)
    | bl b =>
      simp only [RelT] at r; subst r; cases e; cases (show u = Value.bool b from rv)
      refine ⟨⟨[], .bool b⟩, fun _ _ => ⟨[], (fun _ h => nomatch h), by simp only [PyData.shown]; exact .of_is (ReprIs.bool b) _ _ _⟩, fun _ _ A E s Q _ _ _ hQ => ?_⟩
      simp only [PyData.shown] at hQ
      exact PySem.P.repr_of_bool (hQ s.heap _ _ fun _ _ e => e)
    | int i =>
      simp only [RelT] at r; subst r; cases e; obtain ⟨t, rfl⟩ := (show ∃ t, u = Value.int i t from rv)
      refine ⟨⟨[], .int i t⟩, fun hs _ => ⟨[], (fun _ h => nomatch h), by simp only [PyData.shown]; exact .of_is (ReprIs.int t (by simpa [PyData.showable] using hs)) _ _ _⟩, fun hs _ A E s Q _ _ _ hQ => ?_⟩
      simp only [PyData.shown] at hQ
      exact PySem.P.repr_of_int (by simpa [PyData.showable] using hs) (hQ s.heap _ _ fun _ _ e => e)
    | str x =>
      simp only [RelT] at r; subst r; cases e
      obtain ⟨t, rfl⟩ := (show ∃ t, u = Value.str x t from rv)
      refine ⟨⟨[], .str x t⟩, fun _ hz => ⟨[], (fun _ h => nomatch h), by simp only [PyData.shown]; exact .of_is (ReprIs.str x t (by simpa only [PyData.shown] using hz)) _ _ _⟩, fun _ hz A E s Q _ _ _ hQ => ?_⟩
      simp only [PyData.shown] at hQ hz
      exact PySem.P.repr_of_str (hQ s.heap _ _ fun _ _ e => e) hz
    | tup ts =>
      simp only [RelT] at r
      obtain ⟨a, us, rfl, q, rs⟩ := r
      simp only [toE] at e
      obtain ⟨ds, e2, rfl⟩ := Option.map_eq_some_iff.mp e
      cases (show u = Value.ref a from rv)
      obtain ⟨_, its, rr, o, h1, h2, m, h3⟩ := (show ObjOk X.prog X.w H s.heap a (.tup us) from I.hok a _ (hr.g _ _ q))
      exact rp_tuple h1 h2 h3 (by simpa using rps_of I n (fun t v u d r1 r2 e1 => rp_of I hr n t v u d r1 r2 e1) ts us its ds rs rr e2)
    | lst ts =>
      simp only [RelT] at r
      obtain ⟨a, us, rfl, q, rs⟩ := r
      simp only [toE] at e
      obtain ⟨ds, e2, rfl⟩ := Option.map_eq_some_iff.mp e
      cases (show u = Value.ref a from rv)
      have qH : Rd H a (.lst us) := rd_mono hr.g q
      obtain ⟨its, rr, p, _⟩ := I.list (.inl qH)
      obtain ⟨o, h1, h2, m, h3⟩ := p.isList
      exact rp_list h1 h2 h3 (by simpa using rps_of I n (fun t v u d r1 r2 e1 => rp_of I hr n t v u d r1 r2 e1) ts us its ds rs rr e2)
    | edi =>
      simp only [RelT] at r
      obtain ⟨a, rfl, q⟩ := r
      simp only [toE, Option.some.injEq] at e
      subst e
      cases (show u = Value.ref a from rv)
      obtain ⟨_, hs, vs, kv, o, es, ep, h1, h2, h3, h4, h5, h6⟩ := (show ObjOk X.prog X.w H s.heap a (.dK []) from I.hok a _ (hr.g _ _ q))
      cases kv
      have e0 : es.toList = [] := by
        cases hes : es.toList with
        | nil => rfl
        | cons x l => rw [hes] at h5; cases h5
      exact rp_edict h1 h2.1 h3 e0 hs
    | scr ts => cases e
    | ref m => cases e
    | fdt ks ts => cases e
    | fst f => cases e
    | kt d => cases e
    | fv d => cases e
    | ftp d => cases e
end
def opReprE : OpN := fun _ ts => match ts with
  | [t] => match toE deep t with
    | some d => if d.showable = true ∧ d.shown.length ≤ sizeLine ∧ d.depth ≤ 50 then some (.str d.shown) else none
    | none => none
  | _ => none
theorem c_reprE {X : Cx} (hg : X.A.guards = some []) (hu : X.A.units + 64 < cLine) : CallR X (.builtin "repr") (rN X.K X.mg opReprE) := by
  intro pins s σ H xs us Q I r ⟨S, h, ts, z, hr, rs, e, q⟩
  unfold opReprE at e
  split at e
  · obtain ⟨v, rfl, rv⟩ := rel1 rs
    cases r with
    | cons r r' =>
      cases r'
      split at e
      · rename_i u _ d q2
        split at e
        · rename_i hz
          cases e
          have rp := rp_of I hr _ _ _ _ _ rv r q2
          exact rp.top hz.1 hz.2.1 X.A _ s _ hg (by have := hz.2.2; omega) (fun _ _ e => e) fun h' u tk k => ⟨.str _, H, I.kept k, ⟨_, rfl⟩, q S _ H (Ext.refl S H) hr (by simp [RelT])⟩
        · cases e
      · cases e
  · cases e
end TL

namespace TL
open PySem PySem.Spec PyProof.Rows L2
section
variable {X : Cx} {W : WX} {σ : L2.St} {S S' : AS} {H H' : Hp} {a b c o e f : Expr} {wa wb wc wo wy wx : WEx} {pos p1 p2 p3 apos cpos : Pos}
def wDict3 (k1 k2 k3 : Str) (wa wb wc : WEx) : WEx := fun ρ h R RX => wa ρ (h ++ [.dct []]) (fun x h1 => wb ρ h1 (fun y h2 => wc ρ h2 (fun z h3 => h3[h.length]? = some (.dct []) ∧ R (.ref h.length) (h3.set h.length (.dct [(.inr k1, x), (.inr k2, y), (.inr k3, z)]))) RX) RX) RX
theorem se_dict3 {k1 k2 k3 : Str} {j1 j2 j3 : Nat} (ha : SE X W a wa) (hb : SE X W b wb) (hc : SE X W c wc) (h12 : k1 ≠ k2 := by decide) (h13 : k1 ≠ k3 := by decide) (h23 : k2 ≠ k3 := by decide) :
    SE X W (.Dict [some (.Constant (.str k1) j1 p1), some (.Constant (.str k2) j2 p2), some (.Constant (.str k3) j3 p3)] [a, b, c] pos) (wDict3 k1 k2 k3 wa wb wc) :=
  PE.imp (pe_disp (pps_cons pe_str ha (pps_cons pe_str hb (pps_cons pe_str hc pps_nil))) rfl rfl (fun z => by cases z) (by show 3 ≤ 15; decide)) fun σ H Q ⟨S, ρ, h, R, RX, ar, hr, hw, hR, hX⟩ p hp => by
    obtain ⟨R0, E0⟩ := hr.cell (o := .dK []) (c := .dct []) hp ⟨[], rfl, upd_same, .nil⟩
    show tW X W wa σ (upd H p (.dK [])) _
    refine ⟨S.more p, ρ, h ++ [Cell.dct []], _, RX, ar.mono E0.sub, R0, hw, fun x h1 q1 S1 u H1 E1 R1 rx => ?_, hX.mono E0⟩
    show tW X W wb σ H1 _
    refine ⟨S1, ρ, h1, _, RX, ar.mono (E0.trans E1).sub, R1, q1, fun y h2 q2 S2 u2 H2 E2 R2 ry => ?_, hX.mono (E0.trans E1)⟩
    show tW X W wc σ H2 _
    refine ⟨S2, ρ, h2, _, RX, ar.mono ((E0.trans E1).trans E2).sub, R2, q2, fun z h3 q3 S3 u3 H3 E3 R3 rz => ?_, hX.mono ((E0.trans E1).trans E2)⟩
    obtain ⟨hc, q⟩ := q3
    have E := ((E0.trans E1).trans E2).trans E3
    have rp : RelT X.K (S.more p) (.ref h.length) (.ref p) := by simp only [RelT]; exact ⟨by show h.length < S.k + 1; rw [hr.k]; exact Nat.lt_succ_self _, by rw [← hr.k, AS.more_at]⟩
    have rp3 := rp.mono ((E1.trans E2).trans E3).sub
    have rp4 := rp3
    simp only [RelT] at rp4
    have ep : p = S3.m h.length := by have := rp4.2; injection this
    have rc := R3.c _ _ hc
    obtain ⟨us, hl, hH, rs⟩ := rc
    have eu : us = [] := by cases us with | nil => rfl | cons _ _ => simp at hl
    subst eu
    refine ⟨by rw [ep]; exact hH, [(.inr k1, u), (.inr k2, u2), (.inr k3, u3)], rfl, by show 3 ≤ 15; decide, ?_⟩
    have em : mergeK ([] : List (Key × V)) [(.inr k1, u), (.inr k2, u2), (.inr k3, u3)] = [(.inr k1, u), (.inr k2, u2), (.inr k3, u3)] := by
      simp [mergeK, putK, h12, h13, h23]
    rw [em, ep]
    obtain ⟨R', E'⟩ := R3.write (n := h.length) (o := .dK [(.inr k1, u), (.inr k2, u2), (.inr k3, u3)]) (c := .dct [(.inr k1, x), (.inr k2, y), (.inr k3, z)]) hc (fun z => by cases z)
      ⟨[u, u2, u3], rfl, by rw [upd_same]; rfl, .cons (rx.mono (E2.trans E3).sub) (.cons (ry.mono E3.sub) (.cons rz .nil))⟩
    exact hR _ _ q _ _ _ (E.trans E') R' (by rw [← ep]; exact rp3.mono E'.sub)
def wDGet2 (wo wy wx : WEx) : WEx := fun ρ h R RX => wo ρ h (fun o h1 => (∃ n kvs, o = .ref n ∧ h1[n]? = some (.dct kvs)) ∧ wy ρ h1 (fun y h2 => wx ρ h2 (fun z h3 => ∃ n kvs k, o = .ref n ∧ h3[n]? = some (.dct kvs) ∧ keyOf y = some k ∧ R ((aget kvs k).getD z) h3) RX) RX) RX
theorem se_dget2 (hu : X.A.units + 1 < cLine) (ho : SE X W o wo) (he : SE X W e wy) (hf : SE X W f wx) (m : M2 X o "get" apos e f cpos := by exact ⟨rfl, rfl, rfl, rfl⟩) :
    SE X W (.Call (.Attribute o "get" apos) [e, f] [] cpos) (wDGet2 wo wy wx) :=
  PE.imp (pe_dget2 hu ho he hf m) fun σ H Q ⟨S, ρ, h, R, RX, ar, hr, hw, hR, hX⟩ => by
    refine ⟨S, ρ, h, _, RX, ar, hr, hw, fun x h1 q1 S1 u H1 E1 R1 rx => ?_, hX⟩
    obtain ⟨⟨n, kvs, rfl, hc⟩, q1⟩ := q1
    have rx1 := rx
    simp only [RelT] at rx1
    obtain ⟨hk, rfl⟩ := rx1
    obtain ⟨us, hl, hH, rs⟩ := R1.c _ _ hc
    refine ⟨S1.m n, rfl, .inl ⟨_, .inl hH⟩, ?_⟩
    refine ⟨S1, ρ, h1, _, RX, ar.mono E1.sub, R1, q1, fun y h2 q2 S2 u2 H2 E2 R2 ry => ?_, hX.mono E1⟩
    refine ⟨S2, ρ, h2, _, RX, ar.mono (E1.trans E2).sub, R2, q2, fun z h3 q3 S3 u3 H3 E3 R3 rz => ?_, hX.mono (E1.trans E2)⟩
    obtain ⟨n', kvs3, k, en, hc3, ek, q⟩ := q3
    cases en
    obtain ⟨us3, hl3, hH3, rs3⟩ := R3.c _ _ hc3
    have rx3 := rx.mono (E2.trans E3).sub
    simp only [RelT] at rx3
    have em : S1.m n = S3.m n := by have := rx3.2; injection this
    have g := aget_rel k hl3 rs3
    have ey := key_rel (ry.mono E3.sub) ek
    refine ⟨valV ((kvs3.map (·.1)).zip us3) k, ?_, ?_⟩
    · rw [em, ey]; exact DGet.k hH3
    · refine hR _ _ q S3 _ H3 ((E1.trans E2).trans E3) R3 ?_
      cases hg : aget kvs3 k with
      | none => rw [hg] at g; rw [g]; exact rz
      | some t => rw [hg] at g; obtain ⟨v', g1, g2⟩ := g; rw [g1]; exact g2
end
section
variable {X : Cx}
def opEqNilL : Op2 := fun _ x y => match x, y with
  | .lst xs, .lst [] => some (.bl xs.isEmpty)
  | _, _ => none
theorem o_eqNilL (hu : X.A.units + 64 < cLine) : OpR X (compareOp .Eq) (rO X.K X.mg opEqNilL) := by
  intro pins s σ H x y v u Q I rx ry ⟨S, h, t, t', z, hr, rt, rt', e, q⟩
  unfold opEqNilL at e
  split at e
  · rename_i xs
    cases e
    simp only [RelT] at rt rt'
    obtain ⟨a, us, rfl, hG, rs⟩ := rt
    obtain ⟨b, vs, rfl, hG2, rs2⟩ := rt'
    simp only [RelTs] at rs2
    subst rs2
    cases (show v = Value.ref a from rx)
    cases (show u = Value.ref b from ry)
    obtain ⟨its, rr, p, _⟩ := I.list (.inl (rd_mono hr.g hG))
    obtain ⟨its2, rr2, p2, _⟩ := I.list (.inl (rd_mono hr.g hG2))
    cases rr2
    have hl : its.length = xs.length := by rw [rs.length, rr.length]
    have fin : ∀ k : Bool, k = xs.isEmpty → EP X pins σ Q (.bool k) s := fun k ek => by
      subst ek
      exact ⟨.bl _, H, I, rfl, q S _ H (Ext.refl S H) hr (by simp [RelT])⟩
    cases hx : xs with
    | nil =>
      rw [hx] at hl fin
      have hi : its = [] := List.eq_nil_of_length_eq_zero hl
      subst hi
      exact PySem.SeqAt.RcAt.lists (e := fun _ => true) p.isList p2.isList rfl (by omega) (fun j h1 h2 => by simp at h1) _ _ _ _ (fin _ rfl)
    | cons x l =>
      rw [hx] at hl fin
      exact PySem.SeqAt.RcAt.lists_lengths p.isList p2.isList (by simp [hl]) (by omega) _ _ _ _ (fin _ rfl)
  · cases e
end
theorem eqNilL_f {h : AH} {xs : List T} : opEqNilL h (.lst xs) (.lst []) = some (.bl xs.isEmpty) := rfl
end TL

namespace PySem.SeqAt
open AutoSeq1 (wpAny_loadPart')
open MeetsSeq
theorem dict_eq_declines_str (l : Addr) (es : Array DictEntry) (n : Nat) (dd : Option Addr) (sl : Array (Option Value)) (b : Str) (u : Tok) :
    Meets (Builtin.«dict.__eq__» ⟨[.ref l, .str b u], []⟩) (fun _ R s => s.heap.get? l = some { cls := .type "dict", dict := dd, data := .dict es n, slots := sl } ∧ R (.ok (.ret .notImplemented)) s) :=
  .of_wp fun prog w A R s h => by obtain ⟨hp, g, d, tk, os⟩ := s; obtain ⟨hl, h⟩ := h; have f1 := F.sub_str_dict; wp_walk using wpAny_loadPart' hl; exact ⟨_, rfl, h⟩
theorem dict_ne_declines_str (l : Addr) (es : Array DictEntry) (n : Nat) (dd : Option Addr) (sl : Array (Option Value)) (b : Str) (u : Tok) :
    Meets (Builtin.«dict.__ne__» ⟨[.ref l, .str b u], []⟩) (fun _ R s => s.heap.get? l = some { cls := .type "dict", dict := dd, data := .dict es n, slots := sl } ∧ R (.ok (.ret .notImplemented)) s) :=
  .of_wp fun prog w A R s h => by obtain ⟨hp, g, d, tk, os⟩ := s; obtain ⟨hl, h⟩ := h; have f1 := F.sub_str_dict; wp_walk using wpAny_loadPart' hl; exact ⟨_, rfl, h⟩
theorem str_eq_declines_dict (b : Str) (u : Tok) (l : Addr) (c : Value) (es : Array DictEntry) (n : Nat) (dd : Option Addr) (sl : Array (Option Value)) :
    Meets (Builtin.«str.__eq__» ⟨[.str b u, .ref l], []⟩) (fun _ R s => s.heap.get? l = some { cls := c, dict := dd, data := .dict es n, slots := sl } ∧ R (.ok (.ret .notImplemented)) s) :=
  .of_wp fun prog w A R s h => by obtain ⟨hp, g, d, tk, os⟩ := s; obtain ⟨hl, h⟩ := h; wp_walk using wpAny_loadPart' hl, wpAny_load hl; exact ⟨_, rfl, h⟩
theorem str_ne_declines_dict (b : Str) (u : Tok) (l : Addr) (c : Value) (es : Array DictEntry) (n : Nat) (dd : Option Addr) (sl : Array (Option Value)) :
    Meets (Builtin.«str.__ne__» ⟨[.str b u, .ref l], []⟩) (fun _ R s => s.heap.get? l = some { cls := c, dict := dd, data := .dict es n, slots := sl } ∧ R (.ok (.ret .notImplemented)) s) :=
  .of_wp fun prog w A R s h => by obtain ⟨hp, g, d, tk, os⟩ := s; obtain ⟨hl, h⟩ := h; wp_walk using wpAny_loadPart' hl, wpAny_load hl; exact ⟨_, rfl, h⟩
theorem RcAt.dict_str {A : Around} {s : Shared} {l : Addr} {o : Obj} {es : Array DictEntry} {n : Nat} (b : Str) (u : Tok) (ho : s.heap.get? l = some o) (hc : o.cls = .type "dict") (hd : o.data = .dict es n) (hu : A.units < cLine) : RcAt A s (.ref l) (.str b u) false := fun prog w E Q h => by
  obtain ⟨cls, dd, data, sl⟩ := o
  simp only at hc hd
  subst hc hd
  exact rc_eq_decline_or (k := false) ⟨_, ho, rfl⟩ (typeIs_str s b u) (by decide) F.sub_str_dict F.slot_dict_eq F.slot_str_eq_refl
    (fun _ hq => call_meets F.slot_dict_eq ⟨_, ho, rfl⟩ F.entry_dict_eq (F.args_dict_eq_2 _ _) (dict_eq_declines_str l es n dd sl b u) ⟨ho, hq⟩)
    (fun _ hq => call_meets F.slot_str_eq_refl (typeIs_str s b u) F.entry_str_eq (F.args_str_eq_2 _ _) (str_eq_declines_dict b u l (.type "dict") es n dd sl) ⟨ho, hq⟩)
    (fun _ hq => wpAny_of_eq (rfl : isSame (.ref l) (.str b u) = pure false) hq) (.inr hu) h
theorem RcNeAt.dict_str {A : Around} {s : Shared} {l : Addr} {o : Obj} {es : Array DictEntry} {n : Nat} (b : Str) (u : Tok) (ho : s.heap.get? l = some o) (hc : o.cls = .type "dict") (hd : o.data = .dict es n) (hu : A.units < cLine) : RcNeAt A s (.ref l) (.str b u) true := fun prog w E Q h => by
  obtain ⟨cls, dd, data, sl⟩ := o
  simp only at hc hd
  subst hc hd
  exact rc_ne_decline_or (k := false) ⟨_, ho, rfl⟩ (typeIs_str s b u) (by decide) F.sub_str_dict F.slot_dict_ne F.slot_str_ne_refl
    (fun _ hq => call_meets F.slot_dict_ne ⟨_, ho, rfl⟩ F.entry_dict_ne (F.args_dict_ne_2 _ _) (dict_ne_declines_str l es n dd sl b u) ⟨ho, hq⟩)
    (fun _ hq => call_meets F.slot_str_ne_refl (typeIs_str s b u) F.entry_str_ne (F.args_str_ne_2 _ _) (str_ne_declines_dict b u l (.type "dict") es n dd sl) ⟨ho, hq⟩)
    (fun _ hq => wpAny_of_eq (rfl : isSame (.ref l) (.str b u) = pure false) hq) (.inr hu) h
end PySem.SeqAt
namespace TL
open PySem PySem.Spec PyProof.Rows L2
def opEqS (neg : Bool) : Op2 := fun _ x y => match x, y with
  | .str a, .str b => some (.bl (nn neg (decide (a = b))))
  | .non, .str _ => some (.bl neg)
  | .bl _, .str _ => some (.bl neg)
  | .int _, .str _ => some (.bl neg)
  | .tup _, .str _ => some (.bl neg)
  | .lst _, .str _ => some (.bl neg)
  | .edi, .str _ => some (.bl neg)
  | _, _ => none
section
variable {X : Cx} {S : AS} {H : Hp} {h : AH} {pins : List (Addr × Obj)} {s : Shared} {σ : L2.St}
theorem edi_at (I : Inv X pins σ H s) (hr : HRel X.K X.mg S h H) {a : Addr} (q : S.G a = some (HO.dK [])) : ∃ o es n, s.heap.get? a = some o ∧ o.cls = .type "dict" ∧ o.data = .dict es n := by
  obtain ⟨_, hs, vs, kv, o, es, ep, h1, h2, h3, h4, h5, h6⟩ := (show ObjOk X.prog X.w H s.heap a (.dK []) from I.hok a _ (hr.g _ _ q))
  exact ⟨o, es, ep, h1, h2.1, h3⟩
theorem str_dec (c b : Str) : decide (c = b) = (c == b) := by rw [Bool.eq_iff_iff, beq_iff_eq, decide_eq_true_iff]
theorem o_eqS {X : Cx} (hu : X.A.units + 64 < cLine) : OpR X (compareOp .Eq) (rO X.K X.mg (opEqS false)) := by
  intro pins s σ H x y v u Q I rx ry ⟨S, h, t, t', z, hr, rt, rt', e, q⟩
  have fin : ∀ k : Bool, z = .bl k → EP X pins σ Q (.bool k) s := fun k ek => by
    subst ek
    exact ⟨.bl _, H, I, rfl, q S _ H (Ext.refl S H) hr (by simp [RelT])⟩
  have hu1 : X.A.units < cLine := by omega
  cases t' with
  | str b =>
    simp only [RelT] at rt'; subst rt'
    obtain ⟨tk, rfl⟩ := (show ∃ t, u = Value.str b t from ry)
    cases t with
    | non => simp only [RelT] at rt; subst rt; cases (show v = Value.none from rx); cases e; exact SeqAt.RcAt.none_str b tk _ _ _ _ (fin _ rfl)
    | bl c => simp only [RelT] at rt; subst rt; cases (show v = Value.bool c from rx); cases e; exact SeqAt.RcAt.bool_str c b tk _ _ _ _ (fin _ rfl)
    | int c => simp only [RelT] at rt; subst rt; obtain ⟨t2, rfl⟩ := (show ∃ t, v = Value.int c t from rx); cases e; exact SeqAt.RcAt.int_str c t2 b tk _ _ _ _ (fin _ rfl)
    | str c => simp only [RelT] at rt; subst rt; obtain ⟨t2, rfl⟩ := (show ∃ t, v = Value.str c t from rx); cases e; exact SeqAt.RcAt.str_str c t2 b tk _ _ _ _ (fin _ (congrArg T.bl (str_dec c b)))
    | tup ts =>
      simp only [RelT] at rt
      obtain ⟨a, us, rfl, hG, rs⟩ := rt
      cases (show v = Value.ref a from rx)
      obtain ⟨_, its, rr, p⟩ := (show ObjOk X.prog X.w H s.heap a (.tup us) from I.hok a _ (hr.g _ _ hG))
      cases e
      exact SeqAt.RcAt.tuple_str b tk p hu1 _ _ _ _ (fin _ rfl)
    | lst ts =>
      simp only [RelT] at rt
      obtain ⟨a, us, rfl, hG, rs⟩ := rt
      cases (show v = Value.ref a from rx)
      obtain ⟨its, rr, p, _⟩ := I.list (.inl (rd_mono hr.g hG))
      cases e
      exact SeqAt.RcAt.list_str b tk p.isList hu1 _ _ _ _ (fin _ rfl)
    | edi =>
      simp only [RelT] at rt
      obtain ⟨a, rfl, hG⟩ := rt
      cases (show v = Value.ref a from rx)
      obtain ⟨o, es, n, h1, h2, h3⟩ := edi_at I hr hG
      cases e
      exact SeqAt.RcAt.dict_str b tk h1 h2 h3 hu1 _ _ _ _ (fin _ rfl)
    | _ => cases e
  | _ => cases t <;> cases e
theorem o_neS {X : Cx} (hu : X.A.units + 64 < cLine) : OpR X (compareOp .NotEq) (rO X.K X.mg (opEqS true)) := by
  intro pins s σ H x y v u Q I rx ry ⟨S, h, t, t', z, hr, rt, rt', e, q⟩
  have fin : ∀ k : Bool, z = .bl k → EP X pins σ Q (.bool k) s := fun k ek => by
    subst ek
    exact ⟨.bl _, H, I, rfl, q S _ H (Ext.refl S H) hr (by simp [RelT])⟩
  have hu1 : X.A.units < cLine := by omega
  cases t' with
  | str b =>
    simp only [RelT] at rt'; subst rt'
    obtain ⟨tk, rfl⟩ := (show ∃ t, u = Value.str b t from ry)
    cases t with
    | non => simp only [RelT] at rt; subst rt; cases (show v = Value.none from rx); cases e; exact SeqAt.RcNeAt.none_str b tk _ _ _ _ (fin _ rfl)
    | bl c => simp only [RelT] at rt; subst rt; cases (show v = Value.bool c from rx); cases e; exact SeqAt.RcNeAt.bool_str c b tk _ _ _ _ (fin _ rfl)
    | int c => simp only [RelT] at rt; subst rt; obtain ⟨t2, rfl⟩ := (show ∃ t, v = Value.int c t from rx); cases e; exact SeqAt.RcNeAt.int_str c t2 b tk _ _ _ _ (fin _ rfl)
    | str c => simp only [RelT] at rt; subst rt; obtain ⟨t2, rfl⟩ := (show ∃ t, v = Value.str c t from rx); cases e; exact SeqAt.RcNeAt.str_str c t2 b tk _ _ _ _ (fin _ (congrArg (fun k => T.bl (!k)) (str_dec c b)))
    | tup ts =>
      simp only [RelT] at rt
      obtain ⟨a, us, rfl, hG, rs⟩ := rt
      cases (show v = Value.ref a from rx)
      obtain ⟨_, its, rr, p⟩ := (show ObjOk X.prog X.w H s.heap a (.tup us) from I.hok a _ (hr.g _ _ hG))
      cases e
      exact SeqAt.RcNeAt.tuple_str b tk p hu1 _ _ _ _ (fin _ rfl)
    | lst ts =>
      simp only [RelT] at rt
      obtain ⟨a, us, rfl, hG, rs⟩ := rt
      cases (show v = Value.ref a from rx)
      obtain ⟨its, rr, p, _⟩ := I.list (.inl (rd_mono hr.g hG))
      cases e
      exact SeqAt.RcNeAt.list_str b tk p.isList hu1 _ _ _ _ (fin _ rfl)
    | edi =>
      simp only [RelT] at rt
      obtain ⟨a, rfl, hG⟩ := rt
      cases (show v = Value.ref a from rx)
      obtain ⟨o, es, n, h1, h2, h3⟩ := edi_at I hr hG
      cases e
      exact SeqAt.RcNeAt.dict_str b tk h1 h2 h3 hu1 _ _ _ _ (fin _ rfl)
    | _ => cases e
  | _ => cases t <;> cases e
end
def isStrB (s : Str) : T → Bool
  | .str a => decide (a = s)
  | _ => false
end TL

namespace TL
open PySem PySem.Spec PyProof.Rows L2
theorem tuple_mul1 (l : Addr) (items : Array Value) (n : Nat) (dd : Option Addr) (sl : Array (Option Value)) (u : Tok) :
    Meets (Builtin.«tuple.__mul__» ⟨[.ref l, .int 1 u], []⟩) (fun _ R s => s.heap.get? l = some { cls := .type "tuple", dict := dd, data := .seq items n, slots := sl } ∧ R (.ok (.ret (Value.ref l))) s) :=
  .of_wp fun prog w A R s h => by
    obtain ⟨hp, g, d, tk, os⟩ := s
    obtain ⟨hl, h⟩ := h
    have f1 := AutoSeq1.idx_int
    have c0 : (decide ((1 : Int) < -(2 ^ 63)) || decide ((1 : Int) ≥ 2 ^ 63)) = false := by decide
    have c1 : (items.isEmpty || (1 : Int) == 1) = true := by simp
    wp_walk using wpAny_loadPart' hl
    repeat (first
      | (refine wpAny_ite_false (decide_eq_false (by rw [c0]; exact Bool.false_ne_true)) ?_; wp_walk using wpAny_loadPart' hl)
      | (refine wpAny_ite_true (decide_eq_true (by rw [c1])) ?_; wp_walk using wpAny_loadPart' hl))
    exact ⟨_, rfl, h⟩
def rRep1 (K : PySem.W.Frag) : R2 := fun x y H Q => ∃ l xs, x = .ref l ∧ y = .int 1 ∧ SqT K H l xs ∧ Q (.ref l) H
theorem op_rep1 {X : Cx} : OpR X (binaryOp .Mult) (rRep1 X.K) := by
  intro pins s σ H x y v u Q I rx ry h
  obtain ⟨l, xs, rfl, rfl, hT, q⟩ := h
  cases rx
  obtain ⟨t, rfl⟩ := ry
  obtain ⟨its, r, ⟨⟨cls, dd, data, sl⟩, ho, hc, n, hd⟩, hs⟩ := I.tuple hT
  simp only at hc hd
  subst hc hd
  refine wpAny_binaryOp_repeat_ref (T := "tuple") (U := "int") (by decide) ⟨_, ho, rfl⟩ (fun s' => typeIs_int s' 1 t) noFill_tuple_mul F.fills_int_mul F.slot_int_rmul repeat_tuple F.slot_int_index.lookup
    (call_meets F.slot_int_rmul (typeIs_int s 1 t) F.entry_int_rmul (F.args_int_rmul_2 _ _) (int_rmul_tuple 1 t l its.toArray n dd sl)
      ⟨ho, rfl, ⟨_, ho, rfl⟩, call_meets F.slot_tuple_mul ⟨_, ho, rfl⟩ F.entry_tuple_mul (F.args_tuple_mul_2 _ _) (tuple_mul1 l its.toArray n dd sl t) ⟨ho, ?_⟩⟩)
  exact ⟨.ref l, H, I, rfl, q⟩
def opMulU : Op2 := fun _ x y => match x, y with
  | .tup xs, .int k => if xs ≠ [] ∧ 1 ≤ k ∧ k ≤ 1000 ∧ xs.length ≤ 1000 then some (.tup (List.replicate k.toNat xs).flatten) else none
  | _, _ => none
theorem o_mulU {X : Cx} : OpR X (binaryOp .Mult) (rO X.K X.mg opMulU) := OpR.imp (OpR.orr op_repT op_rep1) fun x y H Q ⟨S, h, t, t', z, hr, rx, ry, e, q⟩ => by
  unfold opMulU at e
  split at e
  · split at e
    · rename_i xs k hz
      cases e
      by_cases hk : k = 1
      · subst hk
        refine .inr ?_
        obtain ⟨a, us, rfl, h1, r1⟩ := asT_rel hr rx rfl
        simp only [RelT] at ry
        subst ry
        refine ⟨a, us, rfl, rfl, h1, ?_⟩
        refine q S _ H (Ext.refl S H) hr ?_
        have ef : (List.replicate (Int.toNat 1) xs).flatten = xs := by simp
        rw [ef]
        exact rx
      · refine .inl ?_
        obtain ⟨a, us, rfl, h1, r1⟩ := asT_rel hr rx rfl
        simp only [RelT] at ry
        subst ry
        have hl := r1.length
        refine ⟨a, _, us, rfl, rfl, h1, fun e => hz.1 (by rw [e] at hl; exact List.eq_nil_of_length_eq_zero hl), by have := hz.2.1; omega, hz.2.2.1, by rw [← hl]; exact hz.2.2.2, ?_⟩
        exact new_tup hr (r1.rep _) fun S' v H' e r rv => q S' v H' e r rv
    · cases e
  · cases e
theorem mulU_i {h : AH} {xs : List T} {k : Int} : opMulU h (.tup xs) (.int k) = if xs ≠ [] ∧ 1 ≤ k ∧ k ≤ 1000 ∧ xs.length ≤ 1000 then some (.tup (List.replicate k.toNat xs).flatten) else none := rfl
end TL

namespace TL
open PySem PySem.Spec PyProof.Rows L2
/-- there is a value, and K holds of it -/
def Got {α : Type} (o : Option α) (K : α → Prop) : Prop := ∃ z, o = some z ∧ K z
theorem got_some {α : Type} {z : α} {K : α → Prop} : Got (some z) K = K z := by simp [Got]
theorem got_if {α : Type} {c : Prop} [Decidable c] {z : α} {K : α → Prop} : Got (if c then some z else none) K = (c ∧ K z) := by
  by_cases h : c <;> simp [Got, h]
theorem got_of {α : Type} {o : Option α} {z : α} {K : α → Prop} (e : o = some z) (k : K z) : Got o K := ⟨z, e, k⟩
def Slot (ρ : Rho) (i : Nat) (K : T → Prop) : Prop := ∃ t, ρ[i]? = some (some t) ∧ K t
theorem slot_0 {t : T} {ρ : Rho} {K : T → Prop} : Slot (some t :: ρ) 0 K = K t := by simp [Slot]
theorem slot_s {o : Option T} {ρ : Rho} {i : Nat} {K : T → Prop} : Slot (o :: ρ) (i + 1) K = Slot ρ i K := by simp [Slot]
/-- two ways -/
def Br (k : Bool) (A B : Prop) : Prop := (k = true → A) ∧ (k = false → B)
theorem br_t {A B : Prop} : Br true A B = A := by simp [Br]
theorem br_f {A B : Prop} : Br false A B = B := by simp [Br]
theorem br_if {k : Bool} {A B : Prop} : (if k = true then A else B) = Br k A B := by cases k <;> simp [Br]
theorem br_n {k : Bool} {A B : Prop} : Br (!k) A B = Br k B A := by cases k <;> simp [Br]
def AsB (x : T) (K : Bool → Prop) : Prop := ∃ k, x = .bl k ∧ K k
theorem asB_b {b : Bool} {K : Bool → Prop} : AsB (.bl b) K = K b := by simp [AsB]
def AsI (x : T) (K : Int → Prop) : Prop := ∃ k, x = .int k ∧ K k
theorem asI_i {b : Int} {K : Int → Prop} : AsI (.int b) K = K b := by simp [AsI]
def AsI1 (ts : List T) (K : Int → Prop) : Prop := ∃ k, ts = [.int k] ∧ K k
theorem asI1_i {b : Int} {K : Int → Prop} : AsI1 [.int b] K = K b := by simp [AsI1]
def AsI2 (ts : List T) (K : Int → Int → Prop) : Prop := ∃ k j, ts = [.int k, .int j] ∧ K k j
theorem asI2_i {a b : Int} {K : Int → Int → Prop} : AsI2 [.int a, .int b] K = K a b := by simp [AsI2, and_assoc]
def Isi (n : String) (h : AH) (x : T) (K : Bool → Prop) : Prop := ∃ m k, tyN2 h x = some m ∧ kitN m n = some k ∧ K k
/-- a cell that is a list -/
def LCell (h : AH) (x : T) (K : Nat → List T → Prop) : Prop := ∃ n ts, x = .ref n ∧ h[n]? = some (.lst ts) ∧ K n ts
theorem lcell_r {h : AH} {n : Nat} {ts : List T} {K : Nat → List T → Prop} (e : h[n]? = some (.lst ts)) : LCell h (.ref n) K = K n ts := by simp [LCell, e]
def Two (ts : List T) (K : T → T → Prop) : Prop := ∃ t u, ts = [t, u] ∧ K t u
theorem two_2 {t u : T} {K : T → T → Prop} : Two [t, u] K = K t u := by simp [Two, and_assoc]
def One (ts : List T) (K : T → Prop) : Prop := ∃ t, ts = [t] ∧ K t
theorem one_1 {t : T} {K : T → Prop} : One [t] K = K t := by simp [One]
def Head (ts : List T) (K : T → List T → Prop) : Prop := ∃ t r, ts = t :: r ∧ K t r
theorem head_c {t : T} {r : List T} {K : T → List T → Prop} : Head (t :: r) K = K t r := by simp [Head, and_assoc]
section
variable {ρ : Rho} {h : AH} {R : T → AH → Prop} {X : XC} {E : EndsT} {w u v wa wb wc wl wo : WEx} {wt wt2 : WTe} {s s2 : WSt} {wr : WAr} {op f g : Op2} {Rb : Bool → AH → Prop} {Ra : List T → AH → Prop} {Rn : Rho → AH → Prop} {t : T} {tg : WTg} {tgs : WTgs} {wi : WIt} {opn : OpN} {wg : WRg}
theorem x_var {i : Nat} : wVar i ρ h R X = Slot ρ i fun t => R t h := rfl
theorem x_c : wC t ρ h R X = R t h := rfl
theorem x_bin : wBin op wa wb ρ h R X = wa ρ h (fun x h1 => wb ρ h1 (fun y h2 => Got (op h2 x y) fun z => R z h2) X) X := rfl
theorem x_nil : wNil ρ h Ra X = Ra [] h := rfl
theorem x_cons : wCons w wr ρ h Ra X = w ρ h (fun x h1 => wr ρ h1 (fun xs h2 => Ra (x :: xs) h2) X) X := rfl
theorem x_tup : wTup wr ρ h R X = wr ρ h (fun ts h1 => ts.length ≤ lim ∧ R (.tup ts) h1) X := rfl
theorem x_lstF : wLstF wr ρ h R X = wr ρ h (fun ts h1 => ts.length ≤ lim ∧ R (.lst ts) h1) X := rfl
theorem x_lstC : wLstC wr ρ h R X = wr ρ h (fun ts h1 => ts.length ≤ lim ∧ R (.ref h1.length) (h1 ++ [.lst ts])) X := rfl
theorem x_tru : wTru w ρ h Rb X = w ρ h (fun x h1 => Got (tru h1 x) fun k => Rb k h1) X := rfl
theorem x_tb : wTB w ρ h Rb X = w ρ h (fun x h1 => AsB x fun k => Rb k h1) X := rfl
theorem x_notT : wNotT wt ρ h Rb X = wt ρ h (fun k h1 => Rb (!k) h1) X := rfl
theorem x_andT : wAndT wt wt2 ρ h Rb X = wt ρ h (fun k h1 => Br k (wt2 ρ h1 Rb X) (Rb false h1)) X := by simp only [wAndT, br_if]
theorem x_orT : wOrT wt wt2 ρ h Rb X = wt ρ h (fun k h1 => Br k (Rb true h1) (wt2 ρ h1 Rb X)) X := by simp only [wOrT, br_if]
theorem x_not : wNot w ρ h R X = w ρ h (fun x h1 => Got (tru h1 x) fun k => R (.bl (!k)) h1) X := rfl
theorem x_and : wAnd wa wb ρ h R X = wa ρ h (fun x h1 => Got (tru h1 x) fun k => Br k (wb ρ h1 R X) (R x h1)) X := by simp only [wAnd, br_if, Got]
theorem x_or : wOr wa wb ρ h R X = wa ρ h (fun x h1 => Got (tru h1 x) fun k => Br k (R x h1) (wb ρ h1 R X)) X := by simp only [wOr, br_if, Got]
theorem x_if : wIf wt wa wb ρ h R X = wt ρ h (fun k h1 => Br k (wa ρ h1 R X) (wb ρ h1 R X)) X := by simp only [wIf, br_if]
theorem gotB {o : Option T} {K : Bool → Prop} : (∃ k, o = some (.bl k) ∧ K k) = Got o fun z => AsB z K := by
  apply propext
  constructor
  · rintro ⟨k, e, q⟩; exact ⟨_, e, k, rfl, q⟩
  · rintro ⟨z, e, k, rfl, q⟩; exact ⟨k, e, q⟩
theorem x_chain : wChain f g wa wb wc ρ h R X = wa ρ h (fun x h1 => wb ρ h1 (fun y h2 => Got (f h2 x y) fun z => AsB z fun k => Br k (wc ρ h2 (fun z h3 => Got (g h3 y z) fun r => R r h3) X) (R (.bl false) h2)) X) X := by
  simp only [wChain, br_if, gotB, Got]
theorem x_neg : wNeg w ρ h R X = w ρ h (fun x h1 => AsI x fun i => R (.int (-i)) h1) X := rfl
theorem x_callN : wCallN opn wr ρ h R X = wr ρ h (fun ts h1 => Got (opn h1 ts) fun z => R z h1) X := rfl
theorem x_isi {n : String} : wIsi n w ρ h R X = w ρ h (fun x h1 => Isi n h1 x fun k => R (.bl k) h1) X := rfl
theorem x_po0 {Ro : Option Int → AH → Prop} : wPo0 ρ h Ro X = Ro none h := rfl
theorem x_po {Ro : Option Int → AH → Prop} : wPo w ρ h Ro X = w ρ h (fun x h1 => AsI x fun i => Ro (some i) h1) X := rfl
theorem x_sl {lo hi : WPo} : wSl w lo hi ρ h R X = w ρ h (fun x h1 => lo ρ h1 (fun lo h2 => hi ρ h2 (fun hi h3 => Got (opSl h3 x lo hi) fun z => R z h3) X) X) X := rfl
theorem x_rev : wRev w ρ h R X = w ρ h (fun x h1 => Got (revT h1 x) fun z => R z h1) X := rfl
theorem x_frz : wFrz w ρ h R X = w ρ h (fun x h1 => LCell h1 x fun n ts => R (.lst ts) (h1.set n .dead)) X := rfl
theorem x_listC : wListC wr ρ h R X = wr ρ h (fun ts h1 => One ts fun t => Got (asQ h1 t) fun xs => R (.ref h1.length) (h1 ++ [.lst xs])) X := by
  simp only [wListC, One, Got]
  congr 1; funext ts h1; apply propext
  constructor
  · rintro ⟨t, xs, a, b, c⟩; exact ⟨t, a, xs, b, c⟩
  · rintro ⟨t, a, xs, b, c⟩; exact ⟨t, xs, a, b, c⟩
theorem x_r1 {Rr : Int → Int → AH → Prop} : wR1 w ρ h Rr X = w ρ h (fun x h1 => AsI x fun n => Rr 0 n h1) X := rfl
theorem x_tupRg : wTupRg wg ρ h R X = wg ρ h (fun i j h1 => rgOk i j = true ∧ R (.tup (rangeT i (j - i).toNat)) h1) X := rfl
theorem x_lstRgC : wLstRgC wg ρ h R X = wg ρ h (fun i j h1 => rgOk i j = true ∧ R (.ref h1.length) (h1 ++ [.lst (rangeT i (j - i).toNat)])) X := rfl
theorem x_dict0 : wDict0 ρ h R X = R (.ref h.length) (h ++ [.dct []]) := rfl
theorem x_dictII {i j : Int} : wDictII i j ρ h R X = R (.ref h.length) (h ++ [.dct [(.inl i, .int j)]]) := rfl
theorem x_bm {o : AH → T → List T → (T → AH → Prop) → Prop} : wBM o wo wr ρ h R X = wo ρ h (fun x h1 => isLst h1 x ∧ wr ρ h1 (fun ts h2 => o h2 x ts R) X) X := rfl
theorem x_app {x : T} {ys : List T} : mAppend h x ys R = One ys fun y => LCell h x fun n ts => ts.length < lim ∧ R .non (h.set n (.lst (ts ++ [y]))) := by
  simp only [mAppend, One, LCell]
  apply propext
  constructor
  · rintro ⟨n, ts, y, a, b, c, d, e⟩; exact ⟨y, b, n, ts, a, c, d, e⟩
  · rintro ⟨y, b, n, ts, a, c, d, e⟩; exact ⟨n, ts, y, a, b, c, d, e⟩
theorem isLst_r {n : Nat} {ts : List T} (e : h[n]? = some (.lst ts)) : isLst h (.ref n) = True := by simp [isLst, e]
theorem x_call {sp : ASp} : wCall sp wr ρ h R X = wr ρ h (fun ts h1 => sp ts h1 R X) X := rfl
theorem x_compF {vs : List Nat} : wCompF wi tg wt w vs ρ h R X = wi ρ h (fun items P h1 => wCompL P tg wt w vs ρ items [] h1 (fun acc h2 => R (.lst acc) h2)) X := rfl
theorem x_compC {vs : List Nat} : wCompC wi tg wt w vs ρ h R X = wi ρ h (fun items P h1 => wCompL P tg wt w vs ρ items [] h1 (fun acc h2 => R (.ref h2.length) (h2 ++ [.lst acc]))) X := rfl
theorem x_yes : wYes ρ h Rb X = Rb true h := rfl
theorem x_rg1 {Ri : List T → (AH → Prop) → AH → Prop} : wRg1 wr ρ h Ri X = wr ρ h (fun ts h1 => AsI1 ts fun n => n < 2 ^ 62 ∧ -(2 ^ 62) ≤ n ∧ Ri (rangeT 0 n.toNat) (fun _ => True) h1) X := rfl
theorem x_rg2 {Ri : List T → (AH → Prop) → AH → Prop} : wRg2 wr ρ h Ri X = wr ρ h (fun ts h1 => AsI2 ts fun m n => (-(2 ^ 62) ≤ m ∧ m < 2 ^ 62 ∧ -(2 ^ 62) ≤ n ∧ n < 2 ^ 62) ∧ Ri (rangeT m (n - m).toNat) (fun _ => True) h1) X := rfl
/-- what a walk over this value goes through -/
def Walks (h : AH) (x : T) (Ri : List T → (AH → Prop) → AH → Prop) : Prop := (∃ ts, asT x = some ts ∧ Ri ts (fun _ => True) h) ∨ (∃ ts, x = .lst ts ∧ Ri ts (fun _ => True) h) ∨ (∃ ts, x = .scr ts ∧ Ri ts (fun _ => True) h) ∨ ∃ n ts, x = .ref n ∧ h[n]? = some (.lst ts) ∧ Ri ts (fun h' => h'[n]? = some (.lst ts)) h
theorem x_itS {Ri : List T → (AH → Prop) → AH → Prop} : wItS w ρ h Ri X = w ρ h (fun x h1 => Walks h1 x Ri) X := rfl
theorem walks_tup {xs : List T} {Ri : List T → (AH → Prop) → AH → Prop} : Walks h (.tup xs) Ri = Ri xs (fun _ => True) h := by simp [Walks, asT]
theorem walks_ftp {xs : List T} {Ri : List T → (AH → Prop) → AH → Prop} : Walks h (.ftp xs) Ri = Ri xs (fun _ => True) h := by simp [Walks, asT]
theorem walks_lst {xs : List T} {Ri : List T → (AH → Prop) → AH → Prop} : Walks h (.lst xs) Ri = Ri xs (fun _ => True) h := by simp [Walks, asT]
theorem walks_scr {xs : List T} {Ri : List T → (AH → Prop) → AH → Prop} : Walks h (.scr xs) Ri = Ri xs (fun _ => True) h := by simp [Walks, asT]
theorem walks_ref {n : Nat} {xs : List T} {Ri : List T → (AH → Prop) → AH → Prop} (e : h[n]? = some (.lst xs)) : Walks h (.ref n) Ri = Ri xs (fun h' => h'[n]? = some (.lst xs)) h := by simp [Walks, asT, e]
theorem x_seq : wSeq s s2 E ρ h = s { E with nx := s2 E } ρ h := rfl
theorem x_skip : wSkip E ρ h = E.nx ρ h := rfl
theorem x_break : wBreak E ρ h = E.bk ρ h := rfl
theorem x_cont : wCont E ρ h = E.ct ρ h := rfl
theorem x_expr : wExpr w E ρ h = w ρ h (fun _ h1 => E.nx ρ h1) (E.xe ρ) := rfl
theorem x_ret : wRet w E ρ h = w ρ h E.rt (E.xe ρ) := rfl
theorem x_retN : wRetN E ρ h = E.rt .non h := rfl
theorem x_ifS : wIfS wt s s2 E ρ h = wt ρ h (fun k h1 => Br k (s E ρ h1) (s2 E ρ h1)) (E.xe ρ) := by simp only [wIfS, br_if]
theorem x_asg : wAsg w tg E ρ h = w ρ h (fun t h1 => tg t ρ h1 E.nx (E.xe ρ)) (E.xe ρ) := rfl
theorem x_nm {i : Nat} : gNm i t ρ h Rn X = Rn (ρ.set i (some t)) h := rfl
theorem x_gnils {ts : List T} : gNils ts ρ h Rn X = (ts = [] ∧ Rn ρ h) := rfl
theorem x_gcons {ts : List T} : gConss tg tgs ts ρ h Rn X = Head ts fun t r => tg t ρ h (fun ρ1 h1 => tgs r ρ1 h1 Rn fun _ _ => False) fun _ _ => False := rfl
theorem x_gtu {n : Nat} : gTu n tgs t ρ h Rn X = Got (asT t) fun ts => ts.length = n ∧ tgs ts ρ h Rn fun _ _ => False := rfl
theorem x_gsub {wo' : WEx} : gSubL wo wo' t ρ h Rn X = wo ρ h (fun x h1 => wo' ρ h1 (fun y h2 => LCell h2 x fun n ts => AsI y fun k => Got (ixN ts.length k) fun j => Rn ρ (h2.set n (.lst (ts.set j t)))) X) X := by
  simp only [gSubL, LCell, AsI, Got]
  congr 1; funext x h1; congr 1; funext y h2; apply propext
  constructor
  · rintro ⟨n, k, j, ts, a, b, c, d, e⟩; exact ⟨n, ts, a, c, k, b, j, d, e⟩
  · rintro ⟨n, ts, a, c, k, b, j, d, e⟩; exact ⟨n, k, j, ts, a, b, c, d, e⟩
theorem x_par {i j : Nat} : wPar i j wr E ρ h = wr ρ h (fun ts h1 => Two ts fun t u => E.nx ((ρ.set i (some t)).set j (some u)) h1) (E.xe ρ) := rfl
theorem x_aug {i : Nat} : wAug i w op E ρ h = Slot ρ i fun x => w ρ h (fun y h1 => Got (op h1 x y) fun z => E.nx (ρ.set i (some z)) h1) (E.xe ρ) := rfl
theorem x_for : wFor wi tg s E ρ h = wi ρ h (fun items P h1 => wLoop P tg s items E ρ h1) (E.xe ρ) := rfl
theorem x_never : wNever E ρ h = False := rfl
theorem x_wipe0 : wipeT ρ [] = ρ := rfl
theorem x_wipe {i : Nat} {is : List Nat} : wipeT ρ (i :: is) = (wipeT ρ is).set i none := rfl
theorem ret_now {t : T} {h' : AH} (r : R t h') : RetP h R t h' := .inl r
end
section
variable {h : AH} {i j : Int} {xs ys : List T} {a b : T}
theorem add_i : opAdd h (.int i) (.int j) = some (.int (i + j)) := rfl
theorem add_t : opAdd h (.tup xs) (.tup ys) = if xs.length + ys.length ≤ lim then some (.tup (xs ++ ys)) else none := rfl
theorem add_l : opAdd h (.lst xs) (.lst ys) = if xs.length + ys.length ≤ lim then some (.lst (xs ++ ys)) else none := rfl
theorem add_scr : opAdd h (.scr xs) (.lst ys) = if xs.length + ys.length ≤ lim then some (.lst (xs ++ ys)) else none := rfl
theorem add_s {x y : Str} : opAdd h (.str x) (.str y) = if x.length + y.length ≤ lim then some (.str (x ++ y)) else none := rfl
theorem sub_i : opSub h (.int i) (.int j) = some (.int (i - j)) := rfl
theorem mul_i : opMul h (.int i) (.int j) = if okMul i j then some (.int (i * j)) else none := rfl
theorem div_i : opDiv h (.int i) (.int j) = if 0 < j ∧ j.natAbs.log2 < 9000 then some (.int (i / j)) else none := rfl
theorem mod_i : opMod h (.int i) (.int j) = if 0 < j then some (.int (i % j)) else none := rfl
theorem pow_i : opPow h (.int i) (.int j) = if 0 ≤ j ∧ j ≤ 1000000 ∧ i.natAbs < 2 ^ 64 then some (.int (i ^ j.toNat)) else none := rfl
theorem cmp_i {p : Int → Int → Bool} : opCmp p h (.int i) (.int j) = some (.bl (p i j)) := rfl
theorem asQ_t : asQ h (.tup xs) = some xs := rfl
theorem asQ_l : asQ h (.lst xs) = some xs := rfl
theorem asQ_s : asQ h (.scr xs) = some xs := rfl
theorem asQ_r {n : Nat} : asQ h (.ref n) = asR h (.ref n) := rfl
theorem asL_l : asL h (.lst xs) = some xs := rfl
theorem asL_s : asL h (.scr xs) = some xs := rfl
theorem asL_t : asL h (.tup xs) = none := rfl
theorem asL_r {n : Nat} : asL h (.ref n) = asR h (.ref n) := rfl
theorem asT_t : asT (.tup xs) = some xs := rfl
theorem asR_r {n : Nat} (e : h[n]? = some (.lst xs)) : asR h (.ref n) = some xs := by simp [asR, e]
theorem ix_t : opIx h (.tup xs) (.int i) = atI xs i := rfl
theorem ix_l : opIx h (.lst xs) (.int i) = atI xs i := rfl
theorem ix_s : opIx h (.scr xs) (.int i) = atI xs i := rfl
theorem ix_r {n : Nat} (e : h[n]? = some (.lst xs)) : opIx h (.ref n) (.int i) = atI xs i := by simp [opIx, asQ_r, asR, e]
theorem len_t : opLen h [.tup xs] = some (.int xs.length) := rfl
theorem len_l : opLen h [.lst xs] = some (.int xs.length) := rfl
theorem len_s : opLen h [.scr xs] = some (.int xs.length) := rfl
theorem len_r {n : Nat} (e : h[n]? = some (.lst xs)) : opLen h [.ref n] = some (.int xs.length) := by simp [opLen, asQ_r, asR, e]
theorem tupleOf_l : opTupleOf h [.lst xs] = some (.tup xs) := rfl
theorem tupleOf_t : opTupleOf h [.tup xs] = some (.tup xs) := rfl
theorem listOf_t : opListOf h [.tup xs] = some (.lst xs) := rfl
theorem listOf_l : opListOf h [.lst xs] = some (.lst xs) := rfl
theorem max2_i : opMax2 h [.int i, .int j] = some (.int (if j > i then j else i)) := rfl
theorem min2_i : opMin2 h [.int i, .int j] = some (.int (if j < i then j else i)) := rfl
theorem sl_t {lo hi : Option Int} : opSl h (.tup xs) lo hi = some (.tup (cutT xs lo hi)) := rfl
theorem sl_l {lo hi : Option Int} : opSl h (.lst xs) lo hi = some (.lst (cutT xs lo hi)) := rfl
theorem sl_s {lo hi : Option Int} : opSl h (.scr xs) lo hi = some (.lst (cutT xs lo hi)) := rfl
theorem rev_t : revT h (.tup xs) = some (.tup xs.reverse) := rfl
theorem rev_l : revT h (.lst xs) = some (.lst xs.reverse) := rfl
theorem tru_b {b : Bool} : tru h (.bl b) = some b := rfl
theorem tru_i : tru h (.int i) = some (i != 0) := rfl
theorem ty_non : tyN h .non = some "NoneType" := rfl
theorem ty_bl {b : Bool} : tyN h (.bl b) = some "bool" := rfl
theorem ty_int : tyN h (.int i) = some "int" := rfl
theorem ty_str {x : Str} : tyN h (.str x) = some "str" := rfl
theorem ty_tup : tyN h (.tup xs) = some "tuple" := rfl
theorem ty_lst : tyN h (.lst xs) = some "list" := rfl
end
def isI : T → Bool
  | .int _ => true
  | _ => false
def isB : T → Bool
  | .bl _ => true
  | _ => false
def isTu : T → Bool
  | .tup _ => true
  | _ => false
def isSt : T → Bool
  | .str _ => true
  | _ => false
theorem kit_tab : ∀ m ∈ ["NoneType", "bool", "int", "str", "tuple", "list", "dict"], kitN m "int" = some (m == "int" || m == "bool") ∧ kitN m "bool" = some (m == "bool") ∧ kitN m "tuple" = some (m == "tuple") ∧ kitN m "str" = some (m == "str") ∧ kitN m "list" = some (m == "list") := by decide +kernel
theorem ty_mem {h : AH} {t : T} {m : String} (e : tyN h t = some m) : m ∈ ["NoneType", "bool", "int", "str", "tuple", "list", "dict"] ∧ (m == "int") = isI t ∧ (m == "bool") = isB t ∧ (m == "tuple") = isTu t ∧ (m == "str") = isSt t := by
  cases t with
  | ref n =>
    simp only [tyN] at e
    split at e <;> first | (cases e; simp [isI, isB, isTu, isSt]; done) | cases e
  | scr _ => cases e
  | fdt _ _ => cases e
  | fst _ => cases e
  | kt _ => cases e
  | fv _ => cases e
  | ftp _ => cases e
  | _ => cases e; simp [isI, isB, isTu, isSt]
/-- a thing that isinstance knows -/
def okT (h : AH) (t : T) : Prop := ∃ m, tyN h t = some m
theorem ty2_of {h : AH} {t : T} {m : String} (e : tyN h t = some m) : tyN2 h t = some m := by
  unfold tyN2
  split
  · cases e
  · exact e
theorem isi_int {h : AH} {t : T} {K : Bool → Prop} (k : okT h t) : Isi "int" h t K = K (isI t || isB t) := by
  obtain ⟨m, e⟩ := k
  obtain ⟨h1, h2, h3, _⟩ := ty_mem e
  have := (kit_tab m h1).1
  simp [Isi, ty2_of e, this, h2, h3, -Bool.exists_bool]
theorem isi_bool {h : AH} {t : T} {K : Bool → Prop} (k : okT h t) : Isi "bool" h t K = K (isB t) := by
  obtain ⟨m, e⟩ := k
  obtain ⟨h1, h2, h3, _⟩ := ty_mem e
  have := (kit_tab m h1).2.1
  simp [Isi, ty2_of e, this, h3, -Bool.exists_bool]
theorem isi_tup {h : AH} {t : T} {K : Bool → Prop} (k : okT h t) : Isi "tuple" h t K = K (isTu t) := by
  obtain ⟨m, e⟩ := k
  obtain ⟨h1, h2, h3, h4, _⟩ := ty_mem e
  have := (kit_tab m h1).2.2.1
  simp [Isi, ty2_of e, this, h4, -Bool.exists_bool]
theorem isi_str {h : AH} {t : T} {K : Bool → Prop} (k : okT h t) : Isi "str" h t K = K (isSt t) := by
  obtain ⟨m, e⟩ := k
  obtain ⟨h1, h2, h3, h4, h5⟩ := ty_mem e
  have := (kit_tab m h1).2.2.2.1
  simp [Isi, ty2_of e, this, h5, -Bool.exists_bool]
theorem okT_int {h : AH} {i : Int} : okT h (.int i) := ⟨_, rfl⟩
theorem okT_bl {h : AH} {i : Bool} : okT h (.bl i) := ⟨_, rfl⟩
theorem okT_non {h : AH} : okT h .non := ⟨_, rfl⟩
theorem okT_str {h : AH} {i : Str} : okT h (.str i) := ⟨_, rfl⟩
theorem okT_tup {h : AH} {i : List T} : okT h (.tup i) := ⟨_, rfl⟩
theorem okT_lst {h : AH} {i : List T} : okT h (.lst i) := ⟨_, rfl⟩

/-- [f(t) for t in items if ..], the heap as it is; what is left out is none -/
theorem compL_pure {P : AH → Prop} {g : WTg} {wt : WTe} {w : WEx} {vs : List Nat} {ρ : Rho} {h : AH} {R : List T → AH → Prop} (f : T → Option T) (hP : P h) :
    ∀ (items acc : List T), (∀ t ∈ items, ∀ (Ky : T → AH → Prop) (Kn : AH → Prop), (match f t with | some y => Ky y h | none => Kn h) → g t (wipeT ρ vs) h (fun ρ2 h2 => wt ρ2 h2 (fun k h3 => if k = true then w ρ2 h3 Ky (fun _ _ => False) else Kn h3) (fun _ _ => False)) (fun _ _ => False)) →
      acc.length + items.length ≤ lim → R (acc ++ items.filterMap f) h → wCompL P g wt w vs ρ items acc h R
  | [], acc, _, _, r => ⟨hP, by simpa using r⟩
  | t :: ts, acc, hs, hl, r => by
    refine ⟨hP, hs t List.mem_cons_self _ _ ?_⟩
    have ih := fun acc' => compL_pure (R := R) f hP ts acc' fun t ht => hs t (List.mem_cons_of_mem _ ht)
    have hl' : acc.length + (ts.length + 1) ≤ lim := hl
    cases e : f t with
    | some y =>
      rw [List.filterMap_cons, e] at r
      exact ⟨by omega, ih _ (by simp; omega) (by simpa using r)⟩
    | none =>
      rw [List.filterMap_cons, e] at r
      exact ih _ (by omega) r
/-- .. over items that come of a list -/
theorem compL_map {α : Type} {P : AH → Prop} {g : WTg} {wt : WTe} {w : WEx} {vs : List Nat} {ρ : Rho} {h : AH} {R : List T → AH → Prop} (e : α → T) (f : α → T) (xs : List α) (hP : P h)
    (hs : ∀ x ∈ xs, ∀ (Ky : T → AH → Prop) (Kn : AH → Prop), Ky (f x) h → g (e x) (wipeT ρ vs) h (fun ρ2 h2 => wt ρ2 h2 (fun k h3 => if k = true then w ρ2 h3 Ky (fun _ _ => False) else Kn h3) (fun _ _ => False)) (fun _ _ => False))
    (hl : xs.length ≤ lim) (r : R (xs.map f) h) : wCompL P g wt w vs ρ (xs.map e) [] h R := by
  have go : ∀ (l : List α) (acc : List T), (∀ x ∈ l, x ∈ xs) → acc.length + l.length ≤ lim → R (acc ++ l.map f) h → wCompL P g wt w vs ρ (l.map e) acc h R := by
    intro l
    induction l with
    | nil => intro acc _ _ r; exact ⟨hP, by simpa using r⟩
    | cons x l ih =>
      intro acc hm hl r
      have hl' : acc.length + (l.length + 1) ≤ lim := hl
      exact ⟨hP, hs x (hm x List.mem_cons_self) _ _ ⟨by omega, ih _ (fun y hy => hm y (List.mem_cons_of_mem _ hy)) (by simp; omega) (by simpa using r)⟩⟩
  exact go xs [] (fun _ hx => hx) (by simpa using hl) (by simpa using r)
/-- by an invariant over what is made and the heap; every item is kept -/
theorem compL_inv {P : AH → Prop} {g : WTg} {wt : WTe} {w : WEx} {vs : List Nat} {ρ : Rho} {R : List T → AH → Prop} (Iv : Nat → List T → AH → Prop) (items : List T) (hP : ∀ i acc h, Iv i acc h → P h) (hl : items.length ≤ lim)
    (hs : ∀ i t acc h, items[i]? = some t → Iv i acc h → ∀ (Ky : T → AH → Prop) (Kn : AH → Prop), (∀ y h', Iv (i + 1) (acc ++ [y]) h' → Ky y h') → g t (wipeT ρ vs) h (fun ρ2 h2 => wt ρ2 h2 (fun k h3 => if k = true then w ρ2 h3 Ky (fun _ _ => False) else Kn h3) (fun _ _ => False)) (fun _ _ => False))
    {h : AH} (h0 : Iv 0 [] h) (hd : ∀ acc h', acc.length = items.length → Iv items.length acc h' → R acc h') : wCompL P g wt w vs ρ items [] h R := by
  have go : ∀ (l : List T) (i : Nat) (acc : List T) (h : AH), items.drop i = l → acc.length = i → i ≤ items.length → Iv i acc h → wCompL P g wt w vs ρ l acc h R := by
    intro l
    induction l with
    | nil =>
      intro i acc h e ha hi iv
      have hn : i = items.length := by
        have := congrArg List.length e
        simp at this; omega
      subst hn
      exact ⟨hP _ _ _ iv, hd acc h ha iv⟩
    | cons t l ih =>
      intro i acc h e ha hi iv
      have hlt : i < items.length := by
        have := congrArg List.length e
        simp at this; omega
      have et : items[i]? = some t := by
        have := congrArg List.head? e
        rw [List.head?_drop] at this
        exact this
      refine ⟨hP _ _ _ iv, hs i t acc h et iv _ _ fun y h' iv' => ⟨by omega, ih (i + 1) _ h' ?_ (by simp [ha]) hlt iv'⟩⟩
      rw [← List.drop_drop, e]; rfl
  exact go items 0 [] h rfl rfl (Nat.zero_le _) h0
/-- a loop by an invariant of the turn, the slots, the heap -/
theorem loop_inv {P : AH → Prop} {g : WTg} {b : WSt} {E : EndsT} (Iv : Nat → Rho → AH → Prop) (items : List T) (hP : ∀ i ρ h, Iv i ρ h → P h)
    (hs : ∀ i t ρ h, items[i]? = some t → Iv i ρ h → ∀ N : Rho → AH → Prop, (∀ ρ h, Iv (i + 1) ρ h → N ρ h) → g t ρ h (fun ρ1 h1 => b { E with nx := N, ct := N, bk := E.nx } ρ1 h1) (E.xe ρ))
    {ρ : Rho} {h : AH} (h0 : Iv 0 ρ h) (hd : ∀ ρ h, Iv items.length ρ h → E.nx ρ h) : wLoop P g b items E ρ h := by
  have go : ∀ (l : List T) (i : Nat) (ρ : Rho) (h : AH), items.drop i = l → i ≤ items.length → Iv i ρ h → wLoop P g b l E ρ h := by
    intro l
    induction l with
    | nil =>
      intro i ρ h e hi iv
      have hn : i = items.length := by
        have := congrArg List.length e
        simp at this; omega
      subst hn
      exact ⟨hP _ _ _ iv, hd ρ h iv⟩
    | cons t l ih =>
      intro i ρ h e hi iv
      have hlt : i < items.length := by
        have := congrArg List.length e
        simp at this; omega
      have et : items[i]? = some t := by
        have := congrArg List.head? e
        rw [List.head?_drop] at this
        exact this
      exact ⟨hP _ _ _ iv, hs i t ρ h et iv _ fun ρ h iv' => ih (i + 1) ρ h (by rw [← List.drop_drop, e]; rfl) hlt iv'⟩
  exact go items 0 ρ h rfl (Nat.zero_le _) h0
/-- a loop whose turns lean on nothing but one word -/
theorem loop_all {P : AH → Prop} {g : WTg} {b : WSt} {E : EndsT} (Iv : Rho → AH → Prop) (items : List T) (hP : ∀ ρ h, Iv ρ h → P h)
    (hs : ∀ t ∈ items, ∀ ρ h, Iv ρ h → ∀ N : Rho → AH → Prop, (∀ ρ h, Iv ρ h → N ρ h) → g t ρ h (fun ρ1 h1 => b { E with nx := N, ct := N, bk := E.nx } ρ1 h1) (E.xe ρ))
    {ρ : Rho} {h : AH} (h0 : Iv ρ h) (hd : ∀ ρ h, Iv ρ h → E.nx ρ h) : wLoop P g b items E ρ h :=
  loop_inv (fun _ => Iv) items (fun _ => hP) (fun i t ρ h e iv N hN => hs t (List.mem_of_getElem? e) ρ h iv N hN) h0 hd
end TL

namespace TL
open PySem PySem.Spec PyProof.Rows L2
mutual
def costD : PyData → Nat
  | .none => 4
  | .bool _ => 5
  | .int _ => 42
  | .str x => (reprText x).length
  | .list xs => costDs xs + 3
  | .tuple xs => costDs xs + 3
  | .dict _ => 0
def costDs : List PyData → Nat
  | [] => 0
  | x :: xs => costD x + 2 + costDs xs
end
mutual
def tame : PyData → Bool
  | .int i => decide (i.natAbs < 10 ^ 40)
  | .list xs => tames xs
  | .tuple xs => tames xs
  | .dict _ => false
  | .none => true
  | .bool _ => true
  | .str _ => true
def tames : List PyData → Bool
  | [] => true
  | x :: xs => tame x && tames xs
end
theorem textFrom_le : ∀ (ts : List Str) (k : Nat) (acc : Str), (textFrom k acc ts).length ≤ acc.length + (ts.map fun t => t.length + 2).sum
  | [], k, acc => by simp [textFrom]
  | t :: r, k, acc => by
    have ih := textFrom_le r (k + 1) (acc ++ (if k > 0 then ", " else "" : String) ++ t)
    have e : (textFrom k acc (t :: r)) = textFrom (k + 1) (acc ++ (if k > 0 then ", " else "" : String) ++ t) r := rfl
    rw [e]
    refine Nat.le_trans ih ?_
    rw [strLen_append, strLen_append, List.map_cons, List.sum_cons]
    have : (Str.ofString (if k > 0 then ", " else "" : String)).length ≤ 2 := by split <;> decide
    omega
theorem int_shown {i : Int} (h : i.natAbs < 10 ^ 40) : (Str.ofString (toString i)).length ≤ 41 := by
  rw [PySem.ofString_length]
  exact int_text_length_le10 (k := 40) (by decide) h
theorem log_of {i : Int} (h : i.natAbs < 10 ^ 40) : i.natAbs.log2 < 1920 :=
  Nat.lt_trans (PySem.Flt.log2_lt_of (show 0 < 133 by decide) (Nat.lt_of_lt_of_le h (by decide))) (by decide)
mutual
theorem shown_le : ∀ d : PyData, tame d = true → d.shown.length ≤ costD d ∧ d.showable = true
  | .none, _ => by simp only [PyData.shown, costD, PyData.showable]; exact ⟨by decide, trivial⟩
  | .bool b, _ => by simp only [PyData.shown, costD, PyData.showable]; exact ⟨by cases b <;> decide, trivial⟩
  | .int i, h => by
    simp only [tame, decide_eq_true_eq] at h
    simp only [PyData.shown, costD, PyData.showable, decide_eq_true_eq]
    exact ⟨Nat.le_succ_of_le (int_shown h), log_of h⟩
  | .str x, _ => by simp only [PyData.shown, costD, PyData.showable]; exact ⟨Nat.le_refl _, trivial⟩
  | .list xs, h => by
    simp only [tame] at h
    obtain ⟨a, b⟩ := shownAll_le xs h
    simp only [PyData.shown, costD, PyData.showable]
    refine ⟨?_, b⟩
    unfold listText
    rw [strLen_append]
    have := textFrom_le (PyData.shownAll xs) 0 "["
    have e1 : (Str.ofString "[").length = 1 := by decide
    have e2 : (Str.ofString "]").length = 1 := by decide
    unfold piled at a
    omega
  | .tuple xs, h => by
    simp only [tame] at h
    obtain ⟨a, b⟩ := shownAll_le xs h
    simp only [PyData.shown, costD, PyData.showable]
    refine ⟨?_, b⟩
    unfold tupleText
    rw [strLen_append, strLen_append]
    have e1 : (Str.ofString "(").length = 1 := by decide
    have e2 : (Str.ofString (if (PyData.shownAll xs).length == 1 then ",)" else ")" : String)).length ≤ 2 := by split <;> decide
    have e3 : (Str.join ", " (PyData.shownAll xs)).length ≤ piled (PyData.shownAll xs) := by
      by_cases z : PyData.shownAll xs = []
      · rw [z]; decide
      · have := join_length_add _ z; omega
    omega
  | .dict _, h => by simp [tame] at h
theorem shownAll_le : ∀ ds : List PyData, tames ds = true → piled (PyData.shownAll ds) ≤ costDs ds ∧ PyData.showableAll ds = true
  | [], _ => by simp only [PyData.shownAll, costDs, PyData.showableAll]; exact ⟨by decide, trivial⟩
  | d :: ds, h => by
    simp only [tames, Bool.and_eq_true] at h
    obtain ⟨a, b⟩ := shown_le d h.1
    obtain ⟨a', b'⟩ := shownAll_le ds h.2
    simp only [PyData.shownAll, costDs, PyData.showableAll, Bool.and_eq_true, piled_cons]
    exact ⟨by omega, b, b'⟩
end
theorem repr_of {h : AH} {t : T} {d : PyData} (e : toD h deep t = some d) (ht : tame d = true) (hc : costD d ≤ 10000000) : opRepr h [t] = some (.str d.shown) := by
  obtain ⟨a, b⟩ := shown_le d ht
  unfold opRepr
  simp only [e]
  rw [if_pos ⟨b, Nat.le_trans a (Nat.le_trans hc (by decide))⟩]
theorem ne_s {h : AH} {a b : Str} : opEq true h (.str a) (.str b) = some (.bl (!decide (a = b))) := rfl
theorem eq_s {h : AH} {a b : Str} : opEq false h (.str a) (.str b) = some (.bl (decide (a = b))) := rfl
theorem ne_same {h : AH} {a : Str} : opEq true h (.str a) (.str a) = some (.bl false) := by simp [ne_s]
theorem eq_same {h : AH} {a : Str} : opEq false h (.str a) (.str a) = some (.bl true) := by simp [eq_s]
/-- a thing that repr tells: its text leans on the data alone -/
def Tells (h : AH) (t : T) (s : Str) : Prop := opRepr h [t] = some (.str s)

def tupN (xs : List Nat) : T := .tup (xs.map fun (n : Nat) => .int (n : Int))
def datN (xs : List Nat) : PyData := .tuple (xs.map fun (n : Nat) => .int (n : Int))
theorem mapM_eq {α β γ : Type} {f : β → Option γ} {g : α → β} {k : α → γ} : ∀ xs : List α, (∀ x ∈ xs, f (g x) = some (k x)) → (xs.map g).mapM f = some (xs.map k)
  | [], _ => rfl
  | x :: xs, h => by rw [List.map_cons, List.mapM_cons, h x List.mem_cons_self, mapM_eq xs fun y hy => h y (List.mem_cons_of_mem _ hy)]; rfl
theorem toD_tup {h : AH} {n : Nat} {ts : List T} {ds : List PyData} (e : ts.mapM (toD h n) = some ds) : toD h (n + 1) (.tup ts) = some (.tuple ds) := by
  show (ts.mapM (toD h n)).map PyData.tuple = _
  rw [e]; rfl
theorem toD_lst {h : AH} {n : Nat} {ts : List T} {ds : List PyData} (e : ts.mapM (toD h n) = some ds) : toD h (n + 1) (.lst ts) = some (.list ds) := by
  show (match asL h (.lst ts) with | some xs => (xs.mapM (toD h n)).map PyData.list | none => none) = _
  rw [asL_l]
  show (ts.mapM (toD h n)).map PyData.list = _
  rw [e]; rfl
theorem toD_tupN {h : AH} {n : Nat} (xs : List Nat) : toD h (n + 2) (tupN xs) = some (datN xs) := toD_tup (mapM_eq xs fun _ _ => rfl)
theorem tame_datN {xs : List Nat} (hx : ∀ x ∈ xs, x < 10 ^ 40) : tame (datN xs) = true := by
  unfold datN
  simp only [tame]
  induction xs with
  | nil => simp [tames]
  | cons x xs ih =>
    simp only [List.map_cons, tames, tame, Bool.and_eq_true, decide_eq_true_eq]
    exact ⟨by have := hx x List.mem_cons_self; omega, ih fun y hy => hx y (List.mem_cons_of_mem _ hy)⟩
theorem cost_ints : ∀ xs : List Nat, costDs (xs.map fun (n : Nat) => PyData.int (n : Int)) = 44 * xs.length
  | [] => by simp [costDs]
  | x :: xs => by simp only [List.map_cons, costDs, costD, cost_ints xs, List.length_cons]; omega
theorem cost_datN (xs : List Nat) : costD (datN xs) = 44 * xs.length + 3 := by
  unfold datN
  simp only [costD, cost_ints]
theorem repr_tupN {h : AH} {xs : List Nat} (hl : xs.length ≤ 100000) (hx : ∀ x ∈ xs, x < 10 ^ 40) : opRepr h [tupN xs] = some (.str (datN xs).shown) :=
  repr_of (toD_tupN xs) (tame_datN hx) (by rw [cost_datN]; omega)

/-- a tree of plain data: so many deep at most, repr of it so long at most -/
def Dt (k c : Nat) (t : T) : Prop := ∃ d, (∀ h n, k ≤ n → toD h n t = some d) ∧ tame d = true ∧ costD d ≤ c
def dat (t : T) : PyData := (toD [] deep t).getD .none
theorem Dt.dat {k c : Nat} {t : T} (d : Dt k c t) (hk : k ≤ 40) {h : AH} {n : Nat} (hn : k ≤ n) : toD h n t = some (dat t) := by
  obtain ⟨x, e, _⟩ := d
  unfold TL.dat
  rw [e h n hn, e [] deep hk]; rfl
theorem Dt.tame {k c : Nat} {t : T} (d : Dt k c t) (hk : k ≤ 40) : TL.tame (TL.dat t) = true ∧ costD (TL.dat t) ≤ c := by
  obtain ⟨x, e, f, g⟩ := d
  unfold TL.dat
  rw [e [] deep hk]; exact ⟨f, g⟩
theorem Dt.mono {k c k' c' : Nat} {t : T} (d : Dt k c t) (hk : k ≤ k') (hc : c ≤ c') : Dt k' c' t :=
  let ⟨x, e, f, g⟩ := d
  ⟨x, fun h n hn => e h n (Nat.le_trans hk hn), f, Nat.le_trans g hc⟩
theorem dt_int {i : Int} (h : i.natAbs < 10 ^ 40) : Dt 1 42 (.int i) := ⟨.int i, fun h n hn => by cases n with | zero => omega | succ n => rfl, by simpa [tame] using h, Nat.le_refl _⟩
theorem dt_bl {b : Bool} : Dt 1 5 (.bl b) := ⟨.bool b, fun h n hn => by cases n with | zero => omega | succ n => rfl, by simp [tame], Nat.le_refl _⟩
theorem dt_non : Dt 1 4 .non := ⟨.none, fun h n hn => by cases n with | zero => omega | succ n => rfl, by simp [tame], Nat.le_refl _⟩
theorem dt_str {x : Str} {c : Nat} (ok : PyData.strOk x = true) (hc : (reprText x).length ≤ c) : Dt 1 c (.str x) :=
  ⟨.str x, fun h n hn => by cases n with | zero => omega | succ n => (show (if PyData.strOk x then some (PyData.str x) else none) = _; rw [if_pos ok]), by simp [tame], hc⟩
theorem dts {k c : Nat} : ∀ {ts : List T}, (∀ t ∈ ts, Dt k c t) → ∃ ds, (∀ h n, k ≤ n → ts.mapM (toD h n) = some ds) ∧ tames ds = true ∧ costDs ds ≤ (c + 2) * ts.length ∧ ds.length = ts.length
  | [], _ => ⟨[], fun _ _ _ => rfl, by simp [tames], by simp [costDs], rfl⟩
  | t :: ts, h => by
    obtain ⟨d, a, b, e⟩ := h t List.mem_cons_self
    obtain ⟨ds, a', b', e', l⟩ := dts fun y hy => h y (List.mem_cons_of_mem _ hy)
    refine ⟨d :: ds, fun h n hn => by rw [List.mapM_cons, a h n hn, a' h n hn]; rfl, by simp [tames, b, b'], ?_, by simp [l]⟩
    simp only [costDs, List.length_cons, Nat.mul_succ]
    omega
theorem dt_tup {k c L : Nat} {ts : List T} (h : ∀ t ∈ ts, Dt k c t) (hl : ts.length ≤ L) : Dt (k + 1) ((c + 2) * L + 3) (.tup ts) := by
  obtain ⟨ds, a, b, e, _⟩ := dts h
  refine ⟨.tuple ds, fun h n hn => ?_, by simpa [tame] using b, ?_⟩
  · obtain ⟨m, rfl⟩ : ∃ m, n = m + 1 := ⟨n - 1, by omega⟩
    exact toD_tup (a h m (by omega))
  · have := Nat.mul_le_mul_left (c + 2) hl
    simp only [costD]; omega
theorem dt_lst {k c L : Nat} {ts : List T} (h : ∀ t ∈ ts, Dt k c t) (hl : ts.length ≤ L) : Dt (k + 1) ((c + 2) * L + 3) (.lst ts) := by
  obtain ⟨ds, a, b, e, _⟩ := dts h
  refine ⟨.list ds, fun h n hn => ?_, by simpa [tame] using b, ?_⟩
  · obtain ⟨m, rfl⟩ : ∃ m, n = m + 1 := ⟨n - 1, by omega⟩
    exact toD_lst (a h m (by omega))
  · have := Nat.mul_le_mul_left (c + 2) hl
    simp only [costD]; omega
/-- what repr tells of a tree of data -/
def sh (t : T) : Str := (dat t).shown
theorem repr_dt {h : AH} {k c : Nat} {t : T} (d : Dt k c t) (hk : k ≤ 40) (hc : c ≤ 10000000) : opRepr h [t] = some (.str (sh t)) :=
  repr_of (d.dat hk hk) (d.tame hk).1 (Nat.le_trans (d.tame hk).2 hc)
mutual
theorem eqv_self : ∀ d : PyData, tame d = true → PyData.eqv d d = true
  | .none, _ => rfl
  | .bool b, _ => by simp [PyData.eqv]
  | .int i, _ => by simp [PyData.eqv]
  | .str x, _ => by simp [PyData.eqv]
  | .list xs, h => by rw [PyData.eqv]; exact eqvAll_self xs (by simpa [tame] using h)
  | .tuple xs, h => by rw [PyData.eqv]; exact eqvAll_self xs (by simpa [tame] using h)
  | .dict _, h => by simp [tame] at h
theorem eqvAll_self : ∀ xs : List PyData, tames xs = true → PyData.eqvAll xs xs = true
  | [], _ => rfl
  | x :: xs, h => by
    simp only [tames, Bool.and_eq_true] at h
    rw [PyData.eqvAll, eqv_self x h.1, eqvAll_self xs h.2]; rfl
end
theorem eq_d {h : AH} {a b : T} {da db : PyData} {neg : Bool} (ha : toD h deep a = some da) (hb : toD h deep b = some db) : opEq neg h a b = some (.bl (if neg then !PyData.eqv da db else PyData.eqv da db)) := by
  unfold opEq
  split
  · rename_i x y
    have e1 : da = .str x := by
      have : (if PyData.strOk x then some (PyData.str x) else none) = some da := ha
      split at this <;> simp_all
    have e2 : db = .str y := by
      have : (if PyData.strOk y then some (PyData.str y) else none) = some db := hb
      split at this <;> simp_all
    subst e1 e2
    simp [PyData.eqv, Bool.beq_eq_decide_eq]
  · rw [ha, hb]
theorem eq_self {h : AH} {k c : Nat} {t : T} {neg : Bool} (d : Dt k c t) (hk : k ≤ 40) : opEq neg h t t = some (.bl (!neg)) := by
  rw [eq_d (d.dat hk hk) (d.dat hk hk), eqv_self _ (d.tame hk).1]
  cases neg <;> rfl
theorem eqvAll_nat : ∀ a b : List Nat, PyData.eqvAll (a.map fun (n : Nat) => PyData.int (n : Int)) (b.map fun (n : Nat) => PyData.int (n : Int)) = decide (a = b)
  | [], [] => by simp [PyData.eqvAll]
  | [], _ :: _ => by simp [PyData.eqvAll]
  | _ :: _, [] => by simp [PyData.eqvAll]
  | x :: a, y :: b => by
    simp only [List.map_cons, PyData.eqvAll, eqvAll_nat a b, PyData.eqv]
    rw [Bool.eq_iff_iff]
    simp only [Bool.and_eq_true, decide_eq_true_eq, beq_iff_eq, List.cons.injEq, Int.ofNat_inj]
theorem eq_tupN {h : AH} {a b : List Nat} {neg : Bool} : opEq neg h (tupN a) (tupN b) = some (.bl (if neg then !decide (a = b) else decide (a = b))) := by
  rw [eq_d (toD_tupN a) (toD_tupN b)]
  unfold datN
  simp only [PyData.eqv, eqvAll_nat]
theorem eq_i {h : AH} {i j : Int} : opEq false h (.int i) (.int j) = some (.bl (decide (i = j))) := by
  show some (T.bl (i == j)) = _
  rw [Bool.beq_eq_decide_eq]
theorem ne_i {h : AH} {i j : Int} : opEq true h (.int i) (.int j) = some (.bl (!decide (i = j))) := by
  show some (T.bl (!(i == j))) = _
  rw [Bool.beq_eq_decide_eq]
theorem dt_tupN {xs : List Nat} {L : Nat} (hl : xs.length ≤ L) (hx : ∀ x ∈ xs, x < 10 ^ 40) : Dt 2 (44 * L + 3) (tupN xs) :=
  dt_tup (k := 1) (c := 42) (fun t ht => by
    obtain ⟨n, hn, rfl⟩ := List.mem_map.mp ht
    exact dt_int (by have := hx n hn; omega)) (by simpa using hl)
def Nats (m : Nat) (ys : List T) : Prop := ∀ x ∈ ys, ∃ n : Nat, n < m ∧ x = .int n
theorem Nats.nil {m : Nat} : Nats m [] := fun _ h => by cases h
theorem Nats.snoc {m : Nat} {ys : List T} {y : T} (h : Nats m ys) (g : ∃ n : Nat, n < m ∧ y = .int n) : Nats m (ys ++ [y]) := fun x hx => by
  rcases List.mem_append.mp hx with q | q
  · exact h x q
  · rw [List.mem_singleton.mp q]; exact g
theorem Nats.list {m : Nat} : ∀ {ys : List T}, Nats m ys → ∃ t : List Nat, ys = t.map (fun (n : Nat) => T.int (n : Int)) ∧ t.length = ys.length ∧ ∀ n ∈ t, n < m
  | [], _ => ⟨[], rfl, rfl, by simp⟩
  | y :: ys, h => by
    obtain ⟨n, hn, rfl⟩ := h y List.mem_cons_self
    obtain ⟨t, e, l, a⟩ := Nats.list (ys := ys) fun x hx => h x (List.mem_cons_of_mem _ hx)
    exact ⟨n :: t, by rw [e]; rfl, by simp [l], fun x hx => by rcases List.mem_cons.mp hx with rfl | q; exact hn; exact a x q⟩
theorem x_popAt {h : AH} {x : T} {ys : List T} {R : T → AH → Prop} : mPopAt h x ys R = AsI1 ys fun i => LCell h x fun n ts => (-(2 ^ 63) ≤ i ∧ i < 2 ^ 63) ∧ Got (seqIndex? i ts.length) fun k => Got ts[k]? fun y => R y (h.set n (.lst (ts.eraseIdx k))) := by
  simp only [mPopAt, AsI1, LCell, Got]
  apply propext
  constructor
  · rintro ⟨n, ts, i, k, y, a, b, c, d, e, f, g, r⟩; exact ⟨i, b, n, ts, a, c, ⟨d, e⟩, k, f, y, g, r⟩
  · rintro ⟨i, b, n, ts, a, c, ⟨d, e⟩, k, f, y, g, r⟩; exact ⟨n, ts, i, k, y, a, b, c, d, e, f, g, r⟩
theorem atI_map {α : Type} {f : α → T} {xs : List α} {n : Nat} (h : n < xs.length) : atI (xs.map f) (n : Int) = some (f xs[n]) := atI_nat (by rw [List.getElem?_map, List.getElem?_eq_getElem h]; rfl)
theorem ix_tupN {h : AH} {xs : List Nat} {n : Nat} (hn : n < xs.length) : opIx h (tupN xs) (.int (n : Int)) = some (.int ((xs.getD n 0 : Nat) : Int)) := by
  show atI (xs.map _) (n : Int) = _
  rw [atI_map hn, List.getD_eq_getElem?_getD, List.getElem?_eq_getElem hn]; rfl
theorem len_tupN {h : AH} {xs : List Nat} : opLen h [tupN xs] = some (.int xs.length) := by
  show some (T.int ((xs.map _).length : Int)) = _
  rw [List.length_map]
theorem walks_tupN {h : AH} {xs : List Nat} {Ri : List T → (AH → Prop) → AH → Prop} : Walks h (tupN xs) Ri = Ri (xs.map fun (n : Nat) => T.int (n : Int)) (fun _ => True) h := walks_tup
end TL

namespace TL
open PySem PySem.Spec PyProof.Rows L2
def DCell (h : AH) (x : T) (K : Nat → Cell → Prop) : Prop := ∃ n c, x = .ref n ∧ h[n]? = some c ∧ K n c
theorem dcell_r {h : AH} {n : Nat} {c : Cell} {K : Nat → Cell → Prop} (e : h[n]? = some c) : DCell h (.ref n) K = K n c := by simp [DCell, e]
section
variable {ρ : Rho} {h : AH} {R : T → AH → Prop} {X : XC} {wo wi : WEx} {t : T} {Rn : Rho → AH → Prop}
theorem x_gsubD : gSubD wo wi t ρ h Rn X = wo ρ h (fun x h1 => wi ρ h1 (fun y h2 => DCell h2 x fun n c => Got (putC c y t) fun c' => Rn ρ (h2.set n c')) X) X := by
  simp only [gSubD, DCell, Got]
  congr 1; funext x h1; congr 1; funext y h2; apply propext
  constructor
  · rintro ⟨n, c, c', a, b, d, e⟩; exact ⟨n, c, a, b, c', d, e⟩
  · rintro ⟨n, c, a, b, c', d, e⟩; exact ⟨n, c, c', a, b, d, e⟩
theorem x_com2F {wi : WIt} {g g1 : WTg} {wt wt1 : WTe} {wx w : WEx} {vs vs1 : List Nat} : wCom2F wi g wt wx g1 wt1 w vs vs1 ρ h R X = wi ρ h (fun items P h1 => wCom2L P g wt wx g1 wt1 w vs vs1 ρ items [] h1 (fun acc h2 => R (.lst acc) h2)) X := rfl
theorem x_dict0N : wDict0N ρ h R X = R (.ref h.length) (h ++ [.dnt []]) := rfl
theorem lenN_r {n : Nat} {kvs : List (NestedKey × T)} (e : h[n]? = some (.dnt kvs)) : opLenD h [.ref n] = some (.int kvs.length) := by simp [opLenD, e]
theorem x_dict0T : wDict0T ρ h R X = R (.ref h.length) (h ++ [.dtt []]) := rfl
theorem dget_r {n : Nat} {c : Cell} {y : T} (e : h[n]? = some c) : opDGet h (.ref n) y = (getC c y).join := by simp [opDGet, dgetO, e]
theorem din_r {n : Nat} {c : Cell} {y : T} {neg : Bool} (e : h[n]? = some c) : opDIn neg h y (.ref n) = (getC c y).map fun o => .bl (if neg then !o.isSome else o.isSome) := by simp [opDIn, dgetO, e]
theorem lenT_r {n : Nat} {kvs : List (List L2.Key × T)} (e : h[n]? = some (.dtt kvs)) : opLenD h [.ref n] = some (.int kvs.length) := by simp [opLenD, e]
theorem lenK_r {n : Nat} {kvs : List (L2.Key × T)} (e : h[n]? = some (.dct kvs)) : opLenD h [.ref n] = some (.int kvs.length) := by simp [opLenD, e]
theorem int_i {i : Int} : opInt h [.int i] = some (.int i) := rfl
theorem int_b {b : Bool} : opInt h [.bl b] = some (.int (if b then 1 else 0)) := rfl
end
/-- the second source, a value that stays -/
def Stays (x : T) (K : List T → Prop) : Prop := ∃ xs, (x = .tup xs ∨ x = .lst xs) ∧ K xs
theorem stays_t {xs : List T} {K : List T → Prop} : Stays (.tup xs) K = K xs := by simp [Stays]
theorem stays_l {xs : List T} {K : List T → Prop} : Stays (.lst xs) K = K xs := by simp [Stays]
/-- [.. for a in xs for b in a if ..], the heap as it is -/
theorem com2_map {α : Type} {P : AH → Prop} {g g1 : WTg} {wt wt1 : WTe} {wx w : WEx} {vs vs1 : List Nat} {ρ : Rho} {h : AH} {R : List T → AH → Prop} (e : α → T) (inner : α → List T) (xs : List α) (hP : P h)
    (hs : ∀ x ∈ xs, ∀ (acc : List T) (K : List T → AH → Prop), acc.length + (inner x).length ≤ (xs.map inner).flatten.length → K (acc ++ inner x) h → g (e x) (wipeT ρ vs) h (fun ρ2 h2 => wt ρ2 h2 (fun k h3 => if k = true then wx ρ2 h3 (fun x h4 => Stays x fun ys => wCompL (fun _ => True) g1 wt1 w vs1 ρ2 ys acc h4 K) (fun _ _ => False) else K acc h3) (fun _ _ => False)) (fun _ _ => False))
    (hl : (xs.map inner).flatten.length ≤ lim) (r : R (xs.map inner).flatten h) : wCom2L P g wt wx g1 wt1 w vs vs1 ρ (xs.map e) [] h R := by
  have go : ∀ (l : List α) (acc : List T), (∀ x ∈ l, x ∈ xs) → acc.length + (l.map inner).flatten.length ≤ (xs.map inner).flatten.length → R (acc ++ (l.map inner).flatten) h → wCom2L P g wt wx g1 wt1 w vs vs1 ρ (l.map e) acc h R := by
    intro l
    induction l with
    | nil => intro acc _ _ r; exact ⟨hP, by simpa using r⟩
    | cons x l ih =>
      intro acc hm hl r
      have hl' : acc.length + ((inner x).length + (l.map inner).flatten.length) ≤ (xs.map inner).flatten.length := by simpa using hl
      refine ⟨hP, hs x (hm x List.mem_cons_self) acc _ (by omega) ?_⟩
      exact ih _ (fun y hy => hm y (List.mem_cons_of_mem _ hy)) (by rw [List.length_append]; omega) (by simpa using r)
  exact go xs [] (fun _ hx => hx) (by simp) (by simpa using r)
/-- [f x for x in xs if ..], what is left out is none -/
theorem compL_filt {α : Type} {P : AH → Prop} {g : WTg} {wt : WTe} {w : WEx} {vs : List Nat} {ρ : Rho} {h : AH} {R : List T → AH → Prop} (e : α → T) (f : α → Option T) (xs : List α) (hP : P h)
    (hs : ∀ x ∈ xs, ∀ (Ky : T → AH → Prop) (Kn : AH → Prop), (match f x with | some y => Ky y h | none => Kn h) → g (e x) (wipeT ρ vs) h (fun ρ2 h2 => wt ρ2 h2 (fun k h3 => if k = true then w ρ2 h3 Ky (fun _ _ => False) else Kn h3) (fun _ _ => False)) (fun _ _ => False))
    (hl : xs.length ≤ lim) (r : R (xs.filterMap f) h) : wCompL P g wt w vs ρ (xs.map e) [] h R := by
  have go : ∀ (l : List α) (acc : List T), (∀ x ∈ l, x ∈ xs) → acc.length + l.length ≤ lim → R (acc ++ l.filterMap f) h → wCompL P g wt w vs ρ (l.map e) acc h R := by
    intro l
    induction l with
    | nil => intro acc _ _ r; exact ⟨hP, by simpa using r⟩
    | cons x l ih =>
      intro acc hm hl r
      have hl' : acc.length + (l.length + 1) ≤ lim := hl
      refine ⟨hP, hs x (hm x List.mem_cons_self) _ _ ?_⟩
      cases q : f x with
      | some y =>
        rw [List.filterMap_cons, q] at r
        exact ⟨by omega, ih _ (fun y hy => hm y (List.mem_cons_of_mem _ hy)) (by simp; omega) (by simpa using r)⟩
      | none =>
        rw [List.filterMap_cons, q] at r
        exact ih _ (fun y hy => hm y (List.mem_cons_of_mem _ hy)) (by omega) r
  exact go xs [] (fun _ hx => hx) (by simpa using hl) (by simpa using r)
theorem eqvAll_nil (ds : List PyData) : PyData.eqvAll ds [] = ds.isEmpty := by cases ds <;> simp [PyData.eqvAll]
theorem ne_nil {h : AH} {k c : Nat} {xs : List T} {neg : Bool} (hx : ∀ x ∈ xs, Dt k c x) (hk : k ≤ 39) : opEq neg h (.lst xs) (.lst []) = some (.bl (if neg then !xs.isEmpty else xs.isEmpty)) := by
  obtain ⟨ds, e, _, _, l⟩ := dts hx
  have e1 : toD h deep (.lst xs) = some (.list ds) := toD_lst (e h 39 hk)
  have e2 : toD h deep (.lst []) = some (.list []) := rfl
  rw [eq_d e1 e2]
  simp only [PyData.eqv, eqvAll_nil]
  cases xs <;> cases ds <;> simp_all
/-- a tuple of one at least -/
def Sta (t : T) (K : T → List T → Prop) : Prop := ∃ x xs, t = .tup (x :: xs) ∧ K x xs
theorem sta_c {x : T} {xs : List T} {K : T → List T → Prop} : Sta (.tup (x :: xs)) K = K x xs := by simp [Sta, and_assoc]
theorem x_gsta {ρ : Rho} {h : AH} {X : XC} {gs : WTgs} {t : T} {Rn : Rho → AH → Prop} : gSta gs t ρ h Rn X = Sta t fun x xs => gs [x, .lst xs] ρ h Rn fun _ _ => False := rfl
/-- what zip goes through -/
def Zips (h : AH) (x y : T) (Ri : List T → (AH → Prop) → AH → Prop) : Prop := ∃ xs ys, ((x = .tup xs ∧ y = .tup ys ∧ Ri (zipT xs ys) (fun _ => True) h) ∨ (asL h x = some xs ∧ asL h y = some ys ∧ Ri (zipT xs ys) (fun h' => asL h' x = some xs ∧ asL h' y = some ys) h))
theorem x_zip {ρ : Rho} {h : AH} {X : XC} {wr : WAr} {Ri : List T → (AH → Prop) → AH → Prop} : wZip wr ρ h Ri X = wr ρ h (fun ts h1 => Two ts fun x y => Zips h1 x y Ri) X := by
  simp only [wZip, Two, Zips]
  congr 1; funext ts h1; apply propext
  constructor
  · rintro ⟨x, y, xs, ys, e, k⟩; exact ⟨x, y, e, xs, ys, k⟩
  · rintro ⟨x, y, e, xs, ys, k⟩; exact ⟨x, y, xs, ys, e, k⟩
theorem zips_l {h : AH} {x y : T} {xs ys : List T} {Ri : List T → (AH → Prop) → AH → Prop} (e1 : asL h x = some xs) (e2 : asL h y = some ys) (r : Ri (zipT xs ys) (fun h' => asL h' x = some xs ∧ asL h' y = some ys) h) : Zips h x y Ri := ⟨xs, ys, .inr ⟨e1, e2, r⟩⟩
theorem zips_t {h : AH} {xs ys : List T} {Ri : List T → (AH → Prop) → AH → Prop} (r : Ri (zipT xs ys) (fun _ => True) h) : Zips h (.tup xs) (.tup ys) Ri := ⟨xs, ys, .inl ⟨rfl, rfl, r⟩⟩
theorem x_index {ρ : Rho} {h : AH} {X : XC} {wo w : WEx} {R : T → AH → Prop} : wIndex wo w ρ h R X = wo ρ h (fun x h1 => (∃ ts, asL h1 x = some ts) ∧ w ρ h1 (fun y h2 => ∃ ts j, asL h2 x = some ts ∧ flatT y = true ∧ ts.all flatT = true ∧ idxT ts y = some j ∧ R (.int j) h2) X) X := rfl
/-- what enumerate goes through -/
def Enums (h : AH) (x : T) (Ri : List T → (AH → Prop) → AH → Prop) : Prop := (∃ xs, x = .tup xs ∧ Ri (numT xs) (fun _ => True) h) ∨ (∃ xs, x = .lst xs ∧ Ri (numT xs) (fun _ => True) h) ∨ (∃ xs, x = .scr xs ∧ Ri (numT xs) (fun _ => True) h) ∨ ∃ n xs, x = .ref n ∧ h[n]? = some (.lst xs) ∧ Ri (numT xs) (fun h' => h'[n]? = some (.lst xs)) h
theorem x_enum {ρ : Rho} {h : AH} {X : XC} {wr : WAr} {Ri : List T → (AH → Prop) → AH → Prop} : wEnum wr ρ h Ri X = wr ρ h (fun ts h1 => One ts fun x => Enums h1 x Ri) X := rfl
theorem enums_tup {h : AH} {xs : List T} {Ri : List T → (AH → Prop) → AH → Prop} : Enums h (.tup xs) Ri = Ri (numT xs) (fun _ => True) h := by simp [Enums]
theorem enums_lst {h : AH} {xs : List T} {Ri : List T → (AH → Prop) → AH → Prop} : Enums h (.lst xs) Ri = Ri (numT xs) (fun _ => True) h := by simp [Enums]
theorem enums_scr {h : AH} {xs : List T} {Ri : List T → (AH → Prop) → AH → Prop} : Enums h (.scr xs) Ri = Ri (numT xs) (fun _ => True) h := by simp [Enums]
theorem mulS_i {h : AH} {a : Str} {k : Int} : opMulS h (.str a) (.int k) = if 0 ≤ k ∧ k ≤ 1000 ∧ a.length ≤ 1000 then some (.str (repS a k)) else none := rfl
def keyN (xs : List Nat) : List L2.Key := xs.map fun (n : Nat) => .inl (n : Int)
theorem keysOf_tupN (xs : List Nat) : keysOf (tupN xs) = some (keyN xs) := by
  show (xs.map _).mapM keyOf = _
  exact mapM_eq xs fun n _ => rfl
theorem keyN_inj {a b : List Nat} (h : keyN a = keyN b) : a = b := by
  unfold keyN at h
  induction a generalizing b with
  | nil => cases b <;> simp_all
  | cons x a ih =>
    cases b with
    | nil => simp at h
    | cons y b =>
      simp only [List.map_cons, List.cons.injEq, Sum.inl.injEq, Int.ofNat_inj] at h
      rw [h.1, ih h.2]
section
variable {κ : Type} [DecidableEq κ]
theorem aget_none {kvs : List (κ × T)} {k : κ} (h : ∀ p ∈ kvs, p.1 ≠ k) : aget kvs k = none := by
  unfold aget
  rw [List.find?_eq_none.mpr fun p hp => by simpa using h p hp]; rfl
theorem aput_new {kvs : List (κ × T)} {k : κ} {t : T} (h : ∀ p ∈ kvs, p.1 ≠ k) : aput kvs k t = kvs ++ [(k, t)] := by
  unfold aput
  rw [if_neg]
  simp only [List.any_eq_true, decide_eq_true_eq, not_exists, not_and]
  exact h
theorem aget_at {kvs : List (κ × T)} {k : κ} {t : T} : ∀ (n : Nat), kvs[n]? = some (k, t) → (∀ m p, m < n → kvs[m]? = some p → p.1 ≠ k) → aget kvs k = some t := by
  induction kvs with
  | nil => intro n h; simp at h
  | cons q kvs ih =>
    intro n h hm
    cases n with
    | zero =>
      simp only [List.getElem?_cons_zero, Option.some.injEq] at h
      subst h
      simp [aget]
    | succ n =>
      have h0 := hm 0 q (by omega) rfl
      have : aget (q :: kvs) k = aget kvs k := by simp [aget, List.find?_cons, h0]
      rw [this]
      exact ih n (by simpa using h) fun m p hmn hp => hm (m + 1) p (by omega) (by simpa using hp)
end
end TL

namespace TL
open PySem PySem.Spec PyProof.Rows L2
/-- an object of the class c -/
def ICell (h : AH) (x : T) (c : Str) (K : Nat → List (Str × T) → Prop) : Prop := ∃ n fs, x = .ref n ∧ h[n]? = some (.ins c fs) ∧ K n fs
theorem icell_r {h : AH} {n : Nat} {c : Str} {fs : List (Str × T)} {K : Nat → List (Str × T) → Prop} (e : h[n]? = some (.ins c fs)) : ICell h (.ref n) c K = K n fs := by
  apply propext
  constructor
  · rintro ⟨n', fs', e1, e2, k⟩
    cases e1
    rw [e] at e2
    cases e2
    exact k
  · exact fun k => ⟨n, fs, rfl, e, k⟩
section
variable {ρ : Rho} {h : AH} {R : T → AH → Prop} {X : XC} {E : EndsT} {w wo wv : WEx} {wr : WAr} {c f m : Str} {sp : ASp} {op : Op2}
theorem x_fld : wFld c f w ρ h R X = w ρ h (fun x h1 => ICell h1 x c fun _ fs => Got (fget fs f) fun t => R t h1) X := by
  simp only [wFld, ICell, Got]
  congr 1; funext x h1; apply propext
  constructor
  · rintro ⟨n, fs, t, a, b, d, r⟩; exact ⟨n, fs, a, b, t, d, r⟩
  · rintro ⟨n, fs, a, b, t, d, r⟩; exact ⟨n, fs, t, a, b, d, r⟩
theorem x_fldPut : wFldPut c f wo wv E ρ h = wv ρ h (fun y h1 => wo ρ h1 (fun x h2 => ICell h2 x c fun n fs => fs.length < 1000 ∧ E.nx ρ (h2.set n (.ins c (fput f y fs)))) (E.xe ρ)) (E.xe ρ) := rfl
/-- the same object, as it stands now -/
def Again (h : AH) (n : Nat) (c : Str) (K : List (Str × T) → Prop) : Prop := ∃ fs, h[n]? = some (.ins c fs) ∧ K fs
theorem again_r {n : Nat} {fs : List (Str × T)} {K : List (Str × T) → Prop} (e : h[n]? = some (.ins c fs)) : Again h n c K = K fs := by
  apply propext
  constructor
  · rintro ⟨fs', e2, k⟩
    rw [e] at e2
    cases e2
    exact k
  · exact fun k => ⟨fs, e, k⟩
theorem x_fldAug : wFldAug c f wo wv op E ρ h = wo ρ h (fun x h1 => ICell h1 x c fun n fs => Got (fget fs f) fun t => wv ρ h1 (fun y h2 => Again h2 n c fun fs' => fs'.length < 1000 ∧ Got (op h2 t y) fun z => E.nx ρ (h2.set n (.ins c (fput f z fs')))) (E.xe ρ)) (E.xe ρ) := by
  simp only [wFldAug, ICell, Got, Again]
  congr 1; funext x h1; apply propext
  have key : ∀ (n : Nat) (t : T), (fun y h2 => ∃ fs' z, h2[n]? = some (.ins c fs') ∧ fs'.length < 1000 ∧ op h2 t y = some z ∧ E.nx ρ (h2.set n (.ins c (fput f z fs')))) =
      (fun y h2 => ∃ fs', h2[n]? = some (.ins c fs') ∧ fs'.length < 1000 ∧ ∃ z, op h2 t y = some z ∧ E.nx ρ (h2.set n (.ins c (fput f z fs')))) := fun n t => by
    funext y h2; apply propext
    constructor
    · rintro ⟨fs', z, a, b, d, e⟩; exact ⟨fs', a, b, z, d, e⟩
    · rintro ⟨fs', a, b, z, d, e⟩; exact ⟨fs', z, a, b, d, e⟩
  constructor
  · rintro ⟨n, fs, t, a, b, d, r⟩; exact ⟨n, fs, a, b, t, d, by rw [← key]; exact r⟩
  · rintro ⟨n, fs, a, b, t, d, r⟩; exact ⟨n, fs, t, a, b, d, by rw [key]; exact r⟩
theorem x_meth : wMeth c m sp wo wr ρ h R X = wo ρ h (fun x h1 => ICell h1 x c fun n fs => fget fs m = none ∧ wr ρ h1 (fun ts h2 => sp (.ref n :: ts) h2 R X) X) X := rfl
theorem x_make : wMake c sp wr ρ h R X = wr ρ h (fun ts h1 => sp (.ref h1.length :: ts) (h1 ++ [.ins c []]) (fun t h2 => t = .non ∧ R (.ref h1.length) h2) X) X := rfl
theorem x_gtuL {n : Nat} {gs : WTgs} {t : T} {Rn : Rho → AH → Prop} : gTuL n gs t ρ h Rn X = Got (asL h t) fun ts => ts.length = n ∧ gs ts ρ h Rn fun _ _ => False := rfl
end
theorem mulT_i {h : AH} {xs : List T} {k : Int} : opMulT h (.tup xs) (.int k) = if xs ≠ [] ∧ 2 ≤ k ∧ k ≤ 1000 ∧ xs.length ≤ 1000 then some (.tup (List.replicate k.toNat xs).flatten) else none := rfl
end TL

namespace TL
open PySem PySem.Spec PyProof.Rows L2
section
variable {ρ : Rho} {h : AH} {R : T → AH → Prop} {X : XC} {sp : ASp} {wr wk : WAr}
theorem x_callD {dts : List T} : wCallD dts sp wr ρ h R X = wr ρ h (fun ts h1 => sp (ts ++ dts) h1 R X) X := rfl
theorem x_callK {n m : Nat} : wCallK n m sp wr wk ρ h R X = wr ρ h (fun ts h1 => wk ρ h1 (fun us h2 => ts.length = n ∧ us.length = m ∧ sp (ts ++ us) h2 R X) X) X := rfl
theorem x_lenSet {w : WEx} : wLenSet w ρ h R X = w ρ h (fun x h1 => ∃ ns : List Int, asQ h1 x = some (ns.map T.int) ∧ ns.length ≤ 4000 ∧ ∀ ks : List Int, ks.Nodup → (∀ k, k ∈ ks ↔ k ∈ ns) → R (.int (ks.length : Int)) h1) X := rfl
theorem isB_b {n a b : Bool} : opIsB n h (.bl a) (.bl b) = some (.bl (if n then !decide (a = b) else decide (a = b))) := rfl
theorem powB_i {i j : Int} : opPowB h (.int i) (.int j) = if 0 ≤ j ∧ j ≤ 3 ∧ i.natAbs < 2 ^ 1000 then some (.int (i ^ j.toNat)) else none := rfl
theorem x_countD {wo w : WEx} : wCountD wo w ρ h R X = wo ρ h (fun x h1 => (∃ ts, asL h1 x = some ts) ∧ w ρ h1 (fun y h2 => ∃ ds d, toD h2 deep x = some (.list ds) ∧ toD h2 deep y = some d ∧ R (.int ((ds.countP fun z => PyData.eqv z d : Nat) : Int)) h2) X) X := rfl
theorem x_indexD {wo w : WEx} : wIndexD wo w ρ h R X = wo ρ h (fun x h1 => (∃ ts, asL h1 x = some ts) ∧ w ρ h1 (fun y h2 => ∃ (ds : List PyData) (d : PyData) (j : Nat), toD h2 deep x = some (.list ds) ∧ toD h2 deep y = some d ∧ ds.findIdx? (fun z => PyData.eqv z d) = some j ∧ R (.int (j : Int)) h2) X) X := rfl
end
theorem toD_refN {h : AH} {n m : Nat} {l : List (List Nat)} (e : h[m]? = some (.lst (l.map tupN))) : toD h (n + 3) (.ref m) = some (.list (l.map datN)) := by
  show (match asL h (.ref m) with | some xs => (xs.mapM (toD h (n + 2))).map PyData.list | none => none) = _
  rw [asL_r, asR_r e]
  show Option.map PyData.list ((l.map tupN).mapM (toD h (n + 2))) = _
  rw [mapM_eq l fun _ _ => toD_tupN _]; rfl
theorem eqv_datN {a b : List Nat} : PyData.eqv (datN a) (datN b) = decide (a = b) := eqvAll_nat a b
end TL

namespace TL
open PySem PySem.Spec PyProof.Rows L2
section
variable {ρ : Rho} {h : AH} {R : T → AH → Prop} {X : XC} {wa wb : WEx} {wr : WAr}
theorem min3_i {i j k : Int} : opMin3 h [.int i, .int j, .int k] = some (.int (if j < i then (if k < j then k else j) else if k < i then k else i)) := rfl
theorem mulL_l {xs : List T} {k : Int} : opMulL h (.lst xs) (.int k) = if okRep xs.length k then some (.lst (List.replicate k.toNat xs).flatten) else none := rfl
theorem x_mulC : wMulC wa wb ρ h R X = wa ρ h (fun x h1 => wb ρ h1 (fun y h2 => AsI y fun k => Got (asR h2 x) fun xs => okRep xs.length k ∧ R (.ref h2.length) (h2 ++ [.lst (List.replicate k.toNat xs).flatten])) X) X := rfl
def Three (ts : List T) (K : T → T → T → Prop) : Prop := ∃ t u v, ts = [t, u, v] ∧ K t u v
theorem three_3 {t u v : T} {K : T → T → T → Prop} : Three [t, u, v] K = K t u v := by simp [Three, and_assoc]
theorem x_par3 {E : EndsT} {i j l : Nat} : wPar3 i j l wr E ρ h = wr ρ h (fun ts h1 => Three ts fun t u v => E.nx (((ρ.set i (some t)).set j (some u)).set l (some v)) h1) (E.xe ρ) := rfl
theorem x_raise {E : EndsT} {c : Str} : wRaise c E ρ h = E.xc ⟨c, none⟩ ρ h := rfl
theorem asR_l {xs : List T} : asR h (.lst xs) = some xs := rfl
theorem x_rg2B {Ri : List T → (AH → Prop) → AH → Prop} : wRg2B wr ρ h Ri X = wr ρ h (fun ts h1 => AsI2 ts fun m n => Ri (rangeT m (n - m).toNat) (fun _ => True) h1) X := rfl
end
end TL

namespace TL
open PySem PySem.Spec PyProof.Rows L2
section
variable {ρ : Rho} {h : AH} {R : T → AH → Prop} {X : XC} {E : EndsT} {u v : WSt} {w : WEx} {tab : List (Str × Bool)}
/-- a caught exception of a class of the table -/
def ECell (h : AH) (x : T) (tab : List (Str × Bool)) (K : Bool → Prop) : Prop := ∃ n c b, x = .ref n ∧ h[n]? = some (.exc c) ∧ tab.lookup c = some b ∧ K b
theorem ecell_r {n : Nat} {c : Str} {b : Bool} {K : Bool → Prop} (e : h[n]? = some (.exc c)) (l : tab.lookup c = some b) : ECell h (.ref n) tab K = K b := by
  apply propext
  constructor
  · rintro ⟨n', c', b', e1, e2, e3, k⟩
    cases e1
    rw [e] at e2; cases e2
    rw [l] at e3; cases e3
    exact k
  · intro k; exact ⟨n, c, b, rfl, e, l, k⟩
theorem x_isE : wIsE tab w ρ h R X = w ρ h (fun x h1 => ECell h1 x tab fun b => R (.bl b) h1) X := rfl
def TryK (tab : List (Str × Bool)) (v : WSt) (E : EndsT) (c : Exc) (ρ' : Rho) (h' : AH) : Prop := match tab.lookup c.name with
  | some true => v { E with xc := fun _ _ _ => False } ρ' h'
  | some false => E.xc c ρ' h'
  | none => False
def TryAsK (i : Nat) (tab : List (Str × Bool)) (v : WSt) (E : EndsT) (c : Exc) (ρ' : Rho) (h' : AH) : Prop := match tab.lookup c.name with
  | some true => c.fs = none ∧ v { nx := fun ρ2 h2 => E.nx (ρ2.set i none) h2, rt := E.rt, bk := fun ρ2 h2 => E.bk (ρ2.set i none) h2, ct := fun ρ2 h2 => E.ct (ρ2.set i none) h2, xc := fun _ _ _ => False } (ρ'.set i (some (.ref h'.length))) (h' ++ [.exc c.name])
  | some false => E.xc c ρ' h'
  | none => False
theorem x_try : wTry u tab v E ρ h = u { E with xc := TryK tab v E } ρ h := rfl
theorem x_tryAs {i : Nat} : wTryAs i u tab v E ρ h = u { E with xc := TryAsK i tab v E } ρ h := rfl
theorem tryK_t {c : Exc} {ρ' : Rho} {h' : AH} (l : tab.lookup c.name = some true) : TryK tab v E c ρ' h' = v { E with xc := fun _ _ _ => False } ρ' h' := by
  unfold TryK; rw [l]
theorem tryAsK_t {i : Nat} {c : Str} {ρ' : Rho} {h' : AH} (l : tab.lookup c = some true) : TryAsK i tab v E ⟨c, none⟩ ρ' h' = v { nx := fun ρ2 h2 => E.nx (ρ2.set i none) h2, rt := E.rt, bk := fun ρ2 h2 => E.bk (ρ2.set i none) h2, ct := fun ρ2 h2 => E.ct (ρ2.set i none) h2, xc := fun _ _ _ => False } (ρ'.set i (some (.ref h'.length))) (h' ++ [.exc c]) := by
  unfold TryAsK
  have : tab.lookup (⟨c, none⟩ : Exc).name = some true := l
  rw [this]; simp
theorem xe_xc {c : Exc} : E.xe ρ c h = E.xc c ρ h := rfl
end
theorem head_at {hh : AH} {n : Nat} {C : Cell} {rest : AH} (e : hh.length = n) : (hh ++ C :: rest)[n]? = some C := by
  rw [← e, List.getElem?_append_right (Nat.le_refl _), Nat.sub_self]; rfl
theorem head_set {hh : AH} {n : Nat} {C D : Cell} {rest : AH} (e : hh.length = n) : (hh ++ C :: rest).set n D = hh ++ D :: rest := by
  rw [← e, List.set_append_right _ _ (Nat.le_refl _), Nat.sub_self]; rfl
theorem tail_at {hh : AH} {n : Nat} {C x : Cell} {junk : AH} (e : hh.length = n) : (hh ++ C :: (junk ++ [x]))[n + 1 + junk.length]? = some x := by
  rw [show hh ++ C :: (junk ++ [x]) = (hh ++ C :: junk) ++ [x] by simp]
  rw [show n + 1 + junk.length = (hh ++ C :: junk).length by simp; omega]
  exact List.getElem?_concat_length
theorem tail_set {hh : AH} {n : Nat} {C x y : Cell} {junk : AH} (e : hh.length = n) : (hh ++ C :: (junk ++ [x])).set (n + 1 + junk.length) y = hh ++ C :: (junk ++ [y]) := by
  rw [show hh ++ C :: (junk ++ [x]) = (hh ++ C :: junk) ++ [x] by simp]
  rw [show n + 1 + junk.length = (hh ++ C :: junk).length by simp; omega]
  rw [List.set_append_right _ _ (Nat.le_refl _), Nat.sub_self]; simp
theorem add_rl {h : AH} {n : Nat} {xs ys : List T} (e : h[n]? = some (.lst xs)) : opAdd h (.ref n) (.lst ys) = if xs.length + ys.length ≤ lim then some (.lst (xs ++ ys)) else none := by
  show (match asR h (.ref n), asR h (.lst ys) with | some i, some j => if i.length + j.length ≤ lim then some (T.lst (i ++ j)) else none | _, _ => none) = _
  rw [asR_r e]; rfl
end TL

namespace TL
open PySem PySem.Spec PyProof.Rows L2
section
variable {ρ : Rho} {h : AH} {R : T → AH → Prop} {X : XC} {w : WEx} {wr : WAr}
def AsI3 (ts : List T) (K : Int → Int → Int → Prop) : Prop := ∃ i j c, ts = [.int i, .int j, .int c] ∧ K i j c
theorem asI3_i {a b c : Int} {K : Int → Int → Int → Prop} : AsI3 [.int a, .int b, .int c] K = K a b c := by simp [AsI3, and_assoc]
theorem x_rg3 {Ri : List T → (AH → Prop) → AH → Prop} : wRg3 wr ρ h Ri X = wr ρ h (fun ts h1 => AsI3 ts fun i j c => ∃ n, RgC i j c n ∧ Ri (rangeS i c n) (fun _ => True) h1) X := by
  simp only [wRg3, AsI3]
  congr 1; funext ts h1; apply propext
  constructor
  · rintro ⟨i, j, c, n, e, k⟩; exact ⟨i, j, c, e, n, k⟩
  · rintro ⟨i, j, c, e, n, k⟩; exact ⟨i, j, c, n, e, k⟩
theorem x_sorted : wSorted w ρ h R X = w ρ h (fun x h1 => ∃ (xs : List T) (ns : List Int), asL h1 x = some xs ∧ xs = ns.map T.int ∧ ∀ ns' : List Int, ns'.Perm ns → ns'.Pairwise (· ≤ ·) → R (.lst (ns'.map T.int)) h1) X := rfl
end
def optT : Option Nat → T
  | some n => .int (n : Int)
  | none => .non
theorem isN_int {h : AH} {i : Int} : opIsN true h (.int i) .non = some (.bl true) := rfl
theorem isN_tup {h : AH} {xs : List T} : opIsN true h (.tup xs) .non = some (.bl true) := rfl
theorem isN_non {h : AH} : opIsN true h .non .non = some (.bl false) := rfl
theorem x_sortedUp {ρ : Rho} {h : AH} {R : T → AH → Prop} {X : XC} {w : WEx} : wSortedUp w ρ h R X = w ρ h (fun x h1 => ∃ (xs : List T) (ps : List (Int × Int)), asL h1 x = some xs ∧ xs = ps.map prT ∧ ps.Pairwise prLe ∧ R (.lst xs) h1) X := rfl
theorem eq_bl {h : AH} {a b : Bool} {neg : Bool} : opEq neg h (.bl a) (.bl b) = some (.bl (if neg then !(a == b) else (a == b))) := by
  rw [eq_d (da := .bool a) (db := .bool b) rfl rfl]
  cases a <;> cases b <;> cases neg <;> rfl
theorem at0 {x : T} {xs : List T} : atI (x :: xs) 0 = some x := by
  have := atI_nat (xs := x :: xs) (j := 0) rfl
  exact this
theorem at1 {x y : T} {xs : List T} : atI (x :: y :: xs) 1 = some y := by
  have := atI_nat (xs := x :: y :: xs) (j := 1) rfl
  exact this
theorem at2 {x y z : T} {xs : List T} : atI (x :: y :: z :: xs) 2 = some z := by
  have := atI_nat (xs := x :: y :: z :: xs) (j := 2) rfl
  exact this
end TL

namespace TL
open PySem PySem.Spec PyProof.Rows L2
section
variable {ρ : Rho} {h : AH} {R : T → AH → Prop} {X : XC} {wr wk : WAr}
theorem x_enumZ {Ri : List T → (AH → Prop) → AH → Prop} : wEnumZ wr ρ h Ri X = wr ρ h (fun ts h1 => Two ts fun x y => ∃ xs ys, asL h1 x = some xs ∧ asL h1 y = some ys ∧ Ri (numT (zipT xs ys)) (fun h' => asL h' x = some xs ∧ asL h' y = some ys) h1) X := by
  simp only [wEnumZ, Two]
  congr 1; funext ts h1; apply propext
  constructor
  · rintro ⟨x, y, xs, ys, e, k⟩; exact ⟨x, y, e, xs, ys, k⟩
  · rintro ⟨x, y, e, xs, ys, k⟩; exact ⟨x, y, xs, ys, e, k⟩
theorem x_minP {w : WEx} : wMinP w ρ h R X = w ρ h (fun x h1 => ∃ xs ps, asL h1 x = some xs ∧ xs = ps.map prT ∧ ps ≠ [] ∧ ∀ p ∈ ps, (∀ q ∈ ps, pairLt q p = false) → R (prT p) h1) X := rfl
theorem x_minD : wMinD wr wk ρ h R X = wr ρ h (fun ts h1 => wk ρ h1 (fun us h2 => One ts fun x => One us fun d => ∃ xs ps, asL h2 x = some xs ∧ xs = ps.map prT ∧ (ps = [] → R d h2) ∧ ∀ p ∈ ps, (∀ q ∈ ps, pairLt q p = false) → R (prT p) h2) X) X := by
  simp only [wMinD, One]
  congr 1; funext ts h1; congr 1; funext us h2; apply propext
  constructor
  · rintro ⟨x, d, xs, ps, e, e2, k⟩; exact ⟨x, e, d, e2, xs, ps, k⟩
  · rintro ⟨x, e, d, e2, xs, ps, k⟩; exact ⟨x, d, xs, ps, e, e2, k⟩
end
theorem numZ_map (f g : Nat → T) (n : Nat) : numT (zipT ((List.range n).map f) ((List.range n).map g)) = (List.range n).map fun (i : Nat) => T.tup [.int (i : Int), .tup [f i, g i]] := by
  unfold numT zipT
  rw [List.zipWith_map]
  apply List.ext_getElem?
  intro i
  rw [List.getElem?_map, List.getElem?_zipIdx, List.getElem?_zipWith, List.getElem?_map]
  by_cases hi : i < n
  · rw [List.getElem?_range hi]; simp
  · rw [List.getElem?_eq_none (by rw [List.length_range]; omega)]; rfl
end TL

namespace TL
open PySem PySem.Spec PyProof.Rows L2
def TTCell (h : AH) (x : T) (K : Nat → List (List L2.Key × T) → Prop) : Prop := ∃ n kvs, x = .ref n ∧ h[n]? = some (.dtt kvs) ∧ K n kvs
theorem ttcell_r {h : AH} {n : Nat} {kvs : List (List L2.Key × T)} {K : Nat → List (List L2.Key × T) → Prop} (e : h[n]? = some (.dtt kvs)) : TTCell h (.ref n) K = K n kvs := by
  apply propext
  constructor
  · rintro ⟨n', k', e1, e2, q⟩
    cases e1
    rw [e] at e2; cases e2; exact q
  · intro q; exact ⟨n, kvs, rfl, e, q⟩
def IsF (x : T) (K : List (List L2.Key) → List T → Prop) : Prop := ∃ ks ts, x = .fdt ks ts ∧ K ks ts
theorem isF_f {ks : List (List L2.Key)} {ts : List T} {K : List (List L2.Key) → List T → Prop} : IsF (.fdt ks ts) K = K ks ts := by
  apply propext
  constructor
  · rintro ⟨k, t, e, q⟩; cases e; exact q
  · intro q; exact ⟨ks, ts, rfl, q⟩
section
variable {ρ : Rho} {h : AH} {R : T → AH → Prop} {X : XC} {w : WEx}
theorem x_frzD : wFrzD w ρ h R X = w ρ h (fun x h1 => TTCell h1 x fun n kvs => R (.fdt (kvs.map (·.1)) (kvs.map (·.2))) (h1.set n .dead)) X := rfl
theorem x_itemsT {Ri : List T → (AH → Prop) → AH → Prop} : wItemsT w ρ h Ri X = w ρ h (fun x h1 => IsF x fun ks ts => Ri (itemsT ks ts) (fun _ => True) h1) X := rfl
theorem x_setI {wi : WIt} {tg : WTg} {wt : WTe} {vs : List Nat} : wSetI wi tg wt w vs ρ h R X = wi ρ h (fun items P h1 => wSetL P tg wt w vs ρ items [] h1 (fun acc h2 => R (.fst (memI acc)) h2)) X := rfl
end
theorem notInI_f {h : AH} {k : Int} {f : Int → Bool} : opNotInI h (.int k) (.fst f) = some (.bl (!f k)) := rfl
theorem setL_map {α : Type} {P : AH → Prop} {g : WTg} {wt : WTe} {w : WEx} {vs : List Nat} {ρ : Rho} {h : AH} {R : List Int → AH → Prop} (e : α → T) (f : α → Int) (xs : List α) (hP : P h)
    (hs : ∀ x ∈ xs, ∀ (Ky : T → AH → Prop) (Kn : AH → Prop), Ky (.int (f x)) h → g (e x) (wipeT ρ vs) h (fun ρ2 h2 => wt ρ2 h2 (fun k h3 => if k = true then w ρ2 h3 Ky (fun _ _ => False) else Kn h3) (fun _ _ => False)) (fun _ _ => False))
    (hl : xs.length ≤ 4000) (r : R (xs.map f) h) : wSetL P g wt w vs ρ (xs.map e) [] h R := by
  have go : ∀ (l : List α) (acc : List Int), (∀ x ∈ l, x ∈ xs) → acc.length + l.length ≤ 4000 → R (acc ++ l.map f) h → wSetL P g wt w vs ρ (l.map e) acc h R := by
    intro l
    induction l with
    | nil => intro acc _ _ r; exact ⟨hP, by simpa using r⟩
    | cons x l ih =>
      intro acc hm hl r
      rw [List.length_cons] at hl
      refine ⟨hP, hs x (hm x (by simp)) _ _ ⟨f x, rfl, by omega, ih (acc ++ [f x]) (fun y hy => hm y (by simp [hy])) (by rw [List.length_append, List.length_singleton]; omega) (by rw [List.append_assoc]; exact r)⟩⟩
  exact go xs [] (fun _ h => h) (by simpa using hl) (by simpa using r)
def wPre (ks : List T) (wr : WAr) : WAr := fun ρ h R RX => wr ρ h (fun xs h1 => R (ks ++ xs) h1) RX
def preN (wr : WAr) : List T → WAr
  | [] => wr
  | k :: ks => wCons (wC k) (preN wr ks)
theorem preN_eq (wr : WAr) : ∀ (ks : List T) (ρ : Rho) (h : AH) (R : List T → AH → Prop) (RX : XC), preN wr ks ρ h R RX = wPre ks wr ρ h R RX
  | [], _, _, _, _ => rfl
  | k :: ks, ρ, h, R, RX => by
    show preN wr ks ρ h (fun xs h2 => R (k :: xs) h2) RX = _
    rw [preN_eq wr ks]; rfl
theorem sa_pre {X : Cx} {W : WX} {es : List Expr} {wr : WAr} (ks : List T) (a : SA X W es (preN wr ks)) : SA X W es (wPre ks wr) :=
  PA.imp a fun σ H Q ⟨S, ρ, h, R, RX, ar, hr, hw, hR, hX⟩ => ⟨S, ρ, h, R, RX, ar, hr, by rw [preN_eq]; exact hw, hR, hX⟩
theorem x_pre {ks : List T} {wr : WAr} {ρ : Rho} {h : AH} {Ra : List T → AH → Prop} {X : XC} : wPre ks wr ρ h Ra X = wr ρ h (fun xs h1 => Ra (ks ++ xs) h1) X := rfl
theorem se_negK {X : Cx} {W : WX} {a : Expr} {pos : Pos} {n : Int} (ha : SE X W a (wC (.int n))) : SE X W (.UnaryOp .USub a pos) (wC (.int (-n))) :=
  PE.imp (se_neg ha) fun σ H Q ⟨S, ρ, h, R, RX, ar, hr, hw, hR, hX⟩ => ⟨S, ρ, h, R, RX, ar, hr, ⟨n, rfl, hw⟩, hR, hX⟩
theorem eqNil_f {h : AH} {xs : List T} : opEqNil false h (.tup xs) (.tup []) = some (.bl xs.isEmpty) := rfl
theorem neNilL_f {h : AH} {xs : List T} : opNeNilL h (.lst xs) (.lst []) = some (.bl (!xs.isEmpty)) := rfl
theorem x_dict3 {k1 k2 k3 : Str} {wa wb wc : WEx} {ρ : Rho} {h : AH} {R : T → AH → Prop} {X : XC} : wDict3 k1 k2 k3 wa wb wc ρ h R X = wa ρ (h ++ [.dct []]) (fun x h1 => wb ρ h1 (fun y h2 => wc ρ h2 (fun z h3 => h3[h.length]? = some (.dct []) ∧ R (.ref h.length) (h3.set h.length (.dct [(.inr k1, x), (.inr k2, y), (.inr k3, z)]))) X) X) X := rfl
theorem x_dget2 {wo wy wx : WEx} {ρ : Rho} {h : AH} {R : T → AH → Prop} {X : XC} : wDGet2 wo wy wx ρ h R X = wo ρ h (fun o h1 => (∃ n kvs, o = .ref n ∧ h1[n]? = some (.dct kvs)) ∧ wy ρ h1 (fun y h2 => wx ρ h2 (fun z h3 => ∃ n kvs k, o = .ref n ∧ h3[n]? = some (.dct kvs) ∧ keyOf y = some k ∧ R ((aget kvs k).getD z) h3) X) X) X := rfl
end TL

namespace TL
open PySem PySem.Spec PyProof.Rows L2
section
variable {X : Cx} {W : WX} {σ : L2.St} {S S' : AS} {H H' : Hp}
def rInT (K : PySem.W.Frag) : R2 := fun x y H Q => ∃ d ds, Dp K H x d ∧ Dp K H y (.tuple ds) ∧ SeqAt.shaped d = true ∧ SeqAt.shaped (.tuple ds) = true ∧ Q (.bl (ds.any fun z => PyData.eqv z d)) H
theorem op_inT (hu : X.A.units + 65 < cLine) : OpR X (compareOp .In) (rInT X.K) := by
  intro pins s σ H x y v u Q I rx ry h
  obtain ⟨d, ds, hd, he, sd, se, q⟩ := h
  obtain ⟨as, r1⟩ := Dp.reads I d x v hd rx
  obtain ⟨bs, r2⟩ := Dp.reads I (.tuple ds) y u he ry
  exact SeqAt.in_tuple_reads r2 r1 (SeqAt.canLay_of_shaped se) (SeqAt.canLay_of_shaped sd) (room_in_shaped sd hu) ⟨.bl _, H, I, rfl, q⟩
def opInKt : Op2 := fun h x y => match y with
  | .kt (.tuple ds) => match toD h deep x with
    | some d => if SeqAt.shaped (.tuple ds) = true then some (.bl (ds.any fun z => PyData.eqv z d)) else none
    | none => none
  | _ => none
theorem o_inKt (hu : X.A.units + 65 < cLine) : OpR X (compareOp .In) (rO X.K X.mg opInKt) := OpR.imp (op_inT hu) fun x y H Q q => by
  obtain ⟨S, h, t, t', z, hr, rx, ry, e, q⟩ := q
  unfold opInKt at e
  split at e
  · rename_i ds
    split at e
    · rename_i d ed
      split at e
      · rename_i hs
        cases e
        simp only [RelT] at ry
        obtain ⟨a, rfl, hk⟩ := ry
        exact ⟨d, ds, dp_of hr _ _ _ _ rx ed, hk H, shaped40 ed, hs, q S _ H (Ext.refl S H) hr (by simp [RelT])⟩
      · cases e
    · cases e
  · cases e
/-- a name of the top that holds such a tuple -/
theorem se_glK {x : Str} {a : Addr} {d : PyData} {pos : Pos} (hm : X.mg x = some (.ref a)) (hk : ∀ H : Hp, Dp X.K H (.ref a) d) (hg : Gl X x := by rfl) (hd : (x == ("__debug__" : Str)) = false := by decide) : SE X W (.Name x pos) (wC (.kt d)) :=
  PE.imp (pe_glob (v := .ref a) hg hm rfl hd) fun σ H Q ⟨S, ρ, h, R, RX, ar, hr, r, q, _⟩ => q _ h r S _ H (Ext.refl S H) hr (by simp only [RelT]; exact ⟨a, rfl, hk⟩)
end
section
variable {X : Cx} {W : WX} {σ : L2.St} {S S' : AS} {H H' : Hp} {es : List Expr} {pos : Pos}
/-- a comprehension's a, b of lists -/
theorem sgc_tupL {k n : Nat} {gs : WTgs} {is : List Nat} (h : SGcs X es is gs) (hc : X.calm = true := by rfl) (hn : (assignEach es X.env).length = n := by rfl) (hst : (assignEach es X.env).findIdx? (·.1) = none := by rfl) : SGc X (.Tuple es k pos) is (gTuL n gs) :=
  PG.imp (pg_tupL hc h hn hst) fun v σ H Q ⟨S, ρ, h, t, R, ar, hr, rt, ⟨ts, et, hl, hw⟩, hR⟩ => by
    obtain ⟨a, us, rfl, h1, r1⟩ := asL_rel hr rt et
    exact ⟨a, us, rfl, h1, by rw [← r1.length]; exact hl, S, ρ, h, ts, R, ar, hr, r1, hw, hR⟩
end
theorem dpk_pair {K : PySem.W.Frag} {b : Addr} {dd : Option Addr} {n : Nat} {sl : Array (Option Value)} {x y : Bool} (h : K.lookup b = some ⟨.type "tuple", dd, .seq #[.bool x, .bool y] n, sl⟩) (H : Hp) : Dp K H (.ref b) (.tuple [.bool x, .bool y]) :=
  .tup (xs := [.bl x, .bl y]) (.inr ⟨_, #[.bool x, .bool y], n, h, rfl, rfl, by rw [sizeLine_eq]; show 2 ≤ _; decide, .cons rfl (.cons rfl .nil)⟩) (.cons (.bl _) (.cons (.bl _) .nil))
theorem dpk_tup {K : PySem.W.Frag} {a : Addr} {dd : Option Addr} {n : Nat} {sl : Array (Option Value)} {bs : List Addr} {ds : List PyData} {H : Hp} (h : K.lookup a = some ⟨.type "tuple", dd, .seq (bs.map Value.ref).toArray n, sl⟩) (l : bs.length ≤ 1000) (hb : DpAll K H (bs.map V.ref) ds) : Dp K H (.ref a) (.tuple ds) := by
  refine .tup (xs := bs.map V.ref) (.inr ⟨_, _, n, h, rfl, rfl, ?_, ?_⟩) hb
  · rw [List.size_toArray, List.length_map, sizeLine_eq]; omega
  · show Vals _ (bs.map Value.ref)
    clear h l hb
    induction bs with
    | nil => exact .nil
    | cons x l ih => exact .cons rfl ih
end TL

namespace TL
open PySem PySem.Spec PyProof.Rows L2 RZ
theorem ez_self {prog : Program} {w : World} {A : Around} {E : Value → Shared → Prop} {s : Shared} {z TI TO : Addr} {v : Value} {f : Bool} {Q : Value → Shared → Prop} (hz : ZipAt s.heap z TI TO v f) (h : Q (.ref z) s) : wpAny (model prog w) A (pyIter (.ref z)) Q E s := by
  have hT : s.TypeIs (.ref z) "zip" := ⟨_, hz, rfl⟩
  refine wpAny_pyIter_slot hT F.slot_zip_iter (wpAny_call_entry F.slot_zip_iter hT F.entry_zip_iter ?_ (F.args_zip_iter_1 _))
  show wpAny _ _ (ret (.ref z)) _ _ s
  exact wpAny_pure ⟨_, rfl, "zip", _, hT, F.slot_zip_next.lookup, h⟩
theorem turn_zipN {P : Program} {w : World} {K : PySem.W.Frag} {x : Str} {tpos : Pos} {a b z TI TO i1 i2 : Addr} (D : ZipApart z TI TO i1 i2 a b) :
    Turn P w K (.Name x tpos) (Itz K a b) [z, TI, TO, i1, i2] z (fun i h => (∃ v f, ZipAt h z TI TO v f ∧ ZipV v) ∧ IsPair h TI (.ref i1) (.ref i2) ∧ (∃ x y, IsPair h TO x y) ∧ h.IsListIter i1 a i ∧ h.IsListIter i2 b i) where
  mem := by simp
  obj := fun i h st c hc => by
    obtain ⟨⟨v, f, hz, _⟩, hTI, ⟨x, y, hTO⟩, ⟨o1, e1, _, d1⟩, ⟨o2, e2, _, d2⟩⟩ := st
    have e' : c = z ∨ c = TI ∨ c = TO ∨ c = i1 ∨ c = i2 := by simpa using hc
    rcases e' with q | q | q | q | q
    · rw [q]; exact ⟨_, hz, fun v q => nomatch q⟩
    · rw [q]; exact ⟨_, hTI, fun v q => nomatch q⟩
    · rw [q]; exact ⟨_, hTO, fun v q => nomatch q⟩
    · rw [q]; exact ⟨o1, e1, fun v q => by rw [d1] at q; cases q⟩
    · rw [q]; exact ⟨o2, e2, fun v q => by rw [d2] at q; cases q⟩
  keep := fun i h h' st k => by
    obtain ⟨⟨v, f, hz, hv⟩, hTI, ⟨x, y, hTO⟩, h1, h2⟩ := st
    exact ⟨⟨v, f, k z (by simp) _ hz, hv⟩, k TI (by simp) _ hTI, ⟨x, y, k TO (by simp) _ hTO⟩, h1.at fun o q => k i1 (by simp) o q, h2.at fun o q => k i2 (by simp) o q⟩
  item := by
    intro X hP hw hK hc i pins s σ H E I hf st hg
    subst hP hw hK
    obtain ⟨⟨v, f, hz, hv⟩, hTI, ⟨x0, y0, hTO⟩, h1, h2⟩ := st
    obtain ⟨xs, ys, x, y, hqx, hqy, hx, hy⟩ := hg
    obtain ⟨its, rv, p, _⟩ := I.list hqx
    obtain ⟨its2, rv2, p2, _⟩ := I.list hqy
    obtain ⟨u, hu, ru⟩ := rv.get hx
    obtain ⟨u2, hu2, ru2⟩ := rv2.get hy
    have lt : ∀ c ∈ [z, TI, TO, i1, i2], c < s.heap.objs.size := fun c hcm => by
      have e' : c = z ∨ c = TI ∨ c = TO ∨ c = i1 ∨ c = i2 := by simpa using hcm
      rcases e' with q | q | q | q | q
      · rw [q]; exact Heap.lt_size hz
      · rw [q]; exact Heap.lt_size hTI
      · rw [q]; exact Heap.lt_size hTO
      · rw [q]; obtain ⟨_, e1, _⟩ := h1; exact Heap.lt_size e1
      · rw [q]; obtain ⟨_, e2, _⟩ := h2; exact Heap.lt_size e2
    have hT : s.TypeIs (.ref z) "zip" := ⟨_, hz, rfl⟩
    unfold pyNext
    refine wpAny_bind (wpAny_attempt (wpAny_callSpecial?_slot (name := Str.ofString "__next__") hT F.slot_zip_next
      (wpAny_call_entry F.slot_zip_next hT F.entry_zip_next
        (ez_item D hz hv hTI hTO h1 h2 p.isList p2.isList (x := u) (y := u2) (by simpa using hu) (by simpa using hu2) fun h' v' f' a' b' q1 q2 q3 q4 q5 q6 q7 q8 => wpAny_pure ?_) (F.args_zip_next_1 _))))
    refine ⟨_, rfl, ?_⟩
    show wpAny _ _ (pure ()) _ _ _
    have new : ObjOk X.prog X.w (upd H s.heap.objs.size (.tup [x, y])) h' s.heap.objs.size (.tup [x, y]) :=
      ⟨by show 2 ≤ sizeLine; decide, [u, u2], .cons ru (.cons ru2 .nil), ⟨_, q6, rfl, _, rfl⟩⟩
    have I1 : Inv X pins σ (upd H s.heap.objs.size (.tup [x, y])) { s with heap := h', toks := s.toks } :=
      I.turnedNew (ch := [z, TI, TO, i1, i2]) (fun c o hb q => q8 c o (fun q' => hb (by simp [q'])) (fun q' => hb (by simp [q'])) (fun q' => hb (by simp [q'])) (fun q' => hb (by simp [q'])) q) hf (Nat.le_refl _) new
    refine wpAny_pure ⟨.ref s.heap.objs.size, _, I1, rfl, ⟨_, x, y, rfl, I.hok.fresh (Nat.le_refl _), rfl, fun l hl => by rw [I.list_inj hl hqx]; exact hx, fun l hl => by rw [I.list_inj hl hqy]; exact hy⟩,
      ⟨⟨v', f', q1, q2⟩, q8 _ _ D.TIz D.TITO D.TIi1 D.TIi2 hTI, ⟨a', b', q3⟩, q4, q5⟩, fun c hcm => ?_⟩
    rw [upd_ne (Nat.ne_of_lt (lt c hcm))]
    exact (hf c hcm).1
  done := by
    intro X hP hw hK hc i pins s σ H E I hf st hg
    subst hP hw hK
    obtain ⟨⟨v, f, hz, hv⟩, hTI, ⟨x0, y0, hTO⟩, h1, h2⟩ := st
    obtain ⟨xs, ys, hqx, hqy, hend⟩ := hg
    obtain ⟨its, rv, p, _⟩ := I.list hqx
    obtain ⟨its2, rv2, p2, _⟩ := I.list hqy
    have l1 := rv.length
    have l2 := rv2.length
    have hx : its.toArray[i]? = none ∨ its2.toArray[i]? = none := by
      rcases hend with q | q
      · exact .inl (by simp; omega)
      · exact .inr (by simp; omega)
    have hT : s.TypeIs (.ref z) "zip" := ⟨_, hz, rfl⟩
    have hd1 : X.A.in1.handled = none := I.ok.hd hc
    unfold pyNext
    refine wpAny_bind (wpAny_attempt (wpAny_callSpecial?_slot (name := Str.ofString "__next__") hT F.slot_zip_next
      (wpAny_call_entry F.slot_zip_next hT F.entry_zip_next
        (ez_end hd1 D hz hv hTI hTO h1 h2 p.isList p2.isList hx fun h' x' hk hx' => ?_) (F.args_zip_next_1 _))))
    obtain ⟨o, ho, hc'⟩ := hx'
    refine wpAny_bind (wpAny_isInstance (T := "StopIteration") (b := true) ⟨o, ho, hc'⟩ isSubtype_stop ?_)
    exact wpAny_pure ⟨rfl, I.turnedL (t' := s.toks) (ch := [z, TI, TO, i1, i2]) (fun c o hb q => hk c o (fun q' => hb (by simp [q'])) (fun q' => hb (by simp [q'])) (fun q' => hb (by simp [q'])) (fun q' => hb (by simp [q'])) q) hf⟩
  self := fun A i s Q E st h => by
    obtain ⟨⟨v, f, hz, hv⟩, _⟩ := st
    exact ez_self hz h
theorem pi_zipN {X : Cx} {e e2 : Expr} {ta : TA} {p pos tpos : Pos} {x : Str} (hg : Gl X "zip") (hm : X.mg "zip" = none) (ha : PA X [e, e2] ta)
    (hs : starEach [e, e2] X.env = (false, eval e X.env) :: starEach [e2] X.env := by rfl) (hpl : (backTo pos (starEach [e2] X.env)).any (·.1) = false := by rfl) :
    PI X (.Name x tpos) (.Call (.Name "zip" p) [e, e2] [] pos) (iZip X.K ta) := by
  refine ⟨fun pins s σ H R I h => ?_⟩
  refine Call_ (ld_blt I hg hm PyProof.Rows.boot_zip (PyProof.Rows.callWith_type1 (thn (ha.run pos pins s σ H _ I h) fun us s1 ⟨vs, H1, I1, r1, q1⟩ => ?_) hs hpl))
  obtain ⟨a, b, xs, ys, ex, hqx, hqy, q⟩ := q1
  subst ex
  cases r1 with
  | cons r rr =>
    cases rr with
    | cons r' rr =>
      cases rr
      cases r
      cases r'
      have fresh5 : ∀ c, c ∈ [s1.heap.objs.size + 4, s1.heap.objs.size + 2, s1.heap.objs.size + 3, s1.heap.objs.size, s1.heap.objs.size + 1] → FpOk X pins H1 c := fun c hcm => by
        have e' : c = s1.heap.objs.size + 4 ∨ c = s1.heap.objs.size + 2 ∨ c = s1.heap.objs.size + 3 ∨ c = s1.heap.objs.size ∨ c = s1.heap.objs.size + 1 := by simpa using hcm
        have hle : s1.heap.objs.size ≤ c := by
          rcases e' with z | z | z | z | z
          · rw [z]; exact Nat.le_add_right _ _
          · rw [z]; exact Nat.le_add_right _ _
          · rw [z]; exact Nat.le_add_right _ _
          · rw [z]; exact Nat.le_refl _
          · rw [z]; exact Nat.le_add_right _ _
        exact I1.fpOk hle (I1.hok.fresh hle)
      obtain ⟨its, rv, p1, _⟩ := I1.list hqx
      obtain ⟨its2, rv2, p2, _⟩ := I1.list hqy
      refine call_zip_2 p1.isList p2.isList fun h' hz hTI hTO h1 h2 hsz hk => wpAny_pyIter_zip hz ?_
      have I2 : Inv X pins σ H1 { s1 with heap := h' } := I1.kept (t' := s1.toks) hk
      exact ⟨s1.heap.objs.size + 4, [s1.heap.objs.size + 4, s1.heap.objs.size + 2, s1.heap.objs.size + 3, s1.heap.objs.size, s1.heap.objs.size + 1], _, _, H1, rfl, I2, turn_zipN (PySem.W.ktu_apart s1.heap.objs.size a b p1.lt p2.lt), ⟨⟨.none, false, hz, .inl rfl⟩, hTI, ⟨_, _, hTO⟩, h1, h2⟩, fresh5, q⟩
section
variable {X : Cx} {W : WX} {σ : L2.St} {S S' : AS} {H H' : Hp} {e e2 : Expr} {pos p : Pos} {wr : WAr}
/-- what zip over two lists goes through, by one name -/
def wZipN (wr : WAr) : WIt := fun ρ h R RX => wr ρ h (fun ts h1 => ∃ x y xs ys, ts = [x, y] ∧
  asL h1 x = some xs ∧ asL h1 y = some ys ∧ R (zipT xs ys) (fun h' => asL h' x = some xs ∧ asL h' y = some ys) h1) RX
theorem si_zipN {x : Str} {tpos : Pos} (hm : X.mg "zip" = none) (ha : SA X W [e, e2] wr) (hg : Gl X "zip" := by rfl) (hs : starEach [e, e2] X.env = (false, eval e X.env) :: starEach [e2] X.env := by rfl) (hpl : (backTo pos (starEach [e2] X.env)).any (·.1) = false := by rfl) :
    SI X W (.Name x tpos) (.Call (.Name "zip" p) [e, e2] [] pos) (wZipN wr) := PI.imp (pi_zipN hg hm ha hs hpl) fun σ H Q ⟨S, ρ, h, R, RX, ar, hr, hw, hR, hX⟩ => by
  refine ⟨S, ρ, h, _, RX, ar, hr, hw, fun ts h1 q1 S1 us H1 E1 R1 rs => ?_, hX⟩
  obtain ⟨x, y, xs, ys, rfl, e1, e2, q⟩ := q1
  obtain ⟨u, u2, rfl, rx, ry⟩ := rel2 rs
  obtain ⟨a, us, rfl, h2, r2⟩ := asL_rel R1 rx e1
  obtain ⟨b, vs, rfl, h3, r3⟩ := asL_rel R1 ry e2
  refine ⟨a, b, us, vs, rfl, h2, h3, hR _ _ h1 q S1 H1 _ E1 R1 (itz_rel fun S' h' H' e r hP => ?_)⟩
  obtain ⟨a', us', e4, h4, r4⟩ := asL_rel r (rx.mono e.sub) hP.1
  cases e4
  obtain ⟨b', vs', e5, h5, r5⟩ := asL_rel r (ry.mono e.sub) hP.2
  cases e5
  exact ⟨us', vs', h4, r4, h5, r5⟩
theorem x_zipN {ρ : Rho} {h : AH} {RX : XC} {Ri : List T → (AH → Prop) → AH → Prop} (r : wr ρ h (fun ts h1 => Two ts fun x y => ∃ xs ys, asL h1 x = some xs ∧ asL h1 y = some ys ∧ Ri (zipT xs ys) (fun h' => asL h' x = some xs ∧ asL h' y = some ys) h1) RX) : wZipN wr ρ h Ri RX := by
  have e : (fun (ts : List T) (h1 : AH) => ∃ x y xs ys, ts = [x, y] ∧ asL h1 x = some xs ∧ asL h1 y = some ys ∧ Ri (zipT xs ys) (fun h' => asL h' x = some xs ∧ asL h' y = some ys) h1) = fun ts h1 => Two ts fun x y => ∃ xs ys, asL h1 x = some xs ∧ asL h1 y = some ys ∧ Ri (zipT xs ys) (fun h' => asL h' x = some xs ∧ asL h' y = some ys) h1 := by
    funext ts h1
    refine propext ⟨fun ⟨x, y, xs, ys, e, q⟩ => ⟨x, y, e, xs, ys, q⟩, fun ⟨x, y, e, xs, ys, q⟩ => ⟨x, y, xs, ys, e, q⟩⟩
  unfold wZipN
  rw [e]
  exact r
end
end TL

namespace PySem
section
variable {prog : Program} {w : World} {A : Around} {E : Value → Shared → Prop} {s : Shared} {l : Addr} {xs : Array (Int × Tok)}
theorem sum_intTupG {Q : Value → Shared → Prop} (hh : A.handled = none) (hl : s.heap.IsTuple l (intItems xs))
    (h : ∀ h' tk t', (∀ b o, s.heap.get? b = some o → h'.get? b = some o) → Q (.int (preSum (numAt xs) xs.size) t') { s with heap := h', toks := tk }) :
    wpAny (model prog w) A (call (.builtin "sum") [.ref l]) Q E s := by
  have hlt : l < s.heap.objs.size := by obtain ⟨_, e, _⟩ := hl; exact Heap.lt_size e
  refine call_sum_walkG (wpAny_pyIter_tuple hl ?_)
  refine ⟨_, [_, l], [_], _, _, _, numAt xs, rfl, Walks.tuple (A := A.in1) hh _ l (Nat.ne_of_lt hlt) (intItems xs), ⟨⟨_, Heap.get?_push_size _ rfl, rfl, rfl⟩, hl.push _⟩, fun c hc => ?_, (fun _ _ => intItems_at), fun h' tk t' hk => ?_⟩
  · show c < (s.heap.push _).objs.size
    rw [Heap.size_push]
    rcases List.mem_cons.mp hc with rfl | hc
    · exact Nat.lt_succ_self _
    · rcases List.mem_cons.mp hc with rfl | hc
      · exact Nat.lt_succ_of_lt hlt
      · cases hc
  · have hold : ∀ b o, s.heap.get? b = some o → h'.get? b = some o := fun b o e => by
      refine hk b o (fun hm => ?_) (Heap.get?_push_of_some _ e)
      rcases List.mem_cons.mp hm with e1 | hm
      · exact absurd (e1 ▸ Heap.lt_size e) (Nat.lt_irrefl _)
      · cases hm
    have := h h' tk t' hold
    simpa [intItems] using this
end
end PySem
namespace TL
open PySem PySem.Spec PyProof.Rows L2
section
variable {prog : Program} {w : World} {A : Around} {E : Value → Shared → Prop} {s : Shared} {l : Addr} {its : List Value} {ns : List Int} {Q : Value → Shared → Prop}
theorem sumT_raw (hh : A.handled = none) (hl : s.heap.IsTuple l its.toArray) (hi : IntsAre its ns)
    (h : ∀ h' tk t', (∀ b o, s.heap.get? b = some o → h'.get? b = some o) → Q (.int ns.sum t') { s with heap := h', toks := tk }) : wpAny (model prog w) A (call (.builtin "sum") [.ref l]) Q E s := by
  obtain ⟨xs, e⟩ := hi.allInts.items
  have hn : numsOf (intItems xs).toList = ns := by rw [← e]; exact hi.numsOf
  rw [nums_intItems] at hn
  rw [e] at hl
  refine PySem.sum_intTupG hh hl fun h' tk t' hk => ?_
  have := h h' tk t' hk
  rw [preSum_eq, List.take_of_length_le (by simp), hn]; exact this
end
section
variable {X : Cx}
def rSumT (K : PySem.W.Frag) : List V → Hp → VK → Prop := fun vs H Q => ∃ (a : Addr) (ns : List Int), vs = [V.ref a] ∧ SqT K H a (ns.map V.int) ∧ Q (.int ns.sum) H
theorem cr_sumT (hc : X.calm = true) : CallR X (.builtin "sum") (rSumT X.K) := by
  intro pins s σ H vs us Q I r h
  obtain ⟨a, ns, rfl, hs, q⟩ := h
  obtain ⟨its, rv, hl, _⟩ := I.tuple hs
  rw [Vals.ref1 r]
  exact sumT_raw (I.ok.hd hc) (show s.heap.IsTuple a its.toArray from hl) rv.ints fun h' tk t' hk => ⟨.int _, H, I.kept hk, ⟨_, rfl⟩, q⟩
/-- the sum of a tuple of numbers -/
def opSumT : OpN := fun h ts => match ts with
  | [.tup xs] => match xs.mapM intOf with
    | some ns => some (.int ns.sum)
    | none => none
  | _ => none
theorem intTs : ∀ {xs : List T} {ns : List Int} {K : PySem.W.Frag} {S : AS} {us : List V}, xs.mapM intOf = some ns → RelTs K S xs us → us = ns.map V.int
  | [], ns, K, S, us, e, r => by
    simp at e; subst e
    simp only [RelTs] at r; exact r
  | x :: xs, ns, K, S, us, e, r => by
    simp only [RelTs] at r
    obtain ⟨u, us', rfl, r1, r2⟩ := r
    rw [List.mapM_cons] at e
    cases e1 : intOf x with
    | none => rw [e1] at e; cases e
    | some i =>
      cases e2 : xs.mapM intOf with
      | none => rw [e1, e2] at e; cases e
      | some is =>
        rw [e1, e2] at e
        cases e
        have ex : x = .int i := by cases x <;> simp [intOf] at e1 ⊢; exact e1
        subst ex
        simp only [RelT] at r1
        rw [r1, intTs e2 r2]; rfl
theorem c_sumT (hc : X.calm = true) : CallR X (.builtin "sum") (rN X.K X.mg opSumT) := CallR.imp (cr_sumT hc) fun vs H Q ⟨S, h, ts, z, hr, rs, e, q⟩ => by
  unfold opSumT at e
  split at e
  · rename_i xs
    obtain ⟨u, rfl, r⟩ := rel1 rs
    split at e
    · rename_i ns q3
      cases e
      obtain ⟨a, us, rfl, h1, r1⟩ := asT_rel hr r rfl
      exact ⟨a, ns, rfl, by rw [← intTs q3 r1]; exact h1, q S _ H (Ext.refl S H) hr (by simp [RelT])⟩
    · cases e
  · cases e
end
end TL

namespace TL
open PySem PySem.Spec PyProof.Rows L2
def HeldAt (K : PySem.W.Frag) (mg : Str → Option Value) (x : Str) : Prop := ∃ a, PySem.W.nsIn K mainGlobals x = some (some (.ref a)) ∧ mg x = some (.ref a)
def VCallee (P : Program) (w : World) (K : PySem.W.Frag) (mg : Str → Option Value) (base : Heap) (x : Str) (k : Nat) (sp : ASp) : Prop :=
  ∃ ps f fd, FnG P w K mg base k f fd ps (spA K mg sp) ∧ PySem.W.nsIn K mainGlobals x = some (some (.ref f)) ∧ PySem.W.keepIn K (.ref f) = true ∧ Binds K fd ps []
theorem vcallee_of {P : Program} {w : World} {K : PySem.W.Frag} {mg : Str → Option Value} {base : Heap} {x : Str} {k : Nat} {ps : List Str} {sp : ASp} (C : Callee P w K mg base x k ps sp) (h : HeldAt K mg x) : VCallee P w K mg base x k sp := by
  obtain ⟨f, fd, F, hm, hk, hb⟩ := C
  obtain ⟨a, h1, h2⟩ := h
  rw [h2] at hm
  cases hm
  exact ⟨ps, _, fd, F, h1, hk, hb⟩
theorem tab2 {P : Program} {w : World} {K : PySem.W.Frag} {mg : Str → Option Value} {base : Heap} {a b : Str} {k : Nat} {sa sb : ASp} (ha : VCallee P w K mg base a k sa) (hb : VCallee P w K mg base b k sb) :
    ∀ y sp, [(a, sa), (b, sb)].lookup y = some sp → VCallee P w K mg base y k sp := by
  intro y sp h
  rw [List.lookup_cons] at h
  by_cases e : (y == a) = true
  · rw [e] at h
    cases h
    rw [eq_of_beq e]; exact ha
  · rw [Bool.not_eq_true] at e
    rw [e, List.lookup_cons] at h
    by_cases e2 : (y == b) = true
    · rw [e2] at h
      cases h
      rw [eq_of_beq e2]; exact hb
    · rw [Bool.not_eq_true] at e2
      rw [e2] at h
      cases h
def wCallV (i : Nat) (tab : List (Str × ASp)) (wr : WAr) : WEx := fun ρ h R RX => ∃ y sp, ρ[i]? = some (some (.fv y)) ∧ tab.lookup y = some sp ∧ wr ρ h (fun ts h1 => sp ts h1 R RX) RX
section
variable {X : Cx} {W : WX} {σ : L2.St} {S S' : AS} {H H' : Hp} {e : Expr} {es : List Expr} {pos p : Pos} {wr : WAr} {x : Str} {k : Nat}
theorem se_glF {y : Str} (hv : HeldAt X.K X.mg y) (hg : Gl X y := by rfl) (hd : (y == ("__debug__" : Str)) = false := by decide) : SE X W (.Name y pos) (wC (.fv y)) := by
  obtain ⟨a, h1, h2⟩ := hv
  exact PE.imp (pe_glob (v := .ref a) hg h2 rfl hd) fun σ H Q ⟨S, ρ, h, R, RX, ar, hr, r, q, _⟩ => q _ h r S _ H (Ext.refl S H) hr (by simp only [RelT]; exact ⟨a, rfl, h1⟩)
theorem se_callV (i : Nat) {tab : List (Str × ASp)} (C : ∀ y sp, tab.lookup y = some sp → VCallee X.prog X.w X.K X.mg X.base y k sp) (hh : Here X W k) (ha : SA X W (e :: es) wr)
    (hN : X.N[i]? = some x := by rfl) (hv : Vis X.env.scope x := by first | exact Or.inl rfl | exact Or.inr (Or.inl rfl) | exact Or.inr (Or.inr rfl)) (hdb : (x == ("__debug__" : Str)) = false := by decide) (hcd : (x == ("__classdict__" : Str)) = false := by decide)
    (he : starEach (e :: es) X.env = (false, eval e X.env) :: starEach es X.env := by rfl) (hpl : (backTo pos (starEach es X.env)).any (·.1) = false := by rfl) : SE X W (.Call (.Name x p) (e :: es) [] pos) (wCallV i tab wr) := by
  refine ⟨fun pins s σ H Q I ⟨S, ρ, h, R, RX, ar, hr, hw, hR, hX⟩ => ?_⟩
  obtain ⟨y, sp, hy, ht, hw⟩ := hw
  obtain ⟨ps, f, fd, F, hn, hk, hb⟩ := C y sp ht
  obtain ⟨v, hs, rv⟩ := ar.2 i _ hy
  simp only [RelT] at rv
  obtain ⟨a, rfl, ha2⟩ := rv
  rw [hn] at ha2
  cases ha2
  refine wpAny_Call_Name_kw (thn ((pe_var (pos := p) hN hv hdb hcd).run pins s σ H (fun v H1 => v = .ref f ∧ H1 = H) I ⟨.ref f, hs, rfl, rfl⟩) fun u s1 ⟨v, H1, I1, r1, q1⟩ => ?_)
  obtain ⟨rfl, rfl⟩ := q1
  cases r1
  refine PySem.W.callWith_K (h₀ := X.base) I1.ok.mod.kin hk (thn (ha.run pos pins s1 σ _ (fun vs H1 => spA X.K X.mg sp vs H1 Q fun c d H' => W c d σ H') I1 ?_) fun us s2 ⟨vs, H2, I2, r, q⟩ => ⟨I2.kIn, ?_⟩) he hpl
  · refine ⟨S, ρ, h, _, RX, ar, hr, hw, fun ts h1 q1 S1 vs H1 E1 R1 rs => ?_, hX⟩
    exact ⟨S1, h1, ts, R, RX, rs, R1, q1, fun t h' q S' v H' e => hR t h' q S' v H' (E1.trans e), fun c h' q S' H' e => hX c h' q S' H' (E1.trans e)⟩
  · exact run_fnG (W := W) F hh (fun _ _ _ w => w) hb I2 r q
theorem x_callV {i : Nat} {tab : List (Str × ASp)} {ρ : Rho} {h : AH} {R : T → AH → Prop} {RX : XC} {y : Str} {sp : ASp} (hy : ρ[i]? = some (some (.fv y))) (ht : tab.lookup y = some sp) (r : wr ρ h (fun ts h1 => sp ts h1 R RX) RX) : wCallV i tab wr ρ h R RX := ⟨y, sp, hy, ht, r⟩
end
end TL

namespace TL
open PySem PySem.Spec PyProof.Rows L2
section
variable {X : Cx} {W : WX}
theorem call_tuple_frz : CallR X (.type "tuple") (fun xs H Q => ∃ p ys, xs = [.ref p] ∧ SqL X.K H p ys ∧ ∀ (l : Addr) (o : Obj), H l = none → o.dict = none → Q (.ref l) (upd H l (.frz o (.tup ys)))) := by
  intro pins s σ H xs us Q I r h
  obtain ⟨p, ys, rfl, hq, q⟩ := h
  obtain ⟨u, rfl, rx⟩ := vals1 r
  cases rx
  obtain ⟨its, r', pl, hz⟩ := I.list hq
  have hlen := r'.length
  refine call_tuple_list pl.isList (fun h' kp => ?_) (by simp only [List.size_toArray] <;> omega)
  have I1 : Inv X pins σ H { s with heap := h' } := I.kept (t' := s.toks) kp
  have I2 : Inv X pins σ (upd H h'.objs.size (.frz { cls := .type "tuple", data := .seq its.toArray } (.tup ys))) { s with heap := h'.push { cls := .type "tuple", data := .seq its.toArray } } :=
    I1.laid (t' := s.toks) (fun b o e => Heap.get?_push_of_some _ e) (Nat.le_refl _) (show ObjOk X.prog X.w _ _ _ (.frz { cls := .type "tuple", data := .seq its.toArray } (.tup ys)) from ⟨Heap.get?_push_size _ rfl, hz, its, r', IsTup.new _ _⟩)
  exact ⟨.ref h'.objs.size, _, I2, rfl, q _ _ (I1.hok.fresh (Nat.le_refl _)) rfl⟩
theorem new_ftp {K : PySem.W.Frag} {mg : Str → Option Value} {S : AS} {H : Hp} {h : AH} {ts : List T} {us : List V} {Q : VK} (hr : HRel K mg S h H) (r : RelTs K S ts us)
    (q : ∀ S' v H', Ext S H S' H' → HRel K mg S' h H' → RelT K S' (.ftp ts) v → Q v H') : ∀ (p : Addr) (o : Obj), H p = none → o.dict = none → Q (.ref p) (upd H p (.frz o (.tup us))) := fun p o hp ho => by
  obtain ⟨R', E⟩ := hr.new (o := .frz o (.tup us)) hp
  exact q _ _ _ E R' (by simp only [RelT]; exact ⟨p, o, us, rfl, upd_same, ho, r.mono E.sub⟩)
def opTupF : OpN := fun h ts => match ts with
  | [t] => match asL h t with
    | some xs => some (.ftp xs)
    | none => none
  | _ => none
theorem c_tupF : CallR X (.type "tuple") (rN X.K X.mg opTupF) := CallR.imp call_tuple_frz fun vs H Q ⟨S, h, ts, z, hr, rs, e, q⟩ => by
  unfold opTupF at e
  split at e
  · obtain ⟨u, rfl, r⟩ := rel1 rs
    split at e
    · rename_i xs q2
      cases e
      obtain ⟨a, us, rfl, h1, r1⟩ := asL_rel hr r q2
      exact ⟨a, us, rfl, h1, new_ftp hr r1 q⟩
    · cases e
  · cases e
def tTupRgF (te : L2.St → Hp → (Int → Int → Hp → Prop) → Prop) : TE := fun σ H Q => te σ H fun a b H1 => RgOk a b ∧ ∀ (q : Addr) (o : Obj), H1 q = none → o.dict = none → Q (.ref q) (upd H1 q (.frz o (.tup (rgV a b))))
theorem pe_tupRgF {te : L2.St → Hp → (Int → Int → Hp → Prop) → Prop} {e : Expr} {p pos : Pos} (hc : X.calm = true) (hg : Gl X "tuple") (hm : X.mg "tuple" = none) (he : PRg X e te) (na : starEach [e] X.env = (false, eval e X.env) :: starEach [] X.env := by rfl) : PE X (.Call (.Name "tuple" p) [e] [] pos) (tTupRgF te) := by
  refine ⟨fun pins s σ H Q I h => ?_⟩
  refine Call_ (ld_blt I hg hm boot_tuple (PyProof.Rows.callWith_type1 (args_cons (thn (he pins s σ H _ I h) fun x s1 ⟨r, a, b, t, u, v, H1, ex, hr, I1, ok, q⟩ => args_nil ?_) na) na))
  subst ex
  obtain ⟨b1, b2, b3, b4, b5⟩ := ok
  refine call_tuple_range (n := (b - a).toNat) (I1.ok.hd hc) hr (small_one b1 b2 b3 b4) (rangeSize_nat a b) b5 fun h' tk acc hk hi => ?_
  have I2 : Inv X pins σ H1 { s1 with heap := h', toks := tk } := I1.kept hk
  refine ⟨.ref h'.objs.size, upd H1 h'.objs.size (.frz { cls := .type "tuple", data := .seq acc } (.tup (rgV a b))), I2.laid (t' := tk) (fun c o e => Heap.get?_push_of_some _ e) (Nat.le_refl _) (show ObjOk X.prog X.w _ _ _ (.frz { cls := .type "tuple", data := .seq acc } (.tup (rgV a b))) from ⟨Heap.get?_push_size _ rfl, ?_, acc.toList, vals_rg hi, ?_⟩), rfl, q _ _ (I2.hok.fresh (Nat.le_refl _)) rfl⟩
  · rw [rgV_length, sizeLine_eq]; omega
  · rw [Array.toArray_toList]; exact IsTup.new _ _
def wTupRgF (w : WRg) : WEx := fun ρ h R RX => w ρ h (fun i j h1 => rgOk i j = true ∧ R (.ftp (rangeT i (j - i).toNat)) h1) RX
theorem se_tupRgF {e : Expr} {p pos : Pos} {wg : WRg} (hm : X.mg "tuple" = none) (he : SRg X W e wg) (hc : X.calm = true := by rfl) (hg : Gl X "tuple" := by rfl) (na : starEach [e] X.env = (false, eval e X.env) :: starEach [] X.env := by rfl) : SE X W (.Call (.Name "tuple" p) [e] [] pos) (wTupRgF wg) :=
  PE.imp (pe_tupRgF hc hg hm he na) fun σ H Q ⟨S, ρ, h, R, RX, ar, hr, hw, hR, hX⟩ => by
    refine ⟨S, ρ, h, _, RX, ar, hr, hw, fun i j h1 q1 S1 H1 E1 R1 => ⟨rgOk_ok q1.1, ?_⟩, hX⟩
    exact new_ftp R1 (rgV_rel i j) fun S' v H' e2 => hR _ _ q1.2 S' v H' (E1.trans e2)
def gtI : List Int → List Int → Bool
  | [], _ => false
  | _ :: _, [] => true
  | x :: xs, y :: ys => if x = y then gtI xs ys else decide (y < x)
theorem firstLt_map {e r : Nat → Bool} {fin : Bool} {f : Nat → Nat} : ∀ l : List Nat, SeqAt.firstLt e r fin (l.map f) = SeqAt.firstLt (fun j => e (f j)) (fun j => r (f j)) fin l
  | [] => rfl
  | j :: l => by
    rw [List.map_cons]
    show (if e (f j) = true then SeqAt.firstLt e r fin (l.map f) else r (f j)) = (if e (f j) = true then SeqAt.firstLt (fun j => e (f j)) (fun j => r (f j)) fin l else r (f j))
    rw [firstLt_map l]
theorem firstLt_gtI : ∀ ns ms : List Int, SeqAt.firstLt (fun j => decide (ns.getD j 0 = ms.getD j 0)) (fun j => decide (ms.getD j 0 < ns.getD j 0)) (decide (ns.length > ms.length)) (List.range (min ns.length ms.length)) = gtI ns ms
  | [], ms => by simp [SeqAt.firstLt, gtI]
  | _ :: _, [] => by simp [SeqAt.firstLt, gtI]
  | x :: xs, y :: ys => by
    rw [show min (x :: xs).length (y :: ys).length = min xs.length ys.length + 1 by simp [Nat.succ_min_succ], List.range_succ_eq_map]
    show (if decide (x = y) = true then SeqAt.firstLt _ _ _ ((List.range _).map Nat.succ) else decide (y < x)) = _
    rw [firstLt_map]
    have ih := firstLt_gtI xs ys
    unfold gtI
    by_cases h : x = y
    · rw [if_pos (decide_eq_true h), if_pos h, ← ih]
      congr 1
      simp
    · rw [if_neg (by simp [h]), if_neg h]
def rGtL (K : PySem.W.Frag) : R2 := fun x y H Q => ∃ (a b : Addr) (ns ms : List Int), x = .ref a ∧ y = .ref b ∧ SqL K H a (ns.map V.int) ∧ SqL K H b (ms.map V.int) ∧ Q (.bl (gtI ns ms)) H
theorem op_gtL (hu : X.A.units < cLine) : OpR X (compareOp .Gt) (rGtL X.K) := by
  intro pins s σ H x y v u Q I rx ry h
  obtain ⟨a, b, ns, ms, rfl, rfl, ha, hb, q⟩ := h
  cases rx
  cases ry
  obtain ⟨its, r1, p1, _⟩ := I.list ha
  obtain ⟨its2, r2, p2, _⟩ := I.list hb
  have i1 : IntsAre its ns := Vals.ints r1
  have i2 : IntsAre its2 ms := Vals.ints r2
  have e1 : its.toArray.size = ns.length := by rw [List.size_toArray]; exact i1.length
  have e2 : its2.toArray.size = ms.length := by rw [List.size_toArray]; exact i2.length
  have at1 : ∀ j (h1 : j < its.toArray.size), ∃ t, its.toArray[j] = .int (ns.getD j 0) t := fun j h1 => PyProof.Rows.IntsAre.int_at i1 _ _ (by simp at h1; simp [h1])
  have at2 : ∀ j (h1 : j < its2.toArray.size), ∃ t, its2.toArray[j] = .int (ms.getD j 0) t := fun j h1 => PyProof.Rows.IntsAre.int_at i2 _ _ (by simp at h1; simp [h1])
  have R := SeqAt.RcOp.lists_gt (A := X.A) (s := s) (e := fun j => decide (ns.getD j 0 = ms.getD j 0)) (r := fun j => decide (ms.getD j 0 < ns.getD j 0)) p1.isList p2.isList hu (fun j h1 h2 => by
    obtain ⟨t, et⟩ := at1 j h1
    obtain ⟨t', et'⟩ := at2 j h2
    rw [et, et']
    have z : (ns.getD j 0 == ms.getD j 0) = decide (ns.getD j 0 = ms.getD j 0) := by
      by_cases q : ns.getD j 0 = ms.getD j 0
      · rw [decide_eq_true q]; exact beq_iff_eq.mpr q
      · rw [decide_eq_false q]; exact beq_eq_false_iff_ne.mpr q
    rw [← z]
    exact SeqAt.EqAt.int_int _ _ _ _) (fun j h1 h2 _ => by
    obtain ⟨t, et⟩ := at1 j h1
    obtain ⟨t', et'⟩ := at2 j h2
    rw [et, et']
    exact Ob.RcOp.gt_int _ _ _ _)
  rw [e1, e2, firstLt_gtI] at R
  have z : wpAny (model X.prog X.w) X.A (compareOp .Gt (.ref a) (.ref b)) (EP X pins σ Q) X.xe s := R X.prog X.w X.xe (EP X pins σ Q) ⟨.bl _, H, I, rfl, q⟩
  exact z
def intsT : List T → Option (List Int)
  | [] => some []
  | .int i :: ts => (intsT ts).map (i :: ·)
  | _ :: _ => none
theorem intsT_map : ∀ ns : List Int, intsT (ns.map T.int) = some ns
  | [] => rfl
  | n :: ns => by rw [List.map_cons, intsT, intsT_map ns]; rfl
theorem intsT_eq : ∀ {ts : List T} {ns : List Int}, intsT ts = some ns → ts = ns.map T.int
  | [], ns, e => by cases e; rfl
  | t :: ts, ns, e => by
    cases t <;> simp only [intsT, Option.map_eq_some_iff, reduceCtorEq] at e
    obtain ⟨ms, e, rfl⟩ := e
    rw [intsT_eq e]; rfl
def opGtL : Op2 := fun h x y => match asL h x with
  | some xs => match asL h y with
    | some ys => match intsT xs with
      | some ns => (intsT ys).map fun ms => .bl (gtI ns ms)
      | none => none
    | none => none
  | none => none
theorem rel_intsL {K : PySem.W.Frag} {S : AS} : ∀ {ns : List Int} {us : List V}, RelTs K S (ns.map T.int) us → us = ns.map V.int
  | [], _, r => by simpa [RelTs] using r
  | n :: ns, us, r => by
    simp only [List.map_cons, RelTs] at r
    obtain ⟨u, rest, rfl, r1, r2⟩ := r
    simp only [RelT] at r1
    rw [r1, rel_intsL r2, List.map_cons]
theorem o_gtL (hu : X.A.units < cLine) : OpR X (compareOp .Gt) (rO X.K X.mg opGtL) := by
  refine OpR.imp (op_gtL hu) fun x y H Q q => ?_
  obtain ⟨S, h, t, t', z, hr, rx, ry, e, q⟩ := q
  unfold opGtL at e
  split at e
  · rename_i xs ex
    split at e
    · rename_i ys ey
      split at e
      · rename_i ns en
        obtain ⟨ms, em, rfl⟩ := Option.map_eq_some_iff.mp e
        obtain ⟨a, us, rfl, h1, r1⟩ := asL_rel hr rx ex
        obtain ⟨b, ws, rfl, h2, r2⟩ := asL_rel hr ry ey
        rw [intsT_eq en] at r1
        rw [intsT_eq em] at r2
        rw [rel_intsL r1] at h1
        rw [rel_intsL r2] at h2
        exact ⟨a, b, ns, ms, rfl, rfl, h1, h2, q S _ H (Ext.refl S H) hr (by simp [RelT])⟩
      · cases e
    · cases e
  · cases e
theorem gtL_i {h : AH} {ns ms : List Int} : opGtL h (.lst (ns.map T.int)) (.lst (ms.map T.int)) = some (.bl (gtI ns ms)) := by
  show (match intsT (ns.map T.int) with | some ns => (intsT (ms.map T.int)).map fun ms => T.bl (gtI ns ms) | none => none) = _
  rw [intsT_map, intsT_map]; rfl
theorem ints_are : ∀ {ns : List Int} {its : List Value}, Vals (ns.map V.int) its → IntsAre its ns
  | [], _, r => by cases r; exact .nil
  | n :: ns, _, r => by
    cases r with
    | cons a b =>
      obtain ⟨t, rfl⟩ := (show ∃ t, _ = Value.int n t from a)
      exact .cons n t (ints_are b)
def rIndexT (K : PySem.W.Frag) (x : V) (xs : List V) (H : Hp) (Q : VK) : Prop := ∃ (a : Addr) (ns : List Int) (k : Int), x = .ref a ∧ xs = [.int k] ∧ SqT K H a (ns.map V.int) ∧ k ∈ ns ∧ Q (.int ((ns.idxOf k : Nat) : Int)) H
theorem mt_indexT : MtR X "tuple.index" (rIndexT X.K) := by
  intro pins s σ H x xs v us Q I rx rxs h
  obtain ⟨a, ns, k, rfl, rfl, hs, hk, q⟩ := h
  cases rx
  cases rxs with
  | cons ry rt =>
    cases rt
    obtain ⟨t, rfl⟩ := (show ∃ t, _ = Value.int k t from ry)
    obtain ⟨its, rv, pt, hlen⟩ := I.tuple hs
    exact SeqAt.tuple_index_ints (show s.heap.IsTuple a its.toArray from pt) (ints_are rv) hk ⟨.int ((ns.idxOf k : Nat) : Int), H, I.tok _, ⟨_, rfl⟩, q⟩
def tBMF (r : V → List V → Hp → VK → Prop) (to : TE) (t : TA) : TE := fun σ H Q => to σ H fun x H1 => (∃ p o us, x = .ref p ∧ H1 p = some (.frz o (.tup us)) ∧ o.dict = none) ∧ t σ H1 fun xs H2 => r x xs H2 Q
variable {o e : Expr} {es : List Expr} {to : TE} {t : TA} {name : Str} {apos cpos : Pos} {id : String} {r : V → List V → Hp → VK → Prop}
theorem pe_bmF (pa : PlainAttrs "tuple") (slot : PySem.Slot "tuple" name id) (hty : typeOf (.builtin id) = pure (.type "method_descriptor")) (hm : MtR X id r) (ho : PE X o to) (ha : PA X (e :: es) t)
    (hbase : attributeBase o name X.env (eval o X.env) = eval o X.env := by rfl)
    (hfew : ((backTo cpos (starEach (e :: es) X.env)).all (fun x => !x.1) && (backToKw cpos (keywordEach [] X.env)).all (fun x => x.1.isSome)
      && decide ((e :: es).length + ([] : List Keyword).length + (if ([] : List Keyword).isEmpty then 0 else 1) < 30)) = true := by rfl)
    (hline : (apos.endLine == cpos.line) = true := by rfl) (hs : starEach (e :: es) X.env = (false, eval e X.env) :: starEach es X.env := by rfl) (hplain : (backTo cpos (starEach es X.env)).any (·.1) = false := by rfl) :
    PE X (.Call (.Attribute o name apos) (e :: es) [] cpos) (tBMF r to t) := by
  refine ⟨fun pins s σ H Q I h => ?_⟩
  refine wpAny_Call_method_late hbase hfew hline rfl (thn (ho.run pins s σ H _ I h) fun v s1 ⟨x, H1, I1, r1, ⟨p, ob, us, ex, hp, hd⟩, q1⟩ => ?_)
  subst ex
  cases (show v = Value.ref p from r1)
  obtain ⟨ho1, _, its, _, pt⟩ := (show ObjOk X.prog X.w H1 s1.heap p (.frz ob (.tup us)) from I1.hok p _ hp)
  obtain ⟨ob2, ho2, hc2, _⟩ := pt
  refine ⟨"tuple", id, pa, slot, hty, ⟨ob2, ho2, hc2⟩, fun a e => ?_, ?_⟩
  · cases e
    exact ⟨ob, ho1, hd⟩
  have hA := ha.run cpos pins s1 σ H1 _ I1 q1
  rw [hs] at hA ⊢
  refine Calls.callWith_builtin (by show (false || (backTo cpos (starEach es X.env)).any (·.1)) = false; rw [hplain] <;> rfl) (Calls.evalArgs_plain ?_)
  exact thn hA fun us s2 ⟨vs, H2, I2, r2, q2⟩ => hm pins s2 σ H2 _ vs _ us Q I2 r1 r2 q2
def wIndexT (wo w : WEx) : WEx := fun ρ h R RX => wo ρ h (fun x h1 => ∃ ns : List Int, x = .ftp (ns.map T.int) ∧ w ρ h1 (fun y h2 => ∃ k : Int, y = .int k ∧ k ∈ ns ∧ R (.int ((ns.idxOf k : Nat) : Int)) h2) RX) RX
theorem rel_intsF {K : PySem.W.Frag} {S : AS} : ∀ {ns : List Int} {us : List V}, RelTs K S (ns.map T.int) us → us = ns.map V.int
  | [], _, r => by simpa [RelTs] using r
  | n :: ns, us, r => by
    simp only [List.map_cons, RelTs] at r
    obtain ⟨u, rest, rfl, r1, r2⟩ := r
    simp only [RelT] at r1
    rw [r1, rel_intsF r2, List.map_cons]
theorem se_indexT {wo w : WEx} (ho : SE X W o wo) (he : SE X W e w) (hbase : attributeBase o "index" X.env (eval o X.env) = eval o X.env := by rfl)
    (hfew : ((backTo cpos (starEach [e] X.env)).all (fun x => !x.1) && (backToKw cpos (keywordEach [] X.env)).all (fun x => x.1.isSome) && decide (([e] : List Expr).length + ([] : List Keyword).length + (if ([] : List Keyword).isEmpty then 0 else 1) < 30)) = true := by rfl)
    (hline : (apos.endLine == cpos.line) = true := by rfl) (hs : starEach [e] X.env = (false, eval e X.env) :: starEach [] X.env := by rfl) (hpl : (backTo cpos (starEach [] X.env)).any (·.1) = false := by rfl) :
    SE X W (.Call (.Attribute o "index" apos) [e] [] cpos) (wIndexT wo w) :=
  PE.imp (pe_bmF PySem.F.plainAttrs_tuple PySem.F.slot_tuple_index PySem.F.type_tuple_index mt_indexT ho (pa_cons he pa_nil hs) hbase hfew hline hs hpl) fun σ H Q ⟨S, ρ, h, R, RX, ar, hr, hw, hR, hX⟩ => by
    refine ⟨S, ρ, h, _, RX, ar, hr, hw, fun x h1 q1 S1 u H1 E1 R1 rx => ?_, hX⟩
    obtain ⟨ns, rfl, q1⟩ := q1
    obtain ⟨a, ob, us, rfl, hg, hd, rs⟩ := (show ∃ a o us, u = V.ref a ∧ S1.G a = some (.frz o (.tup us)) ∧ o.dict = none ∧ RelTs X.K S1 (ns.map T.int) us by simpa only [RelT] using rx)
    refine ⟨⟨a, ob, us, rfl, R1.g _ _ hg, hd⟩, S1, ρ, h1, _, RX, ar.mono E1.sub, R1, q1, fun y h2 q2 S2 u2 H2 E2 R2 ry => ?_, hX.mono E1⟩
    obtain ⟨k, rfl, hk, q⟩ := q2
    have e2 : u2 = V.int k := by simpa only [RelT] using ry
    subst e2
    refine ⟨a, ns, k, rfl, rfl, ?_, hk, hR _ h2 q S2 _ H2 (E1.trans E2) R2 (by simp [RelT])⟩
    rw [← rel_intsF rs]
    exact .inl (.inr ⟨ob, R2.g _ _ (E2.g _ _ hg)⟩)
end
section
variable {ρ : Rho} {h : AH} {R : T → AH → Prop} {X : XC}
theorem x_tupRgF {w : WRg} : wTupRgF w ρ h R X = w ρ h (fun i j h1 => rgOk i j = true ∧ R (.ftp (rangeT i (j - i).toNat)) h1) X := rfl
theorem x_indexT {wo w : WEx} : wIndexT wo w ρ h R X = wo ρ h (fun x h1 => ∃ ns : List Int, x = .ftp (ns.map T.int) ∧ w ρ h1 (fun y h2 => ∃ k : Int, y = .int k ∧ k ∈ ns ∧ R (.int ((ns.idxOf k : Nat) : Int)) h2) X) X := rfl
theorem tupF_l {xs : List T} : opTupF h [.lst xs] = some (.ftp xs) := rfl
theorem tupF_r {n : Nat} {xs : List T} (e : asR h (.ref n) = some xs) : opTupF h [.ref n] = some (.ftp xs) := by
  show (match asR h (.ref n) with | some xs => some (T.ftp xs) | none => none) = _
  rw [e]
theorem asT_f {xs : List T} : asT (.ftp xs) = some xs := rfl
theorem asQ_f {xs : List T} : asQ h (.ftp xs) = some xs := rfl
theorem isi_ftp {xs : List T} {K : Bool → Prop} : Isi "tuple" h (.ftp xs) K = K true := by
  have e := (kit_tab "tuple" (by decide)).2.2.1
  simp [Isi, tyN2, e, -Bool.exists_bool]
theorem len_f {xs : List T} : opLen h [.ftp xs] = some (.int xs.length) := rfl
theorem ix_f {xs : List T} {i : Int} : opIx h (.ftp xs) (.int i) = atI xs i := rfl
end
end TL

namespace TL
open PySem PySem.Spec PyProof.Rows L2
section
variable {X : Cx} {W : WX} {a b : Expr} {wa wb : WEx} {p pos : Pos}
theorem srg_2 (hm : X.mg "range" = none) (ha : SE X W a wa) (hb : SE X W b wb) (hg : Gl X "range" := by rfl) (na : starEach [a, b] X.env = (false, eval a X.env) :: starEach [b] X.env := by rfl)
    (nb : starEach [b] X.env = (false, eval b X.env) :: starEach [] X.env := by rfl) (hp : (backTo pos (starEach [b] X.env)).any (·.1) = false := by rfl) : SRg X W (.Call (.Name "range" p) [a, b] [] pos) (wR2 wa wb) :=
  PRg.imp (prg_2 hg hm ha hb na nb hp) fun σ H Q ⟨S, ρ, h, R, RX, ar, hr, hw, hR, hX⟩ => by
    refine ⟨S, ρ, h, _, RX, ar, hr, hw, fun x h1 q1 S1 u H1 E1 R1 rx => ?_, hX⟩
    refine ⟨S1, ρ, h1, _, RX, ar.mono E1.sub, R1, q1, fun y h2 q2 S2 v H2 E2 R2 ry => ?_, hX.mono E1⟩
    obtain ⟨i, j, rfl, rfl, q⟩ := q2
    simp only [RelT] at rx ry
    exact ⟨i, j, rx, ry, hR _ _ h2 q S2 H2 (E1.trans E2) R2⟩
end
theorem x_r2 {wa wb : WEx} {ρ : Rho} {h : AH} {X : XC} {Rr : Int → Int → AH → Prop} : wR2 wa wb ρ h Rr X = wa ρ h (fun x h1 => wb ρ h1 (fun y h2 => AsI x fun i => AsI y fun j => Rr i j h2) X) X := by
  simp only [wR2, AsI]
  congr 1; funext x h1; congr 1; funext y h2; apply propext
  constructor
  · rintro ⟨i, j, e1, e2, q⟩; exact ⟨i, e1, j, e2, q⟩
  · rintro ⟨i, e1, j, e2, q⟩; exact ⟨i, j, e1, e2, q⟩
end TL

namespace TL
open PySem PySem.Spec PyProof.Rows L2 RZ
section
variable {prog : Program} {w : World} {A : Around}
/-- an iterator that has come to the end or beyond stops -/
theorem past_tup (hh : A.handled = none) (it t : Addr) (ne : t ≠ it) (items : Array Value) (n : Nat) (hn : items.size ≤ n) :
    Draws prog w A it [it, t] n (fun _ _ => True) (fun k h => k = n ∧ h.IsTupleIter it t n ∧ h.IsTuple t items) where
  live := fun _ _ z => by obtain ⟨_, ⟨o, e, _⟩, _⟩ := z; exact ⟨o, e⟩
  frame := fun _ _ _ z kp => ⟨z.1, z.2.1.at fun o e => kp it (by simp) o e, z.2.2.at fun o e => kp t (by simp) o e⟩
  item := fun k _ _ _ lt z _ => absurd z.1 (Nat.ne_of_lt lt)
  done := fun _ _ _ z q => wpAny_nextOf_tuple_end hh z.2.1 z.2.2 (by simp [hn]) q
theorem past_lst (hh : A.handled = none) (it t : Addr) (ne : t ≠ it) (items : Array Value) (n : Nat) (hn : items.size ≤ n) :
    Draws prog w A it [it, t] n (fun _ _ => True) (fun k h => k = n ∧ h.IsListIter it t n ∧ h.IsList t items) where
  live := fun _ _ z => by obtain ⟨_, ⟨o, e, _⟩, _⟩ := z; exact ⟨o, e⟩
  frame := fun _ _ _ z kp => ⟨z.1, z.2.1.at fun o e => kp it (by simp) o e, z.2.2.at fun o e => kp t (by simp) o e⟩
  item := fun k _ _ _ lt z _ => absurd z.1 (Nat.ne_of_lt lt)
  done := fun _ _ _ z q => wpAny_nextOf_list_end hh z.2.1 z.2.2 (by simp [hn]) q
end
/-- a tuple at a and a list at b as they stand at each turn -/
def ItzM (K : PySem.W.Frag) (a b : Addr) : It :=
  ⟨fun i H => ∃ (us vs : List V) (u v : V), SqT K H a us ∧ SqL K H b vs ∧ us[i]? = some u ∧ vs[i]? = some v,
    fun i H r H' => ∃ T u v, r = .ref T ∧ H T = none ∧ H' = upd H T (.tup [u, v]) ∧ (∀ us, SqT K H a us → us[i]? = some u) ∧ ∀ vs, SqL K H b vs → vs[i]? = some v,
    fun i H => ∃ us vs : List V, SqT K H a us ∧ SqL K H b vs ∧ (us.length ≤ i ∨ vs.length ≤ i)⟩
/-- how the iterator stands at turn i -/
def ZmAt (z TI TO i1 i2 a b : Addr) (i : Nat) (h : Heap) : Prop := IsZip h z TI TO .none ∧ IsTupOf2 h TI (.ref i1) (.ref i2) ∧ (∃ x y, IsTupOf2 h TO x y) ∧ h.IsTupleIter i1 a i ∧ h.IsListIter i2 b i
theorem ZmAt.obj {z TI TO i1 i2 a b : Addr} {i : Nat} {h : Heap} (z0 : ZmAt z TI TO i1 i2 a b i h) : ∀ c ∈ [z, TI, TO, i1, i2], ∃ o, h.get? c = some o ∧ ∀ v, o.data ≠ .cell v := fun c hc => by
  obtain ⟨e1, e2, ⟨x, y, e3⟩, ⟨o4, e4, _, d4⟩, ⟨o5, e5, _, d5⟩⟩ := z0
  simp only [List.mem_cons, List.not_mem_nil, or_false] at hc
  rcases hc with rfl | rfl | rfl | rfl | rfl
  · exact ⟨_, e1, fun v q => nomatch q⟩
  · exact ⟨_, e2, fun v q => nomatch q⟩
  · exact ⟨_, e3, fun v q => nomatch q⟩
  · exact ⟨o4, e4, fun v q => by rw [d4] at q; cases q⟩
  · exact ⟨o5, e5, fun v q => by rw [d5] at q; cases q⟩
theorem ch_of {z TI TO i1 i2 c : Addr} (h : c ∉ [z, TI, TO, i1, i2]) : c ∉ [z, TO, i1, i2] := fun m => h (by
  simp only [List.mem_cons, List.not_mem_nil, or_false] at m ⊢
  rcases m with q | q | q | q
  · exact .inl q
  · exact .inr (.inr (.inl q))
  · exact .inr (.inr (.inr (.inl q)))
  · exact .inr (.inr (.inr (.inr q))))
theorem turn_zipM {P : Program} {w : World} {K : PySem.W.Frag} {elts : List Expr} {kk : Nat} {tpos : Pos} {a b z TI TO i1 i2 : Addr} (S : ZipSep2 z TI TO i1 i2 [i1, a] [i2, b]) (na : a ≠ i1) (nb : b ≠ i2) :
    Turn P w K (.Tuple elts kk tpos) (ItzM K a b) [z, TI, TO, i1, i2] z (ZmAt z TI TO i1 i2 a b) where
  mem := List.mem_cons_self
  obj := fun i h z0 => z0.obj
  keep := fun i h h' z0 kp => by
    obtain ⟨e1, e2, ⟨x, y, e3⟩, e4, e5⟩ := z0
    exact ⟨kp z (by simp) _ e1, kp TI (by simp) _ e2, ⟨x, y, kp TO (by simp) _ e3⟩, e4.at fun o q => kp i1 (by simp) o q, e5.at fun o q => kp i2 (by simp) o q⟩
  item := by
    intro X hP hw hK hc i pins s σ H E I hf z0 hg
    subst hP hw hK
    have zo := z0.obj
    obtain ⟨e1, e2, e3, e4, e5⟩ := z0
    obtain ⟨us, vs, u, v, qu, qv, hu, hv⟩ := hg
    obtain ⟨its, r1, p1, _⟩ := I.tuple qu
    obtain ⟨its2, r2, p2, _⟩ := I.list qv
    obtain ⟨x, hx, rx⟩ := r1.get hu
    obtain ⟨y, hy, ry⟩ := r2.get hv
    have lx : i < its.toArray.size := by simpa using (List.getElem?_eq_some_iff.mp hx).1
    have ly : i < its2.toArray.size := by simpa using (List.getElem?_eq_some_iff.mp hy).1
    have hh : X.A.in1.handled = none := I.ok.hd hc
    have G := GoesN.zip2 (elts := elts) (x1 := kk) (pos := tpos) (prog := X.prog) (w := X.w) S (Draws.tuple hh i1 a na its.toArray) (Draws.list hh i2 b nb its2.toArray)
    refine G.goes i s (fun r s2 => ∃ x H', Inv X pins σ H' s2 ∧ RelV x r ∧ (ItzM X.K a b).yld i H x H' ∧ ZmAt z TI TO i1 i2 a b (i + 1) s2.heap ∧ ∀ b ∈ [z, TI, TO, i1, i2], H' b = none) E (Nat.lt_min.mpr ⟨lx, ly⟩) ⟨e1, e2, e3, ⟨e4, p1⟩, e5, p2.isList⟩ ?_
    intro r h' tk hY st' hk _
    obtain ⟨T, x', y', rfl, hT, hx', hy', ht⟩ := hY
    have ex : x' = x := by
      have := hx'.symm.trans (show its.toArray[i]? = some x by simpa using hx)
      exact Option.some.inj this
    have ey : y' = y := by
      have := hy'.symm.trans (show its2.toArray[i]? = some y by simpa using hy)
      exact Option.some.inj this
    subst ex ey
    have new : ObjOk X.prog X.w (upd H T (.tup [u, v])) h' T (.tup [u, v]) := ⟨by show 2 ≤ sizeLine; decide, [x', y'], .cons rx (.cons ry .nil), ht⟩
    have I1 : Inv X pins σ (upd H T (.tup [u, v])) { s with heap := h', toks := tk } := I.turnedNew (t' := tk) (ch := [z, TI, TO, i1, i2]) (fun c o hb q => hk c o (ch_of hb) q) hf hT new
    refine ⟨.ref T, _, I1, rfl, ⟨T, u, v, rfl, I.hok.fresh hT, rfl, fun l hl => by rw [I.tuple_inj hl qu]; exact hu, fun l hl => by rw [I.list_inj hl qv]; exact hv⟩, ⟨st'.1, st'.2.1, st'.2.2.1, st'.2.2.2.1.1, st'.2.2.2.2.1⟩, fun c hc => ?_⟩
    obtain ⟨o, eo, _⟩ := zo c hc
    rw [upd_ne (Nat.ne_of_lt (Nat.lt_of_lt_of_le (Heap.lt_size eo) hT))]
    exact (hf c hc).1
  done := by
    intro X hP hw hK hc i pins s σ H E I hf z0 hg
    subst hP hw hK
    obtain ⟨e1, e2, e3, e4, e5⟩ := z0
    obtain ⟨us, vs, qu, qv, hend⟩ := hg
    obtain ⟨its, r1, p1, _⟩ := I.tuple qu
    obtain ⟨its2, r2, p2, _⟩ := I.list qv
    have hh : X.A.in1.handled = none := I.ok.hd hc
    have l1 : us.length = its.toArray.size := by rw [List.size_toArray, r1.length]
    have l2 : vs.length = its2.toArray.size := by rw [List.size_toArray, r2.length]
    rw [l1, l2] at hend
    have fin : ∀ h' tk, (∀ b o, b ∉ [z, TO, i1, i2] → s.heap.get? b = some o → h'.get? b = some o) → s.toks ≤ tk → Inv X pins σ H { s with heap := h', toks := tk } := fun h' tk hk _ =>
      I.turnedL (t' := tk) (ch := [z, TI, TO, i1, i2]) (fun c o hb q => hk c o (ch_of hb) q) hf
    by_cases c1 : its.toArray.size ≤ i
    · by_cases c2 : its2.toArray.size ≤ i
      · have G := GoesN.zip2 (elts := elts) (x1 := kk) (pos := tpos) (prog := X.prog) (w := X.w) S (past_tup hh i1 a na its.toArray i c1) (past_lst hh i2 b nb its2.toArray i c2)
        rw [Nat.min_self] at G
        exact G.stops s _ E ⟨e1, e2, e3, ⟨rfl, e4, p1⟩, rfl, e5, p2.isList⟩ fin
      · have G := GoesN.zip2 (elts := elts) (x1 := kk) (pos := tpos) (prog := X.prog) (w := X.w) S (past_tup hh i1 a na its.toArray i c1) (Draws.list hh i2 b nb its2.toArray)
        rw [Nat.min_eq_left (by omega)] at G
        exact G.stops s _ E ⟨e1, e2, e3, ⟨rfl, e4, p1⟩, e5, p2.isList⟩ fin
    · have c2 : its2.toArray.size ≤ i := by omega
      have G := GoesN.zip2 (elts := elts) (x1 := kk) (pos := tpos) (prog := X.prog) (w := X.w) S (Draws.tuple hh i1 a na its.toArray) (past_lst hh i2 b nb its2.toArray i c2)
      rw [Nat.min_eq_right (by omega)] at G
      exact G.stops s _ E ⟨e1, e2, e3, ⟨e4, p1⟩, rfl, e5, p2.isList⟩ fin
  self := fun A i s Q E z0 h => wpAny_pyIter_zip z0.1 h
def iZipM (K : PySem.W.Frag) (ta : TA) : TI := fun σ H R => ta σ H fun vs H1 => ∃ a b us ws, vs = [.ref a, .ref b] ∧ SqT K H1 a us ∧ SqL K H1 b ws ∧ R (ItzM K a b) H1
theorem pi_zipM {X : Cx} {e e2 : Expr} {ta : TA} {p pos tpos : Pos} {elts : List Expr} {kk : Nat} (hg : Gl X "zip") (hm : X.mg "zip" = none) (ha : PA X [e, e2] ta)
    (hs : starEach [e, e2] X.env = (false, eval e X.env) :: starEach [e2] X.env := by rfl) (hpl : (backTo pos (starEach [e2] X.env)).any (·.1) = false := by rfl) :
    PI X (.Tuple elts kk tpos) (.Call (.Name "zip" p) [e, e2] [] pos) (iZipM X.K ta) := by
  constructor
  intro pins s σ H R I h
  refine Call_ (ld_blt I hg hm PyProof.Rows.boot_zip (PyProof.Rows.callWith_type1 (thn (ha.run pos pins s σ H _ I h) fun us s1 ⟨vs, H1, I1, r1, q1⟩ => ?_) hs hpl))
  obtain ⟨a, b, us, ws, rfl, qu, qw, q⟩ := q1
  obtain ⟨u, u2, rfl, ra, rb⟩ := vals2 r1
  cases ra
  cases rb
  obtain ⟨its, rv, p1, _⟩ := I1.tuple qu
  obtain ⟨its2, rv2, p2, _⟩ := I1.list qw
  have la : a < s1.heap.objs.size := by obtain ⟨o, ho, _⟩ := id p1; exact Heap.lt_size ho
  have lb : b < s1.heap.objs.size := p2.lt
  refine zip_begins2 (begins_tuple a its.toArray) (begins_list b its2.toArray) p1 p2.isList fun h' hz hTI hTO h1 h2 hsz hk => wpAny_pyIter_zip hz ?_
  have I2 : Inv X pins σ H1 { s1 with heap := h' } := I1.kept (t' := s1.toks) hk
  have S : ZipSep2 (s1.heap.objs.size + 4) (s1.heap.objs.size + 2) (s1.heap.objs.size + 3) s1.heap.objs.size (s1.heap.objs.size + 1) [s1.heap.objs.size, a] [s1.heap.objs.size + 1, b] :=
    zip_sep2 (fun c hc => by rw [List.mem_singleton.mp hc]; exact la) (fun c hc => by rw [List.mem_singleton.mp hc]; exact lb)
  refine ⟨s1.heap.objs.size + 4, [s1.heap.objs.size + 4, s1.heap.objs.size + 2, s1.heap.objs.size + 3, s1.heap.objs.size, s1.heap.objs.size + 1], _, _, H1, rfl, I2, turn_zipM S (Nat.ne_of_lt la) (Nat.ne_of_lt (Nat.lt_succ_of_lt lb)), ⟨hz, hTI, ⟨_, _, hTO⟩, ⟨_, h1, rfl, rfl⟩, ⟨_, h2, rfl, rfl⟩⟩, fun c hc => ?_, q⟩
  have le : s1.heap.objs.size ≤ c := by
    simp only [List.mem_cons, List.not_mem_nil, or_false] at hc
    rcases hc with rfl | rfl | rfl | rfl | rfl
    · exact Nat.le_add_right _ _
    · exact Nat.le_add_right _ _
    · exact Nat.le_add_right _ _
    · exact Nat.le_refl _
    · exact Nat.le_add_right _ _
  exact I1.fpOk le (I1.hok.fresh le)
section
variable {X : Cx} {W : WX} {e e2 : Expr} {wr : WAr} {p pos tpos : Pos}
def wZipM (wr : WAr) : WIt := fun ρ h R RX => wr ρ h (fun ts h1 => ∃ x y xs ys, ts = [x, y] ∧ x = .tup xs ∧ asL h1 y = some ys ∧ R (zipT xs ys) (fun h' => asL h' y = some ys) h1) RX
theorem itzM_rel {a b : Addr} {xs ys : List T} {P : AH → Prop} {S0 : AS} {H0 : Hp} (hs : ∀ S' h' H', Ext S0 H0 S' H' → HRel X.K X.mg S' h' H' → P h' → ∃ us vs, SqT X.K H' a us ∧ RelTs X.K S' xs us ∧ SqL X.K H' b vs ∧ RelTs X.K S' ys vs) : ItRel X (ItzM X.K a b) (zipT xs ys) P S0 H0 := fun i S' h' H' e r hP => by
  obtain ⟨us, vs, q, rs, q2, rs2⟩ := hs S' h' H' e r hP
  refine ⟨fun t ht => ?_, fun hl => ⟨us, vs, q, q2, by rw [zipT_len] at hl; rw [← rs.length, ← rs2.length]; omega⟩⟩
  obtain ⟨x, y, hx, hy, rfl⟩ := zipT_at ht
  obtain ⟨u, hu, ru⟩ := rs.get hx
  obtain ⟨u2, hu2, ru2⟩ := rs2.get hy
  refine ⟨⟨us, vs, u, u2, q, q2, hu, hu2⟩, fun v H'' ⟨T0, y1, y2, ev, hT, eH, h1, h2⟩ => ?_⟩
  have e1 := h1 us q
  rw [hu] at e1; cases e1
  have e2 := h2 vs q2
  rw [hu2] at e2; cases e2
  subst ev eH
  exact pair_new2 r hT ru ru2
theorem si_zipM {elts : List Expr} {kk : Nat} (hm : X.mg "zip" = none) (ha : SA X W [e, e2] wr) (hg : Gl X "zip" := by rfl) (hs : starEach [e, e2] X.env = (false, eval e X.env) :: starEach [e2] X.env := by rfl) (hpl : (backTo pos (starEach [e2] X.env)).any (·.1) = false := by rfl) :
    SI X W (.Tuple elts kk tpos) (.Call (.Name "zip" p) [e, e2] [] pos) (wZipM wr) := PI.imp (pi_zipM hg hm ha hs hpl) fun σ H Q ⟨S, ρ, h, R, RX, ar, hr, hw, hR, hX⟩ => by
  refine ⟨S, ρ, h, _, RX, ar, hr, hw, fun ts h1 q1 S1 us H1 E1 R1 rs => ?_, hX⟩
  obtain ⟨x, y, xs, ys, rfl, rfl, e2, q⟩ := q1
  obtain ⟨u, u2, rfl, rx, ry⟩ := rel2 rs
  obtain ⟨a, us, rfl, h2, r2⟩ := asT_rel R1 rx (ts := xs) rfl
  obtain ⟨b, vs, rfl, h3, r3⟩ := asL_rel R1 ry e2
  refine ⟨a, b, us, vs, rfl, h2, h3, hR _ _ h1 q S1 H1 _ E1 R1 (itzM_rel fun S' h' H' e r hP => ?_)⟩
  obtain ⟨a', us', e4, h4, r4⟩ := asT_rel r (rx.mono e.sub) (ts := xs) rfl
  cases e4
  obtain ⟨b', vs', e5, h5, r5⟩ := asL_rel r (ry.mono e.sub) hP
  cases e5
  exact ⟨us', vs', h4, r4, h5, r5⟩
end
section
variable {wr : WAr} {ρ : Rho} {h : AH} {X : XC}
theorem x_zipM {Ri : List T → (AH → Prop) → AH → Prop} : wZipM wr ρ h Ri X = wr ρ h (fun ts h1 => Two ts fun x y => ∃ xs ys, x = .tup xs ∧ asL h1 y = some ys ∧ Ri (zipT xs ys) (fun h' => asL h' y = some ys) h1) X := by
  simp only [wZipM, Two]
  congr 1
  funext ts h1
  apply propext
  constructor
  · rintro ⟨x, y, xs, ys, e, a, b, c⟩; exact ⟨x, y, e, xs, ys, a, b, c⟩
  · rintro ⟨x, y, e, xs, ys, a, b, c⟩; exact ⟨x, y, xs, ys, e, a, b, c⟩
end
end TL

namespace TL
open PySem PySem.Spec PyProof.Rows L2
section
variable {X : Cx} {W : WX} {a b : Expr} {wa wb : WEx} {pos : Pos}
def wAddC (wa wb : WEx) : WEx := fun ρ h R RX => wa ρ h (fun x h1 => wb ρ h1 (fun y h2 => ∃ xs ys, asR h2 x = some xs ∧ asR h2 y = some ys ∧ xs.length + ys.length ≤ lim ∧ R (.ref h2.length) (h2 ++ [.lst (xs ++ ys)])) RX) RX
theorem se_addC (ha : SE X W a wa) (hb : SE X W b wb) : SE X W (.BinOp a .Add b pos) (wAddC wa wb) :=
  PE.imp (pe_op op_catR ha hb) fun σ H Q q => by
    obtain ⟨S, ρ, h, R, RX, ar, hr, hw, hR, hX⟩ := q
    refine ⟨S, ρ, h, _, RX, ar, hr, hw, fun x h1 q1 S1 u H1 E1 R1 rx => ?_, hX⟩
    refine ⟨S1, ρ, h1, _, RX, ar.mono E1.sub, R1, q1, fun y h2 q2 S2 u2 H2 E2 R2 ry => ?_, hX.mono E1⟩
    obtain ⟨xs, ys, ex, ey, hc, q⟩ := q2
    obtain ⟨l, us, rfl, h3, r1⟩ := asR_rel R2 (rx.mono E2.sub) ex
    obtain ⟨m, vs, rfl, h4, r2⟩ := asR_rel R2 ry ey
    exact ⟨l, m, us, vs, rfl, rfl, h3, h4, by rw [← r1.length, ← r2.length]; exact lim_le hc, new_cell R2 (r1.append r2) fun S' v H' e2 => hR _ _ q S' v H' ((E1.trans E2).trans e2)⟩
end
theorem x_addC {wa wb : WEx} {ρ : Rho} {h : AH} {R : T → AH → Prop} {X : XC} : wAddC wa wb ρ h R X = wa ρ h (fun x h1 => wb ρ h1 (fun y h2 => Got (asR h2 x) fun xs => Got (asR h2 y) fun ys => xs.length + ys.length ≤ lim ∧ R (.ref h2.length) (h2 ++ [.lst (xs ++ ys)])) X) X := by
  simp only [wAddC, Got]
  congr 1
  funext x h1
  congr 1
  funext y h2
  apply propext
  constructor
  · rintro ⟨xs, ys, e1, e2, r⟩; exact ⟨xs, e1, ys, e2, r⟩
  · rintro ⟨xs, e1, ys, e2, r⟩; exact ⟨xs, ys, e1, e2, r⟩
end TL

namespace TL
open PySem PySem.Spec PyProof.Rows L2
local macro_rules | `(tactic| walk_at "tl") => `(tactic| simp only [got_some, got_if, slot_0, slot_s, br_t, br_f, br_n, asB_b, asI_i, asI1_i, asI2_i, two_2, one_1, head_c, x_indexT, x_tupRgF, tupF_l, asT_f, asQ_f, isi_ftp, len_f, ix_f, walks_ftp, gtL_i, x_var, x_c, x_bin, x_nil, x_cons, x_tup, x_lstF, x_lstC, x_tru, x_tb, x_notT, x_andT, x_orT, x_not, x_and, x_or, x_if, x_chain, x_neg, x_callN, x_isi, x_po0, x_po, x_sl, x_rev, x_frz, x_listC, x_r1, x_tupRg, x_lstRgC, x_dict0, x_dictII, x_bm, x_app, x_popAt, eq_i, ne_i, eq_s, ne_s, len_tupN, walks_tupN, x_call, x_compF, x_compC, x_yes, x_rg1, x_rg2, x_itS, walks_tup, walks_lst, walks_scr, x_seq, x_skip, x_break, x_cont, x_expr, x_ret, x_retN, x_ifS, x_asg, x_nm, x_gnils, x_gcons, x_gtu, x_gsub, mulT_i, mulU_i, x_fld, x_fldPut, x_fldAug, x_meth, x_make, x_callD, x_callK, x_countD, x_indexD, x_lenSet, powB_i, min3_i, x_raise, x_rg3, asI3_i, x_sorted, x_sortedUp, x_enumZ, x_minD, x_minP, x_frzD, x_pre, x_dict3, x_dget2, eqNil_f, neNilL_f, eqNilL_f, x_setI, notInI_f, x_itemsT, isF_f, x_try, x_tryAs, x_isE, x_par3, three_3, mulL_l, x_mulC, asR_l, x_rg2B, isB_b, x_gtuL, x_gsta, sta_c, x_zip,  x_index,  x_enum, enums_tup, enums_lst, enums_scr, mulS_i,  x_com2F, x_gsubD, x_dict0T, x_dict0N, int_i, int_b, keysOf_tupN, x_par, x_aug, x_for, x_never, x_wipe0, x_wipe, add_i, add_t, add_l, add_scr, add_s, sub_i, mul_i, div_i, mod_i, pow_i, cmp_i, asQ_t, asQ_l, asQ_s, asL_l, asL_s, asL_t, asT_t, ix_t, ix_l, ix_s, len_t, len_l, len_s, tupleOf_l, tupleOf_t, listOf_t, listOf_l, max2_i, min2_i, sl_t, sl_l, sl_s, rev_t, rev_l, tru_b, tru_i, ty_non, ty_bl, ty_int, ty_str, ty_tup, ty_lst, List.map_cons, List.map_nil, List.cons_append, List.nil_append, List.append_nil, List.set_cons_zero, List.set_cons_succ, List.length_cons, List.length_nil, List.replicate_succ, List.replicate_zero, Nat.sub_self, Nat.zero_add, Nat.reduceAdd, Nat.reduceSub, Nat.reduceLeDiff, Bool.not_true, Bool.not_false, true_and, and_true, if_true, decide_true, decide_false, EndsT.xe, List.reduceReplicate, Nat.le_refl, Nat.zero_le])
def within (t : T) (a b : Int) : Bool := match t with
  | .int v => decide (a ≤ v) && decide (v ≤ b)
  | _ => false
def doings (many : Int) (t : T) (least most : Int) : Bool := match t with
  | .tup xs => (decide (least ≤ (xs.length : Int)) && decide ((xs.length : Int) ≤ most)) && xs.all fun x => within x 0 (many - 1)
  | _ => false
def turnB (many : Int) (t : T) : Bool := (decide (1 ≤ many) && decide (many ≤ 9)) && doings many t many many
/-- a tuple whose object is known, as a tuple -/
def unF : T → T
  | .ftp xs => .tup xs
  | t => t
/-- it may be asked what it is; its items, too -/
def okT1 (h : AH) (t : T) : Prop := okT h t ∧ ∀ xs, t = .tup xs → xs.length ≤ 5000 ∧ ∀ x ∈ xs, okT h x
theorem not_ib {t : T} (h : isI t = true) : isB t = false := by cases t <;> simp_all [isI, isB]
theorem isI_iff {t : T} : isI t = true ↔ ∃ i, t = .int i := by cases t <;> simp [isI]
theorem isTu_iff {t : T} : isTu t = true ↔ ∃ xs, t = .tup xs := by cases t <;> simp [isTu]
theorem retT {h : AH} {R : T → AH → Prop} {t t' : T} (r : R t h) (e : t = t') : RetP h R t' h := by subst e; exact .inl r

theorem mapM_bl {α : Type} (f : α → Bool) : ∀ xs : List α, (xs.map fun x => T.bl (f x)).mapM blOf = some (xs.map f)
  | [] => rfl
  | x :: xs => by rw [List.map_cons, List.mapM_cons, mapM_bl f xs]; rfl
theorem all_map {α : Type} {h : AH} (f : α → Bool) (xs : List α) : opAllAny false h [.lst (xs.map fun x => T.bl (f x))] = some (.bl (xs.all f)) := by
  unfold opAllAny
  simp only [asL_l, mapM_bl, allAny, List.all_map]
  simp [Function.comp_def]
theorem any_map {α : Type} {h : AH} (f : α → Bool) (xs : List α) : opAllAny true h [.lst (xs.map fun x => T.bl (f x))] = some (.bl (xs.any f)) := by
  unfold opAllAny
  simp only [asL_l, mapM_bl, allAny, List.any_map]
  simp [Function.comp_def]
/-- as compL_map, the items as they stand -/
theorem compL_id {P : AH → Prop} {g : WTg} {wt : WTe} {w : WEx} {vs : List Nat} {ρ : Rho} {h : AH} {R : List T → AH → Prop} (f : T → T) (xs : List T) (hP : P h)
    (hs : ∀ x ∈ xs, ∀ (Ky : T → AH → Prop) (Kn : AH → Prop), Ky (f x) h → g x (wipeT ρ vs) h (fun ρ2 h2 => wt ρ2 h2 (fun k h3 => if k = true then w ρ2 h3 Ky (fun _ _ => False) else Kn h3) (fun _ _ => False)) (fun _ _ => False))
    (hl : xs.length ≤ lim) (r : R (xs.map f) h) : wCompL P g wt w vs ρ xs [] h R := by
  have := compL_map (P := P) (g := g) (wt := wt) (w := w) (vs := vs) (ρ := ρ) (h := h) (R := R) id f xs hP hs hl r
  rwa [List.map_id] at this
end TL

namespace TL
open PySem PySem.Spec PyProof.Rows L2
local macro_rules | `(tactic| walk_at "tl") => `(tactic| simp only [got_some, got_if, slot_0, slot_s, br_t, br_f, br_n, asB_b, asI_i, asI1_i, asI2_i, two_2, one_1, head_c, x_indexT, x_tupRgF, tupF_l, asT_f, asQ_f, isi_ftp, len_f, ix_f, walks_ftp, gtL_i, x_var, x_c, x_bin, x_nil, x_cons, x_tup, x_lstF, x_lstC, x_tru, x_tb, x_notT, x_andT, x_orT, x_not, x_and, x_or, x_if, x_chain, x_neg, x_callN, x_isi, x_po0, x_po, x_sl, x_rev, x_frz, x_listC, x_r1, x_tupRg, x_lstRgC, x_dict0, x_dictII, x_bm, x_app, x_popAt, eq_i, ne_i, eq_s, ne_s, len_tupN, walks_tupN, x_call, x_compF, x_compC, x_yes, x_rg1, x_rg2, x_itS, walks_tup, walks_lst, walks_scr, x_seq, x_skip, x_break, x_cont, x_expr, x_ret, x_retN, x_ifS, x_asg, x_nm, x_gnils, x_gcons, x_gtu, x_gsub, mulT_i, mulU_i, x_fld, x_fldPut, x_fldAug, x_meth, x_make, x_callD, x_callK, x_countD, x_indexD, x_lenSet, powB_i, min3_i, x_raise, x_rg3, asI3_i, x_sorted, x_sortedUp, x_enumZ, x_minD, x_minP, x_frzD, x_pre, x_dict3, x_dget2, eqNil_f, neNilL_f, eqNilL_f, x_setI, notInI_f, x_itemsT, isF_f, x_try, x_tryAs, x_isE, x_par3, three_3, mulL_l, x_mulC, asR_l, x_rg2B, isB_b, x_gtuL, x_gsta, sta_c, x_zip,  x_index,  x_enum, enums_tup, enums_lst, enums_scr, mulS_i,  x_com2F, x_gsubD, x_dict0T, x_dict0N, int_i, int_b, keysOf_tupN, x_par, x_aug, x_for, x_never, x_wipe0, x_wipe, add_i, add_t, add_l, add_scr, add_s, sub_i, mul_i, div_i, mod_i, pow_i, cmp_i, asQ_t, asQ_l, asQ_s, asL_l, asL_s, asL_t, asT_t, ix_t, ix_l, ix_s, len_t, len_l, len_s, tupleOf_l, tupleOf_t, listOf_t, listOf_l, max2_i, min2_i, sl_t, sl_l, sl_s, rev_t, rev_l, tru_b, tru_i, ty_non, ty_bl, ty_int, ty_str, ty_tup, ty_lst, List.map_cons, List.map_nil, List.cons_append, List.nil_append, List.append_nil, List.set_cons_zero, List.set_cons_succ, List.length_cons, List.length_nil, List.replicate_succ, List.replicate_zero, Nat.sub_self, Nat.zero_add, Nat.reduceAdd, Nat.reduceSub, Nat.reduceLeDiff, Bool.not_true, Bool.not_false, true_and, and_true, if_true, decide_true, decide_false, EndsT.xe, List.reduceReplicate, Nat.le_refl, Nat.zero_le])
theorem okMul_r {i j : Int} (h : decide (-(2 ^ 64) < j ∧ j < 2 ^ 64) = true) : okMul i j = true := by
  unfold okMul
  exact decide_eq_true (Or.inr (of_decide_eq_true h))
theorem okMul_l {i j : Int} (h1 : -(2 ^ 64) < i) (h2 : i < 2 ^ 64) : okMul i j = true := by
  unfold okMul
  exact decide_eq_true (Or.inl ⟨h1, h2⟩)
theorem log_small {j : Int} (h0 : 0 < j) (h : j < 2 ^ 100) : j.natAbs.log2 < 9000 := by
  have : j.natAbs < 2 ^ 100 := by omega
  exact Nat.lt_trans (PySem.Flt.log2_lt_of (by decide) this) (by decide)
/-- a bag stands at b -/
def IsBag (h : AH) (b : Nat) : Prop := ∃ x c k : Int, h[b]? = some (.lst [.int x, .int c, .int k])
/-- h' is h but for the bag at b, which is a bag still -/
def BagTo (b : Nat) (h h' : AH) : Prop := ∃ x c k : Int, h' = h.set b (.lst [.int x, .int c, .int k])
theorem BagTo.bag {b : Nat} {h h' : AH} (s : BagTo b h h') (i : IsBag h b) : IsBag h' b := by
  obtain ⟨x, c, k, rfl⟩ := s
  obtain ⟨_, _, _, e⟩ := i
  exact ⟨x, c, k, by rw [List.getElem?_set_self (List.getElem?_eq_some_iff.mp e).1]⟩
theorem BagTo.trans {b : Nat} {h h' h2 : AH} (s : BagTo b h h') (t : BagTo b h' h2) : BagTo b h h2 := by
  obtain ⟨x, c, k, rfl⟩ := s
  obtain ⟨x', c', k', rfl⟩ := t
  exact ⟨x', c', k', by rw [List.set_set]⟩
theorem BagTo.refl {b : Nat} {h : AH} (i : IsBag h b) : BagTo b h h := by
  obtain ⟨x, c, k, e⟩ := i
  exact ⟨x, c, k, by obtain ⟨hb, e'⟩ := List.getElem?_eq_some_iff.mp e; rw [← e', List.set_getElem_self]⟩
theorem BagTo.len {b : Nat} {h h' : AH} (s : BagTo b h h') : h'.length = h.length := by
  obtain ⟨x, c, k, rfl⟩ := s; simp
theorem BagTo.ne {b n : Nat} {h h' : AH} (s : BagTo b h h') (hn : b ≠ n) : h'[n]? = h[n]? := by
  obtain ⟨x, c, k, rfl⟩ := s; rw [List.getElem?_set_ne hn]
theorem IsBag.lt {b : Nat} {h : AH} (i : IsBag h b) : b < h.length := by
  obtain ⟨x, c, k, e⟩ := i; exact (List.getElem?_eq_some_iff.mp e).1

end TL

namespace TL
open PySem PySem.Spec PyProof.Rows L2
local macro_rules | `(tactic| walk_at "tl") => `(tactic| simp only [got_some, got_if, slot_0, slot_s, br_t, br_f, br_n, asB_b, asI_i, asI1_i, asI2_i, two_2, one_1, head_c, x_indexT, x_tupRgF, tupF_l, asT_f, asQ_f, isi_ftp, len_f, ix_f, walks_ftp, gtL_i, x_var, x_c, x_bin, x_nil, x_cons, x_tup, x_lstF, x_lstC, x_tru, x_tb, x_notT, x_andT, x_orT, x_not, x_and, x_or, x_if, x_chain, x_neg, x_callN, x_isi, x_po0, x_po, x_sl, x_rev, x_frz, x_listC, x_r1, x_tupRg, x_lstRgC, x_dict0, x_dictII, x_bm, x_app, x_popAt, eq_i, ne_i, eq_s, ne_s, len_tupN, walks_tupN, x_call, x_compF, x_compC, x_yes, x_rg1, x_rg2, x_itS, walks_tup, walks_lst, walks_scr, x_seq, x_skip, x_break, x_cont, x_expr, x_ret, x_retN, x_ifS, x_asg, x_nm, x_gnils, x_gcons, x_gtu, x_gsub, mulT_i, mulU_i, x_fld, x_fldPut, x_fldAug, x_meth, x_make, x_callD, x_callK, x_countD, x_indexD, x_lenSet, powB_i, min3_i, x_raise, x_rg3, asI3_i, x_sorted, x_sortedUp, x_enumZ, x_minD, x_minP, x_frzD, x_pre, x_dict3, x_dget2, eqNil_f, neNilL_f, eqNilL_f, x_setI, notInI_f, x_itemsT, isF_f, x_try, x_tryAs, x_isE, x_par3, three_3, mulL_l, x_mulC, asR_l, x_rg2B, isB_b, x_gtuL, x_gsta, sta_c, x_zip,  x_index,  x_enum, enums_tup, enums_lst, enums_scr, mulS_i,  x_com2F, x_gsubD, x_dict0T, x_dict0N, int_i, int_b, keysOf_tupN, x_par, x_aug, x_for, x_never, x_wipe0, x_wipe, add_i, add_t, add_l, add_scr, add_s, sub_i, mul_i, div_i, mod_i, pow_i, cmp_i, asQ_t, asQ_l, asQ_s, asL_l, asL_s, asL_t, asT_t, ix_t, ix_l, ix_s, len_t, len_l, len_s, tupleOf_l, tupleOf_t, listOf_t, listOf_l, max2_i, min2_i, sl_t, sl_l, sl_s, rev_t, rev_l, tru_b, tru_i, ty_non, ty_bl, ty_int, ty_str, ty_tup, ty_lst, List.map_cons, List.map_nil, List.cons_append, List.nil_append, List.append_nil, List.set_cons_zero, List.set_cons_succ, List.length_cons, List.length_nil, List.replicate_succ, List.replicate_zero, Nat.sub_self, Nat.zero_add, Nat.reduceAdd, Nat.reduceSub, Nat.reduceLeDiff, Bool.not_true, Bool.not_false, true_and, and_true, if_true, decide_true, decide_false, EndsT.xe, List.reduceReplicate, Nat.le_refl, Nat.zero_le])
def IsTurn (m : Nat) (xs : List Nat) : Prop := xs.length = m ∧ ∀ x ∈ xs, x < m
/-- one, then the other -/
def compN (a b : List Nat) : List Nat := a.map fun i => b.getD i 0
def powN (t : List Nat) : Nat → List Nat
  | 0 => List.range t.length
  | k + 1 => compN (powN t k) t
theorem getD_lt {m : Nat} {t : List Nat} (h : IsTurn m t) {i : Nat} (hi : i < m) : t.getD i 0 < m := by
  have hl : i < t.length := by rw [h.1]; exact hi
  rw [List.getD_eq_getElem?_getD, List.getElem?_eq_getElem hl]
  exact h.2 _ (List.getElem_mem hl)
theorem range_turn (m : Nat) : IsTurn m (List.range m) := ⟨List.length_range, fun x hx => List.mem_range.mp hx⟩
theorem comp_turn {m : Nat} {a b : List Nat} (ha : IsTurn m a) (hb : IsTurn m b) : IsTurn m (compN a b) :=
  ⟨by unfold compN; rw [List.length_map]; exact ha.1, fun x hx => by
    obtain ⟨i, hi, rfl⟩ := List.mem_map.mp hx
    exact getD_lt hb (ha.2 i hi)⟩
theorem comp_getD {a b : List Nat} {i : Nat} (hi : i < a.length) : (compN a b).getD i 0 = b.getD (a.getD i 0) 0 := by
  unfold compN
  rw [List.getD_eq_getElem?_getD, List.getElem?_map, List.getElem?_eq_getElem hi, List.getD_eq_getElem?_getD (l := a), List.getElem?_eq_getElem hi]; rfl
theorem comp_assoc {m : Nat} {a b c : List Nat} (ha : IsTurn m a) (hb : IsTurn m b) : compN (compN a b) c = compN a (compN b c) := by
  have : ∀ i ∈ a, c.getD (b.getD i 0) 0 = (compN b c).getD i 0 := fun i hi => (comp_getD (by rw [hb.1]; exact ha.2 i hi)).symm
  unfold compN at this ⊢
  rw [List.map_map]
  exact List.map_congr_left this
theorem comp_id_left {m : Nat} {a : List Nat} (ha : IsTurn m a) : compN (List.range m) a = a := by
  unfold compN
  apply List.ext_getElem
  · simp [ha.1]
  · intro i h1 h2
    simp [List.getElem?_eq_getElem h2]
theorem comp_id_right {m : Nat} {a : List Nat} (ha : IsTurn m a) : compN a (List.range m) = a := by
  unfold compN
  have : ∀ i ∈ a, (List.range m).getD i 0 = i := fun i hi => by
    rw [List.getD_eq_getElem?_getD, List.getElem?_range (ha.2 i hi)]; rfl
  rw [List.map_congr_left this, List.map_id']
theorem pow_turn {m : Nat} {t : List Nat} (h : IsTurn m t) : ∀ k, IsTurn m (powN t k)
  | 0 => by have := range_turn t.length; rw [h.1] at this; unfold powN; rw [h.1]; exact this
  | k + 1 => comp_turn (pow_turn h k) h
theorem pow_add {m : Nat} {t : List Nat} (h : IsTurn m t) (j : Nat) : ∀ k, powN t (j + k) = compN (powN t j) (powN t k)
  | 0 => by
    show powN t j = compN _ (List.range t.length)
    rw [h.1]; exact (comp_id_right (pow_turn h j)).symm
  | k + 1 => by
    show compN (powN t (j + k)) t = compN _ (compN (powN t k) t)
    rw [pow_add h j k, comp_assoc (pow_turn h j) (pow_turn h k)]
theorem pow_one {m : Nat} {t : List Nat} (h : IsTurn m t) : powN t 1 = t := by
  show compN (List.range t.length) t = t
  rw [h.1]; exact comp_id_left h
theorem pow_mul {m : Nat} {t : List Nat} (h : IsTurn m t) (j : Nat) : ∀ k, powN (powN t j) k = powN t (j * k)
  | 0 => by show List.range _ = List.range _; rw [(pow_turn h j).1, h.1]
  | k + 1 => by
    show compN (powN (powN t j) k) (powN t j) = _
    rw [pow_mul h j k, Nat.mul_succ, pow_add h]
/-- k times from a doing on -/
def oftN (t : List Nat) (i : Nat) : Nat → Nat
  | 0 => i
  | k + 1 => t.getD (oftN t i k) 0
theorem pow_getD {m : Nat} {t : List Nat} (h : IsTurn m t) {i : Nat} (hi : i < m) : ∀ k, (powN t k).getD i 0 = oftN t i k
  | 0 => by show (List.range t.length).getD i 0 = i; rw [List.getD_eq_getElem?_getD, List.getElem?_range (by rw [h.1]; exact hi)]; rfl
  | k + 1 => by
    show (compN (powN t k) t).getD i 0 = _
    rw [comp_getD (by rw [(pow_turn h k).1]; exact hi), pow_getD h hi k]; rfl
theorem oft_lt {m : Nat} {t : List Nat} (h : IsTurn m t) {i : Nat} (hi : i < m) : ∀ k, oftN t i k < m
  | 0 => hi
  | k + 1 => getD_lt h (oft_lt h hi k)
theorem turn_small {m : Nat} {t : List Nat} (h : IsTurn m t) (hm : m ≤ 1000) : ∀ x ∈ t, x < 10 ^ 40 := fun x hx => Nat.lt_of_lt_of_le (h.2 x hx) (Nat.le_trans hm (by decide))
theorem range_map {m : Nat} {n : Int} (e : n = (m : Int)) : rangeT 0 n.toNat = (List.range m).map fun (i : Nat) => T.int (i : Int) := by
  subst e
  unfold rangeT
  rw [Int.toNat_natCast]
  exact List.map_congr_left fun i _ => by rw [Int.zero_add]
theorem map_tupN {f : T → T} {g : Nat → Nat} {xs : List Nat} (h : ∀ x ∈ xs, f (.int (x : Int)) = .int ((g x : Nat) : Int)) : T.tup ((xs.map fun (n : Nat) => T.int (n : Int)).map f) = tupN (xs.map g) := by
  unfold tupN
  rw [List.map_map, List.map_map]
  congr 1
  exact List.map_congr_left fun x hx => h x hx
theorem cut_mem' {xs : List T} {lo hi : Option Int} {x : T} (h : x ∈ cutT xs lo hi) : x ∈ xs := List.mem_of_mem_drop (List.mem_of_mem_take h)
theorem cut_len {xs : List T} {lo hi : Option Int} : (cutT xs lo hi).length ≤ xs.length := by
  unfold cutT
  rw [List.length_take, List.length_drop]; omega
/-- a cell of the script, or 0 -/
theorem cell_int {ns : List Int} {lo hi : Option Int} {t : T} (h : t ∈ cutT (ns.map T.int) lo hi ++ [.int 0]) : ∃ c, t = .int c := by
  rcases List.mem_append.mp h with q | q
  · obtain ⟨c, _, rfl⟩ := List.mem_map.mp (cut_mem' q); exact ⟨c, rfl⟩
  · rw [List.mem_singleton.mp q]; exact ⟨0, rfl⟩
theorem BagTo.app {b : Nat} {h h2 : AH} {l : AH} (s : BagTo b (h ++ l) h2) (hb : b < h.length) : ∃ h3, h2 = h3 ++ l ∧ BagTo b h h3 := by
  obtain ⟨x, c, k, rfl⟩ := s
  exact ⟨h.set b (.lst [.int x, .int c, .int k]), by rw [List.set_append_left _ _ hb], ⟨x, c, k, rfl⟩⟩
theorem IsBag.app {b : Nat} {h : AH} (i : IsBag h b) (l : AH) : IsBag (h ++ l) b := by
  obtain ⟨x, c, k, e⟩ := i
  exact ⟨x, c, k, by rw [List.getElem?_append_left (List.getElem?_eq_some_iff.mp e).1]; exact e⟩
theorem clos_ints {k : Nat} {α : Type} {f : α → Int} : ∀ xs : List α, T.clos k (xs.map fun x => T.int (f x)) = true
  | [] => by simp [T.clos]
  | x :: xs => by rw [List.map_cons]; simp only [T.clos, clos_ints xs, T.clo, Bool.and_true]
theorem clo_tupN {k : Nat} {xs : List Nat} : T.clo k (tupN xs) = true := by
  unfold tupN
  simp only [T.clo]
  exact clos_ints xs
theorem BagTo.pop {b : Nat} {h h2 : AH} {ts : List T} (s : BagTo b h h2) (junk : AH) (c : T.clos h.length ts = true) : Pop h (h2 ++ junk) h2 ts := by
  refine ⟨s.len, ⟨junk, rfl⟩, fun n c' q => ?_, c⟩
  obtain ⟨x, y, z, rfl⟩ := s
  by_cases hn : b = n
  · subst hn
    have hb : b < h.length := by have := (List.getElem?_eq_some_iff.mp q).1; simpa using this
    rw [List.getElem?_set_self hb] at q
    cases q
    exact .inr (by simp [Cell.clo, T.clos, T.clo])
  · rw [List.getElem?_set_ne hn] at q
    exact .inl q
theorem eraseIdx_map {α β : Type} {f : α → β} : ∀ (xs : List α) (i : Nat), (xs.map f).eraseIdx i = (xs.eraseIdx i).map f
  | [], _ => rfl
  | _ :: _, 0 => rfl
  | x :: xs, i + 1 => by show f x :: (xs.map f).eraseIdx i = f x :: (xs.eraseIdx i).map f; rw [eraseIdx_map xs i]
theorem nats_turn {m : Nat} {acc : List T} (hl : acc.length = m) (hn : Nats m acc) : ∃ t, T.tup acc = tupN t ∧ IsTurn m t := by
  obtain ⟨t, e, l, a⟩ := hn.list
  exact ⟨t, by rw [e]; rfl, by rw [l, hl], a⟩
end TL

namespace TL
open PySem PySem.Spec PyProof.Rows L2
local macro_rules | `(tactic| walk_at "tl") => `(tactic| simp only [got_some, got_if, slot_0, slot_s, br_t, br_f, br_n, asB_b, asI_i, asI1_i, asI2_i, two_2, one_1, head_c, x_indexT, x_tupRgF, tupF_l, asT_f, asQ_f, isi_ftp, len_f, ix_f, walks_ftp, gtL_i, x_var, x_c, x_bin, x_nil, x_cons, x_tup, x_lstF, x_lstC, x_tru, x_tb, x_notT, x_andT, x_orT, x_not, x_and, x_or, x_if, x_chain, x_neg, x_callN, x_isi, x_po0, x_po, x_sl, x_rev, x_frz, x_listC, x_r1, x_tupRg, x_lstRgC, x_dict0, x_dictII, x_bm, x_app, x_popAt, eq_i, ne_i, eq_s, ne_s, len_tupN, walks_tupN, x_call, x_compF, x_compC, x_yes, x_rg1, x_rg2, x_itS, walks_tup, walks_lst, walks_scr, x_seq, x_skip, x_break, x_cont, x_expr, x_ret, x_retN, x_ifS, x_asg, x_nm, x_gnils, x_gcons, x_gtu, x_gsub, mulT_i, mulU_i, x_fld, x_fldPut, x_fldAug, x_meth, x_make, x_callD, x_callK, x_countD, x_indexD, x_lenSet, powB_i, min3_i, x_raise, x_rg3, asI3_i, x_sorted, x_sortedUp, x_enumZ, x_minD, x_minP, x_frzD, x_pre, x_dict3, x_dget2, eqNil_f, neNilL_f, eqNilL_f, x_setI, notInI_f, x_itemsT, isF_f, x_try, x_tryAs, x_isE, x_par3, three_3, mulL_l, x_mulC, asR_l, x_rg2B, isB_b, x_gtuL, x_gsta, sta_c, x_zip,  x_index,  x_enum, enums_tup, enums_lst, enums_scr, mulS_i,  x_com2F, x_gsubD, x_dict0T, x_dict0N, int_i, int_b, keysOf_tupN, x_par, x_aug, x_for, x_never, x_wipe0, x_wipe, add_i, add_t, add_l, add_scr, add_s, sub_i, mul_i, div_i, mod_i, pow_i, cmp_i, asQ_t, asQ_l, asQ_s, asL_l, asL_s, asL_t, asT_t, ix_t, ix_l, ix_s, len_t, len_l, len_s, tupleOf_l, tupleOf_t, listOf_t, listOf_l, max2_i, min2_i, sl_t, sl_l, sl_s, rev_t, rev_l, tru_b, tru_i, ty_non, ty_bl, ty_int, ty_str, ty_tup, ty_lst, List.map_cons, List.map_nil, List.cons_append, List.nil_append, List.append_nil, List.set_cons_zero, List.set_cons_succ, List.length_cons, List.length_nil, List.replicate_succ, List.replicate_zero, Nat.sub_self, Nat.zero_add, Nat.reduceAdd, Nat.reduceSub, Nat.reduceLeDiff, Bool.not_true, Bool.not_false, true_and, and_true, if_true, decide_true, decide_false, EndsT.xe, List.reduceReplicate, Nat.le_refl, Nat.zero_le])
theorem sub_len {l1 l2 : List Nat} (hn : l1.Nodup) (hs : ∀ x ∈ l1, x ∈ l2) : l1.length ≤ l2.length := by
  induction l1 generalizing l2 with
  | nil => simp
  | cons x l1 ih =>
    have hx := hs x List.mem_cons_self
    rw [List.nodup_cons] at hn
    have := ih hn.2 (l2 := l2.erase x) fun y hy => (List.mem_erase_of_ne (fun z => hn.1 (by rw [← z]; exact hy))).mpr (hs y (List.mem_cons_of_mem _ hy))
    rw [List.length_erase_of_mem hx] at this
    have : 0 < l2.length := List.length_pos_of_mem hx
    simp only [List.length_cons]; omega
theorem map_nodup {f : Nat → Nat} {n : Nat} (h : ∀ a b, a < b → b < n → f a ≠ f b) : ((List.range n).map f).Nodup := by
  rw [List.Nodup, List.pairwise_map]
  refine List.Pairwise.imp_of_mem (R := fun a b => a < b) ?_ List.pairwise_lt_range
  intro a b _ hb hab
  exact h a b hab (List.mem_range.mp hb)
theorem pigeon {f : Nat → Nat} {m : Nat} (h : ∀ i, i ≤ m → f i < m) : ∃ a b, a < b ∧ b ≤ m ∧ f a = f b := by
  by_cases hx : ∃ a b, a < b ∧ b ≤ m ∧ f a = f b
  · exact hx
  · exfalso
    have hd : ((List.range (m + 1)).map f).Nodup := map_nodup fun a b hab hb e => hx ⟨a, b, hab, by omega, e⟩
    have := sub_len hd (l2 := List.range m) fun x hx => by
      obtain ⟨i, hi, rfl⟩ := List.mem_map.mp hx
      exact List.mem_range.mpr (h i (by have := List.mem_range.mp hi; omega))
    simp at this
    omega
theorem oft_add {t : List Nat} {i : Nat} (a : Nat) : ∀ b, oftN t (oftN t i a) b = oftN t i (a + b)
  | 0 => rfl
  | b + 1 => by show t.getD (oftN t (oftN t i a) b) 0 = t.getD (oftN t i (a + b)) 0; rw [oft_add a b]
/-- i comes again after d, and not ahead of it -/
def Per (t : List Nat) (i d : Nat) : Prop := 1 ≤ d ∧ oftN t i d = i ∧ ∀ e, 1 ≤ e → e < d → oftN t i e ≠ i
theorem per_of {t : List Nat} {i : Nat} : ∀ d, 1 ≤ d → oftN t i d = i → ∃ e, e ≤ d ∧ Per t i e := by
  intro d
  induction d using Nat.strongRecOn with
  | _ d ih =>
    intro h1 h2
    by_cases h : ∃ e, 1 ≤ e ∧ e < d ∧ oftN t i e = i
    · obtain ⟨e, h3, h4, h5⟩ := h
      obtain ⟨e', h6, h7⟩ := ih e h4 h3 h5
      exact ⟨e', by omega, h7⟩
    · exact ⟨d, Nat.le_refl _, h1, h2, fun e h3 h4 h5 => h ⟨e, h3, h4, h5⟩⟩
theorem per_mul {t : List Nat} {i d : Nat} (h : oftN t i d = i) : ∀ q, oftN t i (d * q) = i
  | 0 => rfl
  | q + 1 => by rw [Nat.mul_succ, ← oft_add, per_mul h q, h]
theorem per_uniq {t : List Nat} {i d e : Nat} (h : Per t i d) (g : Per t i e) : d = e := by
  rcases Nat.lt_trichotomy d e with q | q | q
  · exact absurd h.2.1 (g.2.2 d h.1 q)
  · exact q
  · exact absurd g.2.1 (h.2.2 e g.1 q)
theorem per_step {t : List Nat} {i d : Nat} (h : Per t i d) (a : Nat) (ha : a < d) : Per t (oftN t i a) d := by
  refine ⟨h.1, by rw [oft_add, Nat.add_comm, ← oft_add, h.2.1], fun e h1 h2 h3 => h.2.2 e h1 h2 ?_⟩
  have e1 : oftN t (oftN t (oftN t i a) e) (d - a) = oftN t (oftN t i a) (d - a) := by rw [h3]
  rw [oft_add, oft_add, oft_add, show a + (e + (d - a)) = d + e by omega, show a + (d - a) = d by omega, ← oft_add, h.2.1] at e1
  exact e1
theorem per_apart {t : List Nat} {i d : Nat} (h : Per t i d) (a b : Nat) (hab : a < b) (hb : b < d) : oftN t i a ≠ oftN t i b := fun e => by
  have e1 : oftN t (oftN t i a) (d - b) = oftN t (oftN t i b) (d - b) := by rw [e]
  rw [oft_add, oft_add, show b + (d - b) = d by omega, h.2.1] at e1
  exact h.2.2 (a + (d - b)) (by omega) (by omega) e1
open Classical in
/-- how long its round is, 0 where it does not come again -/
noncomputable def perN (t : List Nat) (i : Nat) : Nat := if h : ∃ d, Per t i d then Classical.choose h else 0
theorem perN_eq {t : List Nat} {i d : Nat} (h : Per t i d) : perN t i = d := by
  have hx : ∃ d, Per t i d := ⟨d, h⟩
  unfold perN
  rw [dif_pos hx]
  exact per_uniq (Classical.choose_spec hx) h
theorem perN_pos {t : List Nat} {i : Nat} (h : perN t i ≠ 0) : Per t i (perN t i) := by
  unfold perN at h ⊢
  split at h
  · rename_i hx
    rw [dif_pos hx]; exact Classical.choose_spec hx
  · exact absurd rfl h
noncomputable def cntP (t : List Nat) (l : List Nat) (d : Nat) : Nat := l.countP fun i => perN t i == d
theorem cnt_sum (t : List Nat) : ∀ l : List Nat, cntP t l 1 + cntP t l 2 + cntP t l 3 + cntP t l 4 + cntP t l 5 + cntP t l 6 + cntP t l 7 + cntP t l 8 + cntP t l 9 ≤ l.length
  | [] => by simp [cntP]
  | x :: l => by
    have ih := cnt_sum t l
    have key : ∀ y : Nat, (if (y == 1) = true then 1 else 0) + (if (y == 2) = true then 1 else 0) + (if (y == 3) = true then 1 else 0) + (if (y == 4) = true then 1 else 0) + (if (y == 5) = true then 1 else 0) + (if (y == 6) = true then 1 else 0) + (if (y == 7) = true then 1 else 0) + (if (y == 8) = true then 1 else 0) + (if (y == 9) = true then 1 else 0) ≤ 1 := fun y =>
      match y with
      | 0 | 1 | 2 | 3 | 4 | 5 | 6 | 7 | 8 | 9 => by decide
      | n + 10 => by simp
    have := key (perN t x)
    unfold cntP at ih ⊢
    simp only [List.countP_cons, List.length_cons]
    omega
theorem cnt_le {m : Nat} {t : List Nat} (ht : IsTurn m t) {i d : Nat} (hi : i < m) (h : Per t i d) : d ≤ cntP t (List.range m) d := by
  unfold cntP
  rw [List.countP_eq_length_filter]
  have := sub_len (map_nodup (f := oftN t i) (n := d) fun a b hab hb => per_apart h a b hab hb) (l2 := (List.range m).filter fun i => perN t i == d) fun x hx => by
    obtain ⟨a, ha, rfl⟩ := List.mem_map.mp hx
    rw [List.mem_filter]
    exact ⟨List.mem_range.mpr (oft_lt ht hi a), by rw [perN_eq (per_step h a (List.mem_range.mp ha))]; simp⟩
  simpa using this
theorem landau : ∀ b1 b2 b3 b4 b5 b6 b7 b8 b9 : Bool, b1.toNat + 2 * b2.toNat + 3 * b3.toNat + 4 * b4.toNat + 5 * b5.toNat + 6 * b6.toNat + 7 * b7.toNat + 8 * b8.toNat + 9 * b9.toNat ≤ 9 →
    ((List.range 21).any fun L => (decide (1 ≤ L)) && ((!b1 || L % 1 == 0) && (!b2 || L % 2 == 0) && (!b3 || L % 3 == 0) && (!b4 || L % 4 == 0) && (!b5 || L % 5 == 0) && (!b6 || L % 6 == 0) && (!b7 || L % 7 == 0) && (!b8 || L % 8 == 0) && (!b9 || L % 9 == 0))) = true := by
  decide +kernel
theorem landauN (c1 c2 c3 c4 c5 c6 c7 c8 c9 : Nat) (h : c1 + c2 + c3 + c4 + c5 + c6 + c7 + c8 + c9 ≤ 9) : ∃ L, 1 ≤ L ∧ L ≤ 20 ∧ (1 ≤ c1 → L % 1 = 0) ∧ (2 ≤ c2 → L % 2 = 0) ∧ (3 ≤ c3 → L % 3 = 0) ∧ (4 ≤ c4 → L % 4 = 0) ∧ (5 ≤ c5 → L % 5 = 0) ∧ (6 ≤ c6 → L % 6 = 0) ∧ (7 ≤ c7 → L % 7 = 0) ∧ (8 ≤ c8 → L % 8 = 0) ∧ (9 ≤ c9 → L % 9 = 0) := by
  have cc : ∀ d c : Nat, d * (decide (d ≤ c)).toNat ≤ c := fun d c => by
    by_cases q : d ≤ c
    · simp [q]
    · simp [q]
  have h1 := cc 1 c1; have h2 := cc 2 c2; have h3 := cc 3 c3; have h4 := cc 4 c4; have h5 := cc 5 c5; have h6 := cc 6 c6; have h7 := cc 7 c7; have h8 := cc 8 c8; have h9 := cc 9 c9
  have key := landau (decide (1 ≤ c1)) (decide (2 ≤ c2)) (decide (3 ≤ c3)) (decide (4 ≤ c4)) (decide (5 ≤ c5)) (decide (6 ≤ c6)) (decide (7 ≤ c7)) (decide (8 ≤ c8)) (decide (9 ≤ c9)) (by omega)
  obtain ⟨L, hL, q⟩ := List.any_eq_true.mp key
  have hL := List.mem_range.mp hL
  simp only [Bool.and_eq_true, Bool.or_eq_true, decide_eq_true_eq, Bool.not_eq_true', decide_eq_false_iff_not, beq_iff_eq] at q
  obtain ⟨g0, ⟨⟨⟨⟨⟨⟨⟨⟨g1, g2⟩, g3⟩, g4⟩, g5⟩, g6⟩, g7⟩, g8⟩, g9⟩⟩ := q
  refine ⟨L, g0, by omega, ?_, ?_, ?_, ?_, ?_, ?_, ?_, ?_, ?_⟩ <;> intro z
  · exact g1.resolve_left fun n => n z
  · exact g2.resolve_left fun n => n z
  · exact g3.resolve_left fun n => n z
  · exact g4.resolve_left fun n => n z
  · exact g5.resolve_left fun n => n z
  · exact g6.resolve_left fun n => n z
  · exact g7.resolve_left fun n => n z
  · exact g8.resolve_left fun n => n z
  · exact g9.resolve_left fun n => n z
theorem turn_ext {m : Nat} {a b : List Nat} (ha : IsTurn m a) (hb : IsTurn m b) (h : ∀ i, i < m → a.getD i 0 = b.getD i 0) : a = b := by
  apply List.ext_getElem (by rw [ha.1, hb.1])
  intro i h1 h2
  have := h i (by rw [← ha.1]; exact h1)
  rw [List.getD_eq_getElem?_getD, List.getD_eq_getElem?_getD, List.getElem?_eq_getElem h1, List.getElem?_eq_getElem h2] at this
  exact this
/-- by nine doings powers come again by the 28th -/
theorem again {m : Nat} {t : List Nat} (ht : IsTurn m t) (hm : m ≤ 9) : ∃ L, 1 ≤ L ∧ L ≤ 20 ∧ powN t 8 = powN t (8 + L) := by
  obtain ⟨L, l1, l2, g1, g2, g3, g4, g5, g6, g7, g8, g9⟩ := landauN _ _ _ _ _ _ _ _ _ (Nat.le_trans (cnt_sum t (List.range m)) (by simpa using hm))
  refine ⟨L, l1, l2, turn_ext (pow_turn ht 8) (pow_turn ht _) fun i hi => ?_⟩
  rw [pow_getD ht hi, pow_getD ht hi]
  obtain ⟨a, b, hab, hb, e⟩ := pigeon (f := oftN t i) (m := m) fun k _ => oft_lt ht hi k
  have hy := oft_lt ht hi 8
  have e2 : oftN t (oftN t i 8) (b - a) = oftN t i 8 := by
    rw [oft_add, show 8 + (b - a) = b + (8 - a) by omega, ← oft_add, ← e, oft_add, show a + (8 - a) = 8 by omega]
  obtain ⟨d, hd, hp⟩ := per_of (b - a) (by omega) e2
  have hc := cnt_le ht hy hp
  have hd9 : d ≤ 9 := by omega
  have h1 := hp.1
  have hL : L % d = 0 := by
    obtain rfl | rfl | rfl | rfl | rfl | rfl | rfl | rfl | rfl : d = 1 ∨ d = 2 ∨ d = 3 ∨ d = 4 ∨ d = 5 ∨ d = 6 ∨ d = 7 ∨ d = 8 ∨ d = 9 := by omega
    · exact g1 hc
    · exact g2 hc
    · exact g3 hc
    · exact g4 hc
    · exact g5 hc
    · exact g6 hc
    · exact g7 hc
    · exact g8 hc
    · exact g9 hc
  obtain ⟨q, rfl⟩ := Nat.dvd_of_mod_eq_zero hL
  rw [← oft_add, per_mul hp.2.1]
/-- from mu on the powers come again behind lam, and not ahead -/
structure Settle (t : List Nat) (mu lam : Nat) : Prop where
  pos : 1 ≤ lam
  eq : powN t mu = powN t (mu + lam)
  ne : ∀ a b, a < b → b < mu + lam → powN t a ≠ powN t b
  le : mu + lam ≤ 28
theorem pow_shift {m : Nat} {t : List Nat} (ht : IsTurn m t) {a b : Nat} (e : powN t a = powN t b) (k : Nat) : powN t (a + k) = powN t (b + k) := by rw [pow_add ht, pow_add ht, e]
theorem settle_mod {m : Nat} {t : List Nat} (ht : IsTurn m t) {mu lam : Nat} (s : Settle t mu lam) : ∀ j, powN t (mu + j) = powN t (mu + j % lam) := by
  intro j
  induction j using Nat.strongRecOn with
  | _ j ih =>
    by_cases h : j < lam
    · rw [Nat.mod_eq_of_lt h]
    · have h1 := s.pos
      have e1 : powN t (mu + j) = powN t (mu + (j - lam)) := by
        have := pow_shift ht s.eq (j - lam)
        rw [this, show mu + lam + (j - lam) = mu + j by omega]
      rw [e1, ih (j - lam) (by omega), Nat.mod_eq_sub_mod (Nat.le_of_not_lt h)]
theorem settle_least {m : Nat} {t : List Nat} (ht : IsTurn m t) {mu lam : Nat} (s : Settle t mu lam) {a r : Nat} (hr : 1 ≤ r) (e : powN t a = powN t (a + r)) : lam ≤ r ∧ mu ≤ a := by
  have h1 := s.pos
  by_cases ha : mu ≤ a
  · refine ⟨?_, ha⟩
    obtain ⟨x, rfl⟩ : ∃ x, a = mu + x := ⟨a - mu, by omega⟩
    rw [Nat.add_assoc, settle_mod ht s x, settle_mod ht s (x + r)] at e
    have m1 := Nat.mod_lt x (show lam > 0 from h1)
    have m2 := Nat.mod_lt (x + r) (show lam > 0 from h1)
    have em : x % lam = (x + r) % lam := by
      rcases Nat.lt_trichotomy (x % lam) ((x + r) % lam) with q | q | q
      · exact absurd e (s.ne _ _ (by omega) (by omega))
      · exact q
      · exact absurd e.symm (s.ne _ _ (by omega) (by omega))
    have := Nat.sub_mod_eq_zero_of_mod_eq em.symm
    rw [Nat.add_sub_cancel_left] at this
    exact Nat.le_of_dvd hr (Nat.dvd_of_mod_eq_zero this)
  · exfalso
    by_cases hb : a + r < mu + lam
    · exact s.ne a (a + r) (by omega) hb e
    · have e2 := settle_mod ht s (a + r - mu)
      rw [show mu + (a + r - mu) = a + r by omega, ← e] at e2
      exact s.ne a _ (by omega) (by have := Nat.mod_lt (a + r - mu) (show lam > 0 from h1); omega) e2
theorem settle_uniq {m : Nat} {t : List Nat} (ht : IsTurn m t) {mu lam mu' lam' : Nat} (s : Settle t mu lam) (s' : Settle t mu' lam') : mu = mu' ∧ lam = lam' := by
  have h1 := settle_least ht s s'.pos s'.eq
  have h2 := settle_least ht s' s.pos s.eq
  omega
theorem bound28 {m : Nat} {t : List Nat} (ht : IsTurn m t) (hm : m ≤ 9) {n : Nat} (h : ∀ a b, a < b → b < n → powN t a ≠ powN t b) : n ≤ 28 := by
  obtain ⟨L, l1, l2, e⟩ := again ht hm
  by_cases q : n ≤ 28
  · exact q
  · exact absurd e (h 8 (8 + L) (by omega) (by omega))
theorem atI_last {xs : List T} {x : T} : atI (xs ++ [x]) (-1) = some x := by
  unfold atI
  have e : ixN (xs ++ [x]).length (-1) = some xs.length := by
    unfold ixN
    rw [if_neg (by decide), if_pos (by simp; omega)]
    congr 1
    simp only [List.length_append, List.length_cons, List.length_nil]; omega
  rw [e]
  simp
/-- the places while settles walks -/
def placesN (t : List Nat) (n : Nat) : List (List L2.Key × T) := (List.range n).map fun i => (keyN (powN t i), T.int (i : Int))
theorem places_ne {t : List Nat} {n : Nat} (h : ∀ a, a < n → powN t a ≠ powN t n) : ∀ p ∈ placesN t n, p.1 ≠ keyN (powN t n) := fun p hp => by
  obtain ⟨i, hi, rfl⟩ := List.mem_map.mp hp
  exact fun e => h i (List.mem_range.mp hi) (keyN_inj e)
theorem places_at {t : List Nat} {n i : Nat} (hi : i < n) (hn : ∀ a b, a < b → b < n → powN t a ≠ powN t b) : aget (placesN t n) (keyN (powN t i)) = some (.int (i : Int)) := by
  refine aget_at i (by unfold placesN; rw [List.getElem?_map, List.getElem?_range hi]; rfl) fun k p hk hp => ?_
  unfold placesN at hp
  rw [List.getElem?_map, List.getElem?_range (by omega)] at hp
  cases hp
  exact fun e => hn k i hk hi (keyN_inj e)
end TL

namespace TL
open PySem PySem.Spec PyProof.Rows L2
local macro_rules | `(tactic| walk_at "tl") => `(tactic| simp only [got_some, got_if, slot_0, slot_s, br_t, br_f, br_n, asB_b, asI_i, asI1_i, asI2_i, two_2, one_1, head_c, x_indexT, x_tupRgF, tupF_l, asT_f, asQ_f, isi_ftp, len_f, ix_f, walks_ftp, gtL_i, x_var, x_c, x_bin, x_nil, x_cons, x_tup, x_lstF, x_lstC, x_tru, x_tb, x_notT, x_andT, x_orT, x_not, x_and, x_or, x_if, x_chain, x_neg, x_callN, x_isi, x_po0, x_po, x_sl, x_rev, x_frz, x_listC, x_r1, x_tupRg, x_lstRgC, x_dict0, x_dictII, x_bm, x_app, x_popAt, eq_i, ne_i, eq_s, ne_s, len_tupN, walks_tupN, x_call, x_compF, x_compC, x_yes, x_rg1, x_rg2, x_itS, walks_tup, walks_lst, walks_scr, x_seq, x_skip, x_break, x_cont, x_expr, x_ret, x_retN, x_ifS, x_asg, x_nm, x_gnils, x_gcons, x_gtu, x_gsub, mulT_i, mulU_i, x_fld, x_fldPut, x_fldAug, x_meth, x_make, x_callD, x_callK, x_countD, x_indexD, x_lenSet, powB_i, min3_i, x_raise, x_rg3, asI3_i, x_sorted, x_sortedUp, x_enumZ, x_minD, x_minP, x_frzD, x_pre, x_dict3, x_dget2, eqNil_f, neNilL_f, eqNilL_f, x_setI, notInI_f, x_itemsT, isF_f, x_try, x_tryAs, x_isE, x_par3, three_3, mulL_l, x_mulC, asR_l, x_rg2B, isB_b, x_gtuL, x_gsta, sta_c, x_zip,  x_index,  x_enum, enums_tup, enums_lst, enums_scr, mulS_i,  x_com2F, x_gsubD, x_dict0T, x_dict0N, int_i, int_b, keysOf_tupN, x_par, x_aug, x_for, x_never, x_wipe0, x_wipe, add_i, add_t, add_l, add_scr, add_s, sub_i, mul_i, div_i, mod_i, pow_i, cmp_i, asQ_t, asQ_l, asQ_s, asL_l, asL_s, asL_t, asT_t, ix_t, ix_l, ix_s, len_t, len_l, len_s, tupleOf_l, tupleOf_t, listOf_t, listOf_l, max2_i, min2_i, sl_t, sl_l, sl_s, rev_t, rev_l, tru_b, tru_i, ty_non, ty_bl, ty_int, ty_str, ty_tup, ty_lst, List.map_cons, List.map_nil, List.cons_append, List.nil_append, List.append_nil, List.set_cons_zero, List.set_cons_succ, List.length_cons, List.length_nil, List.replicate_succ, List.replicate_zero, Nat.sub_self, Nat.zero_add, Nat.reduceAdd, Nat.reduceSub, Nat.reduceLeDiff, Bool.not_true, Bool.not_false, true_and, and_true, if_true, decide_true, decide_false, EndsT.xe, List.reduceReplicate, Nat.le_refl, Nat.zero_le])
inductive What where
  | own (row : List Nat)
  | copy (hand ago : Nat) (turn : List Nat)
structure Rule where
  every : Nat
  at_ : Nat
  what : What
structure Web where
  many : Nat
  before : List Nat
  hands : List (List Rule)
def whatT : What → T
  | .own row => .tup [.str "own", tupN row]
  | .copy hand ago turn => .tup [.str "copy", .int (hand : Int), .int (ago : Int), tupN turn]
def ruleT (r : Rule) : T := .tup [.int (r.every : Int), .int (r.at_ : Int), whatT r.what]
def handT (rs : List Rule) : T := .tup (rs.map ruleT)
def webT (w : Web) : T := .tup [.int (w.many : Int), tupN w.before, .tup (w.hands.map handT)]
def Doings (many : Nat) (xs : List Nat) : Prop := ∀ x ∈ xs, x < many
def WhatOk (many hands : Nat) : What → Prop
  | .own row => 1 ≤ row.length ∧ row.length ≤ 6 ∧ Doings many row
  | .copy hand ago turn => hand < hands ∧ 1 ≤ ago ∧ ago ≤ 12 ∧ IsTurn many turn
def RuleOk (many hands : Nat) (r : Rule) : Prop := 1 ≤ r.every ∧ r.every ≤ 12 ∧ r.at_ < r.every ∧ WhatOk many hands r.what
def HandOk (many hands : Nat) (rs : List Rule) : Prop := rs.length ≤ 6 ∧ (∀ r ∈ rs, RuleOk many hands r) ∧ ∃ r, rs.getLast? = some r ∧ r.every = 1
def Rule.part (r : Rule) : Nat := match r.what with
  | .own row => r.every * row.length
  | .copy _ _ _ => r.every
def clockN (hands : List (List Rule)) : Nat := hands.flatten.foldl (fun f r => Nat.lcm f r.part) 1
structure WebOk (w : Web) : Prop where
  m1 : 1 ≤ w.many
  m9 : w.many ≤ 9
  h1 : 1 ≤ w.hands.length
  h6 : w.hands.length ≤ 6
  bl : w.before.length = w.hands.length
  bd : Doings w.many w.before
  hs : ∀ rs ∈ w.hands, HandOk w.many w.hands.length rs
  ck : clockN w.hands ≤ 240
theorem dvd_mul_of {a b c d : Nat} (h1 : a ∣ c) (h2 : b ∣ d) : a * b ∣ c * d := Nat.mul_dvd_mul h1 h2
theorem dvd12 : ∀ n : Nat, 1 ≤ n → n ≤ 12 → n ∣ 27720 := by
  intro n h1 h2
  obtain rfl | rfl | rfl | rfl | rfl | rfl | rfl | rfl | rfl | rfl | rfl | rfl : n = 1 ∨ n = 2 ∨ n = 3 ∨ n = 4 ∨ n = 5 ∨ n = 6 ∨ n = 7 ∨ n = 8 ∨ n = 9 ∨ n = 10 ∨ n = 11 ∨ n = 12 := by omega
  all_goals decide
theorem dvd6 : ∀ n : Nat, 1 ≤ n → n ≤ 6 → n ∣ 60 := by
  intro n h1 h2
  obtain rfl | rfl | rfl | rfl | rfl | rfl : n = 1 ∨ n = 2 ∨ n = 3 ∨ n = 4 ∨ n = 5 ∨ n = 6 := by omega
  all_goals decide
def BIG : Nat := 1663200
theorem part_dvd {many hands : Nat} {r : Rule} (h : RuleOk many hands r) : 1 ≤ r.part ∧ r.part ∣ BIG := by
  obtain ⟨e1, e2, _, w⟩ := h
  unfold Rule.part
  cases q : r.what with
  | own row =>
    rw [q] at w
    refine ⟨Nat.mul_pos e1 w.1, ?_⟩
    exact Nat.mul_dvd_mul (dvd12 _ e1 e2) (dvd6 _ w.1 w.2.1)
  | copy a b c => exact ⟨e1, Nat.dvd_trans (dvd12 _ e1 e2) (by decide)⟩
theorem fold_clock {P : Nat → Prop} (f : Nat → Rule → Nat) : ∀ (rs : List Rule) (a : Nat), P a → (∀ a r, r ∈ rs → P a → P (f a r)) → P (rs.foldl f a)
  | [], a, h, _ => h
  | r :: rs, a, h, hs => fold_clock f rs (f a r) (hs a r List.mem_cons_self h) fun a r' hr => hs a r' (List.mem_cons_of_mem _ hr)
theorem lcm_big {a b : Nat} (ha : 1 ≤ a ∧ a ∣ BIG) (hb : 1 ≤ b ∧ b ∣ BIG) : 1 ≤ Nat.lcm a b ∧ Nat.lcm a b ∣ BIG := ⟨Nat.lcm_pos ha.1 hb.1, Nat.lcm_dvd ha.2 hb.2⟩
theorem big_le {a : Nat} (h : a ∣ BIG) : a ≤ 1663200 := Nat.le_of_dvd (by decide) h
def lclockN (hands : List (List Rule)) : Nat := hands.flatten.foldl (fun f r => if f ≤ 240 then Nat.lcm f r.part else f) 1
theorem lclock_fold : ∀ (rs : List Rule) (a : Nat), rs.foldl (fun f r => if f ≤ 240 then Nat.lcm f r.part else f) a ≤ 240 → rs.foldl (fun f r => if f ≤ 240 then Nat.lcm f r.part else f) a = rs.foldl (fun f r => Nat.lcm f r.part) a
  | [], a, _ => rfl
  | r :: rs, a, h => by
    simp only [List.foldl_cons] at h ⊢
    by_cases q : a ≤ 240
    · rw [if_pos q] at h ⊢
      exact lclock_fold rs _ h
    · exfalso
      rw [if_neg q] at h
      have : ∀ rs : List Rule, rs.foldl (fun f r => if f ≤ 240 then Nat.lcm f r.part else f) a = a := by
        intro rs
        induction rs with
        | nil => rfl
        | cons r rs ih => rw [List.foldl_cons, if_neg q, ih]
      rw [this] at h; exact q h
theorem lclock_eq {hands : List (List Rule)} (h : lclockN hands ≤ 240) : clockN hands = lclockN hands := (lclock_fold _ _ h).symm
def fewN : List Nat := [1, 1, 2, 3, 4, 4, 6, 6, 4, 3, 2, 6, 12]
def tamedW : What → What
  | .own row => .own (row.take 3)
  | w => w
def tamedR (r : Rule) : Rule := ⟨fewN.getD r.every 1, r.at_ % fewN.getD r.every 1, tamedW r.what⟩
theorem few_ok : ∀ n : Nat, 1 ≤ n → n ≤ 12 → 1 ≤ fewN.getD n 1 ∧ fewN.getD n 1 ≤ 12 ∧ fewN.getD n 1 ∣ 12 := by
  intro n h1 h2
  obtain rfl | rfl | rfl | rfl | rfl | rfl | rfl | rfl | rfl | rfl | rfl | rfl : n = 1 ∨ n = 2 ∨ n = 3 ∨ n = 4 ∨ n = 5 ∨ n = 6 ∨ n = 7 ∨ n = 8 ∨ n = 9 ∨ n = 10 ∨ n = 11 ∨ n = 12 := by omega
  all_goals decide
theorem tamed_ok {many hands : Nat} {r : Rule} (h : RuleOk many hands r) : RuleOk many hands (tamedR r) ∧ (tamedR r).part ∣ 72 := by
  obtain ⟨e1, e2, ea, w⟩ := h
  obtain ⟨f1, f2, f3⟩ := few_ok r.every e1 e2
  refine ⟨⟨f1, f2, Nat.mod_lt _ f1, ?_⟩, ?_⟩
  · show WhatOk many hands (tamedW r.what)
    cases q : r.what with
    | own row =>
      rw [q] at w
      refine ⟨by simp [List.length_take]; have := w.1; omega, by simp [List.length_take]; have := w.2.1; omega, fun x hx => w.2.2 x (List.mem_of_mem_take hx)⟩
    | copy a b c => rw [q] at w; exact w
  · unfold Rule.part tamedR
    cases q : r.what with
    | own row =>
      rw [q] at w
      have l : (row.take 3).length ∣ 6 := by
        have : (row.take 3).length = 1 ∨ (row.take 3).length = 2 ∨ (row.take 3).length = 3 := by rw [List.length_take]; have := w.1; omega
        rcases this with e | e | e <;> rw [e] <;> decide
      exact Nat.mul_dvd_mul f3 l
    | copy a b c => exact Nat.dvd_trans f3 (by decide)
theorem tamed_hand {many hands : Nat} {rs : List Rule} (h : HandOk many hands rs) : HandOk many hands (rs.map tamedR) := by
  obtain ⟨h1, h2, r, h3, h4⟩ := h
  refine ⟨by simpa using h1, fun r hr => ?_, tamedR r, by rw [List.getLast?_map, h3]; rfl, by show fewN.getD r.every 1 = 1; rw [h4]; rfl⟩
  obtain ⟨r', hr', rfl⟩ := List.mem_map.mp hr
  exact (tamed_ok (h2 r' hr')).1
theorem tamed_clock {many n : Nat} {hands : List (List Rule)} (h : ∀ rs ∈ hands, HandOk many n rs) : clockN (hands.map fun rs => rs.map tamedR) ≤ 240 := by
  have : clockN (hands.map fun rs => rs.map tamedR) ∣ 72 := by
    refine fold_clock (P := fun a => a ∣ 72) _ _ _ (by decide) fun a r hr ha => Nat.lcm_dvd ha ?_
    obtain ⟨rs, hrs, hr⟩ := List.mem_flatten.mp hr
    obtain ⟨rs', hrs', rfl⟩ := List.mem_map.mp hrs
    obtain ⟨r', hr', rfl⟩ := List.mem_map.mp hr
    exact (tamed_ok ((h rs' hrs').2.1 r' hr')).2
  exact Nat.le_trans (Nat.le_of_dvd (by decide) this) (by decide)
theorem clos_of {k : Nat} : ∀ {ts : List T}, (∀ t ∈ ts, T.clo k t = true) → T.clos k ts = true
  | [], _ => by simp [T.clos]
  | t :: ts, h => by simp only [T.clos, h t List.mem_cons_self, clos_of fun x hx => h x (List.mem_cons_of_mem _ hx), Bool.and_true]
theorem clo_what {k : Nat} (w : What) : T.clo k (whatT w) = true := by
  cases w <;> simp only [whatT, T.clo, T.clos, clo_tupN, Bool.and_true]
theorem clo_rule {k : Nat} (r : Rule) : T.clo k (ruleT r) = true := by simp only [ruleT, T.clo, T.clos, clo_what, Bool.and_true]
theorem clo_hand {k : Nat} (rs : List Rule) : T.clo k (handT rs) = true := by
  unfold handT
  simp only [T.clo]
  exact clos_of fun t ht => by obtain ⟨r, _, rfl⟩ := List.mem_map.mp ht; exact clo_rule r
theorem clo_web {k : Nat} (w : Web) : T.clo k (webT w) = true := by
  have : T.clos k (w.hands.map handT) = true := clos_of fun t ht => by obtain ⟨r, _, rfl⟩ := List.mem_map.mp ht; exact clo_hand r
  simp only [webT, T.clo, T.clos, clo_tupN, this, Bool.and_true]
theorem dt_what {many hands : Nat} {w : What} (hm : many ≤ 9) (hh : hands ≤ 6) (h : WhatOk many hands w) : Dt 3 2000 (whatT w) := by
  cases w with
  | own row =>
    have d := dt_tupN (L := 9) (xs := row) (by have := h.2.1; omega) fun x hx => Nat.lt_of_lt_of_le (h.2.2 x hx) (Nat.le_trans hm (by decide))
    exact (dt_tup (k := 2) (c := 399) (L := 2) (by
      rintro t (_ | ⟨_, _ | ⟨_, ⟨⟩⟩⟩)
      · exact (dt_str (c := 50) (by decide +kernel) (by decide +kernel)).mono (by omega) (by omega)
      · exact d.mono (by omega) (by omega)) (Nat.le_refl _)).mono (by omega) (by omega)
  | copy hand ago turn =>
    have d := dt_tupN (L := 9) (xs := turn) (by rw [h.2.2.2.1]; exact hm) fun x hx => Nat.lt_of_lt_of_le (h.2.2.2.2 x hx) (Nat.le_trans hm (by decide))
    have h1 := h.1
    have h3 := h.2.2.1
    exact (dt_tup (k := 2) (c := 399) (L := 4) (by
      rintro t (_ | ⟨_, _ | ⟨_, _ | ⟨_, _ | ⟨_, ⟨⟩⟩⟩⟩⟩)
      · exact (dt_str (c := 50) (by decide +kernel) (by decide +kernel)).mono (by omega) (by omega)
      · exact (dt_int (by omega)).mono (by omega) (by omega)
      · exact (dt_int (by omega)).mono (by omega) (by omega)
      · exact d.mono (by omega) (by omega)) (Nat.le_refl _)).mono (by omega) (by omega)
theorem dt_rule {many hands : Nat} {r : Rule} (hm : many ≤ 9) (hh : hands ≤ 6) (h : RuleOk many hands r) : Dt 4 6010 (ruleT r) := by
  obtain ⟨e1, e2, ea, w⟩ := h
  exact (dt_tup (k := 3) (c := 2000) (L := 3) (by
      rintro t (_ | ⟨_, _ | ⟨_, _ | ⟨_, ⟨⟩⟩⟩⟩)
      · exact (dt_int (by omega)).mono (by omega) (by omega)
      · exact (dt_int (by omega)).mono (by omega) (by omega)
      · exact dt_what hm hh w) (Nat.le_refl _)).mono (by omega) (by omega)
theorem dt_hand {many hands : Nat} {rs : List Rule} (hm : many ≤ 9) (hh : hands ≤ 6) (h : HandOk many hands rs) : Dt 5 36100 (handT rs) :=
  (dt_tup (k := 4) (c := 6010) (L := 6) (fun t ht => by obtain ⟨r, hr, rfl⟩ := List.mem_map.mp ht; exact dt_rule hm hh (h.2.1 r hr)) (by simpa using h.1)).mono (by omega) (by omega)
theorem dt_web {w : Web} (ok : WebOk w) : Dt 7 700000 (webT w) := by
  have d1 := dt_tupN (L := 6) (xs := w.before) (by rw [ok.bl]; exact ok.h6) fun x hx => Nat.lt_of_lt_of_le (ok.bd x hx) (Nat.le_trans ok.m9 (by decide))
  have d2 : Dt 6 216700 (.tup (w.hands.map handT)) := (dt_tup (k := 5) (c := 36100) (L := 6) (fun t ht => by obtain ⟨rs, hr, rfl⟩ := List.mem_map.mp ht; exact dt_hand ok.m9 ok.h6 (ok.hs rs hr)) (by simpa using ok.h6)).mono (by omega) (by omega)
  exact (dt_tup (k := 6) (c := 216700) (L := 3) (by
      rintro t (_ | ⟨_, _ | ⟨_, _ | ⟨_, ⟨⟩⟩⟩⟩)
      · exact (dt_int (by have := ok.m9; omega)).mono (by omega) (by omega)
      · exact d1.mono (by omega) (by omega)
      · exact d2) (Nat.le_refl _)).mono (by omega) (by omega)
/-- xs stands there: a tuple, a list that stays, a cell -/
def SeqOf (h : AH) (t : T) (xs : List T) : Prop := t = .tup xs ∨ t = .lst xs ∨ ∃ n, t = .ref n ∧ h[n]? = some (.lst xs)
theorem walks_of {h : AH} {t : T} {xs : List T} {Ri : List T → (AH → Prop) → AH → Prop} (s : SeqOf h t xs) (r : ∀ P : AH → Prop, P h → Ri xs P h) : Walks h t Ri := by
  rcases s with rfl | rfl | ⟨n, rfl, e⟩
  · rw [walks_tup]; exact r _ trivial
  · rw [walks_lst]; exact r _ trivial
  · rw [walks_ref e]; exact r _ e
theorem is_own {h : AH} (w : What) : Got (opIx h (whatT w) (.int 0)) (fun z => Got (opEq false h z (.str "own")) fun z => z = .bl (match w with | .own _ => true | _ => false)) := by
  cases w with
  | own row => exact ⟨.str "own", rfl, _, eq_same, rfl⟩
  | copy a b c => exact ⟨.str "copy", rfl, _, eq_s, by rw [decide_eq_false (by decide)]⟩
theorem what_0 {h : AH} (w : What) : opIx h (whatT w) (.int 0) = some (.str (match w with | .own _ => "own" | _ => "copy")) := by cases w <;> rfl
theorem own_eq {h : AH} (w : What) : opEq false h (.str (match w with | .own _ => "own" | _ => "copy")) (.str "own") = some (.bl (match w with | .own _ => true | _ => false)) := by
  cases w with
  | own row => exact eq_same
  | copy a b c =>
    show opEq false h (.str "copy") (.str "own") = some (.bl false)
    rw [eq_s, decide_eq_false (by decide)]
theorem cow : decide (Str.ofString "copy" = Str.ofString "own") = false := by decide
theorem owo : decide (Str.ofString "own" = Str.ofString "own") = true := by decide
theorem own_1 {h : AH} (row : List Nat) : opIx h (whatT (.own row)) (.int 1) = some (tupN row) := rfl
theorem web_2 {h : AH} (w : Web) : opIx h (webT w) (.int 2) = some (.tup (w.hands.map handT)) := rfl
theorem web_1 {h : AH} (w : Web) : opIx h (webT w) (.int 1) = some (tupN w.before) := rfl
theorem web_0 {h : AH} (w : Web) : opIx h (webT w) (.int 0) = some (.int (w.many : Int)) := rfl
def clk (a : Nat) (rs : List Rule) : Nat := rs.foldl (fun f r => Nat.lcm f r.part) a
theorem clk_flat {hands : List (List Rule)} {i : Nat} {rs : List Rule} (h : hands[i]? = some rs) : clk 1 (hands.take (i + 1)).flatten = clk (clk 1 (hands.take i).flatten) rs := by
  rw [List.take_add_one, h]
  unfold clk
  simp [List.foldl_append]
theorem clk_step {rs : List Rule} {i a : Nat} {r : Rule} (h : rs[i]? = some r) : clk a (rs.take (i + 1)) = Nat.lcm (clk a (rs.take i)) r.part := by
  rw [List.take_add_one, h]
  unfold clk
  simp [List.foldl_append]
theorem clk_big {a m n : Nat} {rs : List Rule} (ha : 1 ≤ a ∧ a ∣ BIG) (h : ∀ r ∈ rs, RuleOk m n r) : 1 ≤ clk a rs ∧ clk a rs ∣ BIG :=
  fold_clock (P := fun a => 1 ≤ a ∧ a ∣ BIG) _ rs a ha fun a r hr ha => lcm_big ha (part_dvd (h r hr))
def agoOf (r : Rule) : Option Nat := match r.what with
  | .copy _ ago _ => some ago
  | _ => none
def mostN (hands : List (List Rule)) : Nat := (hands.flatten.filterMap agoOf).foldl max 0
theorem fold_cast : ∀ (ns : List Nat) (a : Nat), (ns.map fun (n : Nat) => (n : Int)).foldl (fun a b => if a < b then b else a) (a : Int) = ((ns.foldl max a : Nat) : Int)
  | [], a => rfl
  | n :: ns, a => by
    rw [List.map_cons, List.foldl_cons, List.foldl_cons, ← fold_cast ns (max a n)]
    congr 1
    split <;> omega
theorem mxI_nat (ns : List Nat) : mxI (0 :: ns.map fun (n : Nat) => (n : Int)) = ((ns.foldl max 0 : Nat) : Int) := fold_cast ns 0
theorem intOfs : ∀ ns : List Int, (ns.map T.int).mapM intOf = some ns
  | [] => rfl
  | n :: ns => by rw [List.map_cons, List.mapM_cons, intOfs ns]; rfl
theorem most_le {many n : Nat} {hands : List (List Rule)} (h : ∀ rs ∈ hands, ∀ r ∈ rs, RuleOk many n r) : mostN hands ≤ 12 := by
  have : ∀ x ∈ hands.flatten.filterMap agoOf, x ≤ 12 := fun x hx => by
    obtain ⟨r, hr, e⟩ := List.mem_filterMap.mp hx
    obtain ⟨rs, hrs, hr⟩ := List.mem_flatten.mp hr
    have ok := (h rs hrs r hr).2.2.2
    unfold agoOf at e
    split at e
    · rename_i a b c q
      cases e
      rw [q] at ok
      exact ok.2.2.1
    · cases e
  unfold mostN
  revert this
  generalize hands.flatten.filterMap agoOf = l
  intro hl
  have go : ∀ (l : List Nat) (a : Nat), a ≤ 12 → (∀ x ∈ l, x ≤ 12) → l.foldl max a ≤ 12 := by
    intro l
    induction l with
    | nil => intro a ha _; exact ha
    | cons x l ih =>
      intro a ha hx
      exact ih (max a x) (by have := hx x List.mem_cons_self; omega) fun y hy => hx y (List.mem_cons_of_mem _ hy)
  exact go l 0 (by decide) hl
theorem rule_2 {h : AH} (r : Rule) : opIx h (ruleT r) (.int 2) = some (whatT r.what) := rfl
theorem is_copy {h : AH} (w : What) : opEq false h (.str (match w with | .own _ => "own" | _ => "copy")) (.str "copy") = some (.bl (match w with | .own _ => false | _ => true)) := by
  cases w with
  | own row =>
    show opEq false h (.str "own") (.str "copy") = some (.bl false)
    rw [eq_s, decide_eq_false (by decide)]
  | copy a b c => exact eq_same
theorem owc : decide (Str.ofString "own" = Str.ofString "copy") = false := by decide
theorem coc : decide (Str.ofString "copy" = Str.ofString "copy") = true := by decide
theorem copy_2 {h : AH} (a b : Nat) (c : List Nat) : opIx h (whatT (.copy a b c)) (.int 2) = some (.int (b : Int)) := rfl
end TL

namespace TL
open PySem PySem.Spec PyProof.Rows L2
local macro_rules | `(tactic| walk_at "tl") => `(tactic| simp only [got_some, got_if, slot_0, slot_s, br_t, br_f, br_n, asB_b, asI_i, asI1_i, asI2_i, two_2, one_1, head_c, x_indexT, x_tupRgF, tupF_l, asT_f, asQ_f, isi_ftp, len_f, ix_f, walks_ftp, gtL_i, x_var, x_c, x_bin, x_nil, x_cons, x_tup, x_lstF, x_lstC, x_tru, x_tb, x_notT, x_andT, x_orT, x_not, x_and, x_or, x_if, x_chain, x_neg, x_callN, x_isi, x_po0, x_po, x_sl, x_rev, x_frz, x_listC, x_r1, x_tupRg, x_lstRgC, x_dict0, x_dictII, x_bm, x_app, x_popAt, eq_i, ne_i, eq_s, ne_s, len_tupN, walks_tupN, x_call, x_compF, x_compC, x_yes, x_rg1, x_rg2, x_itS, walks_tup, walks_lst, walks_scr, x_seq, x_skip, x_break, x_cont, x_expr, x_ret, x_retN, x_ifS, x_asg, x_nm, x_gnils, x_gcons, x_gtu, x_gsub, mulT_i, mulU_i, x_fld, x_fldPut, x_fldAug, x_meth, x_make, x_callD, x_callK, x_countD, x_indexD, x_lenSet, powB_i, min3_i, x_raise, x_rg3, asI3_i, x_sorted, x_sortedUp, x_enumZ, x_minD, x_minP, x_frzD, x_pre, x_dict3, x_dget2, eqNil_f, neNilL_f, eqNilL_f, x_setI, notInI_f, x_itemsT, isF_f, x_try, x_tryAs, x_isE, x_par3, three_3, mulL_l, x_mulC, asR_l, x_rg2B, isB_b, x_gtuL, x_gsta, sta_c, x_zip,  x_index,  x_enum, enums_tup, enums_lst, enums_scr, mulS_i,  x_com2F, x_gsubD, x_dict0T, x_dict0N, int_i, int_b, keysOf_tupN, x_par, x_aug, x_for, x_never, x_wipe0, x_wipe, add_i, add_t, add_l, add_scr, add_s, sub_i, mul_i, div_i, mod_i, pow_i, cmp_i, asQ_t, asQ_l, asQ_s, asL_l, asL_s, asL_t, asT_t, ix_t, ix_l, ix_s, len_t, len_l, len_s, tupleOf_l, tupleOf_t, listOf_t, listOf_l, max2_i, min2_i, sl_t, sl_l, sl_s, rev_t, rev_l, tru_b, tru_i, ty_non, ty_bl, ty_int, ty_str, ty_tup, ty_lst, List.map_cons, List.map_nil, List.cons_append, List.nil_append, List.append_nil, List.set_cons_zero, List.set_cons_succ, List.length_cons, List.length_nil, List.replicate_succ, List.replicate_zero, Nat.sub_self, Nat.zero_add, Nat.reduceAdd, Nat.reduceSub, Nat.reduceLeDiff, Bool.not_true, Bool.not_false, true_and, and_true, if_true, decide_true, decide_false, EndsT.xe, List.reduceReplicate, Nat.le_refl, Nat.zero_le])
/-- a comprehension each of whose items is drawn of the bag -/
theorem compL_bag {P : AH → Prop} {g : WTg} {wt : WTe} {w : WEx} {vs : List Nat} {ρ : Rho} {R : List T → AH → Prop} {b : Nat} {h1 : AH} (Q : T → Prop) (items : List T) (ib : IsBag h1 b) (hP : ∀ h, BagTo b h1 h → P h) (hl : items.length ≤ lim)
    (hs : ∀ t ∈ items, ∀ h, BagTo b h1 h → ∀ (Ky : T → AH → Prop) (Kn : AH → Prop), (∀ y h', Q y → BagTo b h1 h' → Ky y h') → g t (wipeT ρ vs) h (fun ρ2 h2 => wt ρ2 h2 (fun k h3 => if k = true then w ρ2 h3 Ky (fun _ _ => False) else Kn h3) (fun _ _ => False)) (fun _ _ => False))
    (hd : ∀ acc h', acc.length = items.length → (∀ y ∈ acc, Q y) → BagTo b h1 h' → R acc h') : wCompL P g wt w vs ρ items [] h1 R :=
  compL_inv (fun _ acc h => BagTo b h1 h ∧ ∀ y ∈ acc, Q y) items (fun _ _ h iv => hP h iv.1) hl
    (fun i t acc h et iv Ky Kn k => hs t (List.mem_of_getElem? et) h iv.1 Ky Kn fun y h' hq s => k y h' ⟨s, fun z hz => by
      rcases List.mem_append.mp hz with q | q
      · exact iv.2 z q
      · rw [List.mem_singleton.mp q]; exact hq⟩)
    ⟨BagTo.refl ib, by simp⟩ (fun acc h' hl iv => hd acc h' hl iv.2 iv.1)
theorem list_of {α : Type} {f : α → T} {Q : α → Prop} : ∀ {ys : List T}, (∀ y ∈ ys, ∃ a, Q a ∧ y = f a) → ∃ xs : List α, ys = xs.map f ∧ ∀ a ∈ xs, Q a
  | [], _ => ⟨[], rfl, by simp⟩
  | y :: ys, h => by
    obtain ⟨a, qa, rfl⟩ := h y List.mem_cons_self
    obtain ⟨xs, rfl, q⟩ := list_of (ys := ys) fun z hz => h z (List.mem_cons_of_mem _ hz)
    exact ⟨a :: xs, rfl, fun z hz => by rcases List.mem_cons.mp hz with rfl | hz; exact qa; exact q z hz⟩
theorem max_int {a b : Nat} : (if (b : Int) > (a : Int) then (b : Int) else (a : Int)) = ((max a b : Nat) : Int) := by split <;> omega
theorem max_dvd_lcm (a b : Nat) : max a b ∣ Nat.lcm a b := by
  by_cases h : a ≤ b
  · rw [Nat.max_eq_right h]; exact Nat.dvd_lcm_right a b
  · rw [Nat.max_eq_left (by omega)]; exact Nat.dvd_lcm_left a b
theorem min_mul_max (a b : Nat) : min a b * max a b = a * b := by
  by_cases h : a ≤ b
  · rw [Nat.max_eq_right h, Nat.min_eq_left h]
  · rw [Nat.max_eq_left (by omega), Nat.min_eq_right (by omega), Nat.mul_comm]
theorem cut_to {xs : List T} {k : Nat} : cutT xs none (some (k : Int)) = xs.take k := by
  unfold cutT
  rw [HT.sIx_none, HT.sIx_nat, List.drop_zero, Nat.sub_zero]
  by_cases h : k ≤ xs.length
  · rw [Nat.min_eq_left h]
  · rw [Nat.min_eq_right (by omega), List.take_of_length_le (Nat.le_refl _), List.take_of_length_le (by omega)]
theorem cut_from {xs : List T} {k : Nat} : cutT xs (some (k : Int)) none = xs.drop k := by
  unfold cutT
  rw [HT.sIx_none, HT.sIx_nat]
  by_cases h : k ≤ xs.length
  · rw [Nat.min_eq_left h, List.take_of_length_le (by rw [List.length_drop]; omega)]
  · rw [Nat.min_eq_right (by omega), Nat.sub_self, List.take_zero, List.drop_eq_nil_of_le (by omega)]
theorem sl_tupN {h : AH} {xs : List Nat} {k : Nat} : opSl h (tupN xs) none (some (k : Int)) = some (tupN (xs.take k)) := by
  show some (T.tup (cutT _ none (some (k : Int)))) = _
  rw [cut_to, ← List.map_take]; rfl
theorem few_at {n : Nat} (h : n ≤ 12) : atI [T.int 1, T.int 1, T.int 2, T.int 3, T.int 4, T.int 4, T.int 6, T.int 6, T.int 4, T.int 3, T.int 2, T.int 6, T.int 12] (n : Int) = some (.int ((fewN.getD n 1 : Nat) : Int)) := by
  show atI (fewN.map fun (n : Nat) => T.int (n : Int)) (n : Int) = _
  have hl : n < fewN.length := by show n < 13; omega
  rw [atI_map hl, List.getD_eq_getElem?_getD, List.getElem?_eq_getElem hl]; rfl
theorem tupleOf_r {h : AH} {n : Nat} {xs : List T} (e : h[n]? = some (.lst xs)) : opTupleOf h [.ref n] = some (.tup xs) := by
  simp [opTupleOf, asQ, asT, asL, asR, e]
theorem take_succ_map {α β : Type} {f : α → β} {xs : List α} {i : Nat} {x : α} (h : xs[i]? = some x) : (xs.take (i + 1)).map f = (xs.take i).map f ++ [f x] := by
  rw [List.take_add_one, h]; simp
theorem asT_rule {r : Rule} : asT (ruleT r) = some [.int (r.every : Int), .int (r.at_ : Int), whatT r.what] := rfl
theorem hand_snoc {m n : Nat} {rules : List Rule} {r : Rule} (hl : rules.length ≤ 5) (hr : ∀ r ∈ rules, RuleOk m n r) (h : RuleOk m n r) (e : r.every = 1) : HandOk m n (rules ++ [r]) := by
  refine ⟨by simp; omega, fun x hx => ?_, r, by simp, e⟩
  rcases List.mem_append.mp hx with q | q
  · exact hr x q
  · rw [List.mem_singleton.mp q]; exact h
end TL

namespace TL
open PySem PySem.Spec PyProof.Rows L2
local macro_rules | `(tactic| walk_at "tl") => `(tactic| simp only [got_some, got_if, slot_0, slot_s, br_t, br_f, br_n, asB_b, asI_i, asI1_i, asI2_i, two_2, one_1, head_c, x_indexT, x_tupRgF, tupF_l, asT_f, asQ_f, isi_ftp, len_f, ix_f, walks_ftp, gtL_i, x_var, x_c, x_bin, x_nil, x_cons, x_tup, x_lstF, x_lstC, x_tru, x_tb, x_notT, x_andT, x_orT, x_not, x_and, x_or, x_if, x_chain, x_neg, x_callN, x_isi, x_po0, x_po, x_sl, x_rev, x_frz, x_listC, x_r1, x_tupRg, x_lstRgC, x_dict0, x_dictII, x_bm, x_app, x_popAt, eq_i, ne_i, eq_s, ne_s, len_tupN, walks_tupN, x_call, x_compF, x_compC, x_yes, x_rg1, x_rg2, x_itS, walks_tup, walks_lst, walks_scr, x_seq, x_skip, x_break, x_cont, x_expr, x_ret, x_retN, x_ifS, x_asg, x_nm, x_gnils, x_gcons, x_gtu, x_gsub, mulT_i, mulU_i, x_fld, x_fldPut, x_fldAug, x_meth, x_make, x_callD, x_callK, x_countD, x_indexD, x_lenSet, powB_i, min3_i, x_raise, x_rg3, asI3_i, x_sorted, x_sortedUp, x_enumZ, x_minD, x_minP, x_frzD, x_pre, x_dict3, x_dget2, eqNil_f, neNilL_f, eqNilL_f, x_setI, notInI_f, x_itemsT, isF_f, x_try, x_tryAs, x_isE, x_par3, three_3, mulL_l, x_mulC, asR_l, x_rg2B, isB_b, x_gtuL, x_gsta, sta_c, x_zip,  x_index,  x_enum, enums_tup, enums_lst, enums_scr, mulS_i,  x_com2F, x_gsubD, x_dict0T, x_dict0N, int_i, int_b, keysOf_tupN, x_par, x_aug, x_for, x_never, x_wipe0, x_wipe, add_i, add_t, add_l, add_scr, add_s, sub_i, mul_i, div_i, mod_i, pow_i, cmp_i, asQ_t, asQ_l, asQ_s, asL_l, asL_s, asL_t, asT_t, ix_t, ix_l, ix_s, len_t, len_l, len_s, tupleOf_l, tupleOf_t, listOf_t, listOf_l, max2_i, min2_i, sl_t, sl_l, sl_s, rev_t, rev_l, tru_b, tru_i, ty_non, ty_bl, ty_int, ty_str, ty_tup, ty_lst, List.map_cons, List.map_nil, List.cons_append, List.nil_append, List.append_nil, List.set_cons_zero, List.set_cons_succ, List.length_cons, List.length_nil, List.replicate_succ, List.replicate_zero, Nat.sub_self, Nat.zero_add, Nat.reduceAdd, Nat.reduceSub, Nat.reduceLeDiff, Bool.not_true, Bool.not_false, true_and, and_true, if_true, decide_true, decide_false, EndsT.xe, List.reduceReplicate, Nat.le_refl, Nat.zero_le])
theorem fold_dvd : ∀ (l : List Rule) (a n : Nat), l.foldl (fun f r => Nat.lcm f r.part) a ∣ n ↔ a ∣ n ∧ ∀ r ∈ l, r.part ∣ n
  | [], a, n => by simp
  | r :: l, a, n => by
    rw [List.foldl_cons, fold_dvd l]
    constructor
    · rintro ⟨h1, h2⟩
      refine ⟨Nat.dvd_trans (Nat.dvd_lcm_left _ _) h1, fun x hx => ?_⟩
      rcases List.mem_cons.mp hx with rfl | hx
      · exact Nat.dvd_trans (Nat.dvd_lcm_right _ _) h1
      · exact h2 x hx
    · rintro ⟨h1, h2⟩
      exact ⟨Nat.lcm_dvd h1 (h2 r List.mem_cons_self), fun x hx => h2 x (List.mem_cons_of_mem _ hx)⟩
theorem clock_dvd {hands : List (List Rule)} {n : Nat} : clockN hands ∣ n ↔ ∀ r ∈ hands.flatten, r.part ∣ n := by
  unfold clockN
  rw [fold_dvd]; simp
theorem every_part (r : Rule) : r.every ∣ r.part := by
  unfold Rule.part
  split
  · exact Nat.dvd_mul_right _ _
  · exact Nat.dvd_refl _
theorem every_clock {hands : List (List Rule)} {rs : List Rule} {r : Rule} (h1 : rs ∈ hands) (h2 : r ∈ rs) : r.every ∣ clockN hands :=
  Nat.dvd_trans (every_part r) (clock_dvd.mp (Nat.dvd_refl _) r (List.mem_flatten.mpr ⟨rs, h1, h2⟩))
/-- a rule holds at a beat -/
def holdB (b : Int) (r : Rule) : Bool := decide (b % (r.every : Int) = (r.at_ : Int))
/-- the number of the first rule that holds -/
def ruleN (rs : List Rule) (b : Int) : Nat := rs.findIdx (holdB b)
theorem hold_sub {m n : Nat} {r : Rule} (h : RuleOk m n r) (b : Int) : decide ((b - (r.at_ : Int)) % (r.every : Int) = 0) = holdB b r := by
  unfold holdB
  have h1 := h.1
  have h2 := h.2.2.1
  have e : (r.at_ : Int) % (r.every : Int) = r.at_ := Int.emod_eq_of_lt (by omega) (by omega)
  have := Int.emod_eq_emod_iff_emod_sub_eq_zero (m := b) (n := (r.every : Int)) (k := (r.at_ : Int))
  rw [e] at this
  by_cases q : b % (r.every : Int) = (r.at_ : Int)
  · rw [decide_eq_true q, decide_eq_true (this.mp q)]
  · rw [decide_eq_false q, decide_eq_false fun z => q (this.mpr z)]
theorem hand_holds {m n : Nat} {rs : List Rule} (h : HandOk m n rs) (b : Int) : ∃ r, r ∈ rs ∧ holdB b r = true := by
  obtain ⟨_, h2, r, h3, h4⟩ := h
  have hm : r ∈ rs := List.mem_of_getLast? h3
  have := (h2 r hm).2.2.1
  refine ⟨r, hm, ?_⟩
  unfold holdB
  rw [h4]
  exact decide_eq_true (by rw [Int.natCast_one, Int.emod_one]; omega)
theorem rule_lt {m n : Nat} {rs : List Rule} (h : HandOk m n rs) (b : Int) : ruleN rs b < rs.length := by
  obtain ⟨r, h1, h2⟩ := hand_holds h b
  exact List.findIdx_lt_length_of_exists ⟨r, h1, h2⟩
theorem rule_clock {m n : Nat} {hands : List (List Rule)} {rs : List Rule} (h1 : rs ∈ hands) (b : Int) : ruleN rs (b - (clockN hands : Int)) = ruleN rs b := by
  unfold ruleN
  have : ∀ r ∈ rs, holdB (b - (clockN hands : Int)) r = holdB b r := fun r hr => by
    obtain ⟨q, e⟩ := every_clock h1 hr
    unfold holdB
    rw [e, Int.natCast_mul, Int.sub_mul_emod_self_left]
  have go : ∀ l : List Rule, (∀ r ∈ l, r ∈ rs) → l.findIdx (holdB (b - (clockN hands : Int))) = l.findIdx (holdB b) := by
    intro l
    induction l with
    | nil => intro _; rfl
    | cons r l ih =>
      intro hl
      rw [List.findIdx_cons, List.findIdx_cons, this r (hl r List.mem_cons_self), ih fun x hx => hl x (List.mem_cons_of_mem _ hx)]
  exact go rs fun _ h => h
theorem web_hand {w : Web} {k : Nat} {rs : List Rule} (e : w.hands[k]? = some rs) : atI (w.hands.map handT) (k : Int) = some (handT rs) := by
  exact atI_nat (by rw [List.getElem?_map, e]; rfl)
theorem idx_of {m n : Nat} {rs : List Rule} (ok : HandOk m n rs) (b : Int) : idxT (rs.map fun r => T.int ((b - (r.at_ : Int)) % (r.every : Int))) (.int 0) = some (ruleN rs b) := by
  unfold idxT
  rw [List.findIdx?_map]
  have e : ∀ r ∈ rs, ((fun z => eqT z (.int 0)) ∘ fun r : Rule => T.int ((b - (r.at_ : Int)) % (r.every : Int))) r = holdB b r := fun r hr => by
    show ((b - (r.at_ : Int)) % (r.every : Int) == 0) = _
    rw [← hold_sub (ok.2.1 r hr) b, Bool.beq_eq_decide_eq]
  have go : ∀ l : List Rule, (∀ r ∈ l, r ∈ rs) → l.findIdx? ((fun z => eqT z (.int 0)) ∘ fun r : Rule => T.int ((b - (r.at_ : Int)) % (r.every : Int))) = l.findIdx? (holdB b) := by
    intro l
    induction l with
    | nil => intro _; rfl
    | cons r l ih =>
      intro hl
      rw [List.findIdx?_cons, List.findIdx?_cons, e r (hl r List.mem_cons_self), ih fun x hx => hl x (List.mem_cons_of_mem _ hx)]
  rw [go rs fun _ h => h]
  obtain ⟨r, h1, h2⟩ := hand_holds ok b
  exact List.findIdx?_eq_some_of_exists ⟨r, h1, h2⟩
theorem wide_txt : ∀ k : Nat, k < 30 → (PySem.intText? (("1" : Str) ++ repS "0" (k : Int)) = some ((10 : Int) ^ k) ∧ (("1" : Str) ++ repS "0" (k : Int)).length ≤ 640) ∧ (repS "0" (k : Int)).length ≤ 100 := by decide +kernel
end TL

namespace TL
open PySem PySem.Spec PyProof.Rows L2
theorem rule_per {hands : List (List Rule)} {rs : List Rule} (h1 : rs ∈ hands) (b L : Int) (hd : (clockN hands : Int) ∣ L) : ruleN rs (b - L) = ruleN rs b := by
  unfold ruleN
  have : ∀ r ∈ rs, holdB (b - L) r = holdB b r := fun r hr => by
    obtain ⟨q, e⟩ := every_clock h1 hr
    obtain ⟨z, ez⟩ := hd
    unfold holdB
    rw [ez, e, Int.natCast_mul, Int.mul_assoc, Int.sub_mul_emod_self_left]
  have go : ∀ l : List Rule, (∀ r ∈ l, r ∈ rs) → l.findIdx (holdB (b - L)) = l.findIdx (holdB b) := by
    intro l
    induction l with
    | nil => intro _; rfl
    | cons r l ih =>
      intro hl
      rw [List.findIdx_cons, List.findIdx_cons, this r (hl r List.mem_cons_self), ih fun x hx => hl x (List.mem_cons_of_mem _ hx)]
  exact go rs fun _ h => h
/-- what a copy at a hand and beat copies: none where the hand goes by an own rule -/
def stepW (w : Web) (k : Nat) (b : Int) : Option (Nat × Int × List Nat) :=
  match w.hands[k]? with
  | none => none
  | some rs => match rs[ruleN rs b]? with
    | none => none
    | some r => match r.what with
      | .copy o ago t => some (o, b - ago, t)
      | .own _ => none
theorem step_ok {w : Web} (ok : WebOk w) {k : Nat} {b : Int} {o : Nat} {b' : Int} {t : List Nat} (h : stepW w k b = some (o, b', t)) : o < w.hands.length ∧ b' ≤ b - 1 ∧ b - 12 ≤ b' ∧ IsTurn w.many t := by
  unfold stepW at h
  split at h
  · cases h
  · rename_i rs hrs
    split at h
    · cases h
    · rename_i r hr
      have hok := (ok.hs rs (List.mem_of_getElem? hrs)).2.1 r (List.mem_of_getElem? hr)
      split at h
      · rename_i o' ago t' hw
        cases h
        have := hok.2.2.2
        rw [hw] at this
        obtain ⟨h1, h2, h3, h4⟩ := this
        exact ⟨h1, by omega, by omega, h4⟩
      · cases h
theorem step_shift {w : Web} {k : Nat} {b L : Int} (hd : (clockN w.hands : Int) ∣ L) {o : Nat} {b' : Int} {t : List Nat} (h : stepW w k b = some (o, b', t)) : stepW w k (b - L) = some (o, b' - L, t) := by
  have key : stepW w k (b - L) = (stepW w k b).map fun p => (p.1, p.2.1 - L, p.2.2) := by
    unfold stepW
    cases hrs : w.hands[k]? with
    | none => rfl
    | some rs =>
      simp only
      rw [rule_per (List.mem_of_getElem? hrs) b L hd]
      cases hr : rs[ruleN rs b]? with
      | none => rfl
      | some r =>
        simp only
        cases hw : r.what with
        | own row => rfl
        | copy o ago t =>
          simp only [Option.map_some, Option.some.injEq, Prod.mk.injEq, true_and, and_true]
          omega
  rw [key, h]; rfl
structure St where
  k : Nat
  b : Int
  t : List Nat
  c : Nat
def stepS (w : Web) (s : St) : Option St := (stepW w s.k s.b).map fun p => ⟨p.1, p.2.1, compN p.2.2 s.t, s.c + 1⟩
def srcF (w : Web) (base : Int) : Nat → St → St
  | 0, s => s
  | n + 1, s => if s.b < base then s else match stepS w s with
    | none => s
    | some s' => srcF w base n s'
/-- where a doing began -/
def src (w : Web) (base : Int) (s : St) : St := srcF w base (s.b - base + 1).toNat s
theorem stepS_le {w : Web} (ok : WebOk w) {s s' : St} (h : stepS w s = some s') : s'.b ≤ s.b - 1 := by
  unfold stepS at h
  obtain ⟨⟨o, b', t⟩, e, rfl⟩ := Option.map_eq_some_iff.mp h
  exact (step_ok ok e).2.1
theorem srcF_more {w : Web} (ok : WebOk w) {base : Int} : ∀ (n m : Nat) (s : St), (s.b - base + 1).toNat ≤ n → (s.b - base + 1).toNat ≤ m → srcF w base n s = srcF w base m s
  | 0, 0, s, _, _ => rfl
  | 0, m + 1, s, h, _ => by
    show s = if s.b < base then s else _
    rw [if_pos (by omega)]
  | n + 1, 0, s, _, h => by
    show (if s.b < base then s else _) = s
    rw [if_pos (by omega)]
  | n + 1, m + 1, s, h1, h2 => by
    unfold srcF
    by_cases q : s.b < base
    · rw [if_pos q, if_pos q]
    · rw [if_neg q, if_neg q]
      cases e : stepS w s with
      | none => rfl
      | some s' =>
        have := stepS_le ok e
        exact srcF_more ok n m s' (by omega) (by omega)
theorem src_stop {w : Web} {base : Int} {s : St} (h : s.b < base ∨ stepS w s = none) : src w base s = s := by
  unfold src
  generalize (s.b - base + 1).toNat = n
  cases n with
  | zero => rfl
  | succ n =>
    unfold srcF
    by_cases q : s.b < base
    · rw [if_pos q]
    · rw [if_neg q, h.resolve_left q]
theorem src_step {w : Web} (ok : WebOk w) {base : Int} {s s' : St} (hb : base ≤ s.b) (h : stepS w s = some s') : src w base s = src w base s' := by
  have := stepS_le ok h
  unfold src
  obtain ⟨n, hn⟩ : ∃ n, (s.b - base + 1).toNat = n + 1 := ⟨(s.b - base + 1).toNat - 1, by omega⟩
  rw [hn]
  show (if s.b < base then s else match stepS w s with | none => s | some s' => srcF w base n s') = _
  rw [if_neg (by omega), h]
  exact srcF_more ok _ _ s' (by omega) (Nat.le_refl _)
/-- so many copies back, from a place to a place, by one turn in all -/
inductive Path (w : Web) (k : Nat) (b : Int) : Nat → Nat → Int → List Nat → Prop
  | nil : Path w k b 0 k b (List.range w.many)
  | snoc {n k1 b1 T k2 b2 t} : Path w k b n k1 b1 T → stepW w k1 b1 = some (k2, b2, t) → Path w k b (n + 1) k2 b2 (compN t T)
section
variable {w : Web} {k : Nat} {b : Int}
theorem Path.turn (ok : WebOk w) {n k1 b1 T} (p : Path w k b n k1 b1 T) : IsTurn w.many T := by
  induction p with
  | nil => exact range_turn _
  | snoc p h ih => exact comp_turn (step_ok ok h).2.2.2 ih
theorem Path.le (ok : WebOk w) {n k1 b1 T} (p : Path w k b n k1 b1 T) : b1 ≤ b - n := by
  induction p with
  | nil => omega
  | snoc p h ih => have := (step_ok ok h).2.1; omega
theorem Path.trans (ok : WebOk w) {n k1 b1 T m k2 b2 U} (p : Path w k b n k1 b1 T) (q : Path w k1 b1 m k2 b2 U) : Path w k b (n + m) k2 b2 (compN U T) := by
  induction q with
  | nil => rw [comp_id_left (p.turn ok)]; exact p
  | snoc q h ih =>
    rw [comp_assoc (step_ok ok h).2.2.2 (q.turn ok)]
    exact .snoc ih h
theorem Path.shift {L : Int} (hd : (clockN w.hands : Int) ∣ L) {n k1 b1 T} (p : Path w k b n k1 b1 T) : Path w k (b - L) n k1 (b1 - L) T := by
  induction p with
  | nil => exact .nil
  | snoc p h ih => exact .snoc ih (step_shift hd h)
theorem Path.rounds (ok : WebOk w) {L : Int} (hd : (clockN w.hands : Int) ∣ L) {n T} (p : Path w k b n k (b - L) T) : ∀ m : Nat, Path w k b (n * m) k (b - L * m) (powN T m)
  | 0 => by
    have : powN T 0 = List.range w.many := by unfold powN; rw [(p.turn ok).1]
    rw [this]
    have e : b - L * ((0 : Nat) : Int) = b := by simp
    rw [e]
    exact .nil
  | m + 1 => by
    have ih := Path.rounds ok hd p m
    have sh := p.shift (L := L * m) (by obtain ⟨z, ez⟩ := hd; exact ⟨z * m, by rw [ez, Int.mul_assoc]⟩)
    have tr := ih.trans ok sh
    have e1 : b - L - L * (m : Int) = b - L * ((m + 1 : Nat) : Int) := by
      rw [Int.natCast_add, Int.natCast_one, Int.mul_add, Int.mul_one]; omega
    have e2 : compN T (powN T m) = powN T (m + 1) := by
      rw [Nat.add_comm m 1, pow_add (p.turn ok), pow_one (p.turn ok)]
    rw [e1, e2] at tr
    rw [Nat.mul_succ]
    exact tr
theorem src_path (ok : WebOk w) {base : Int} {t : List Nat} {c : Nat} (ht : IsTurn w.many t) {n k1 b1 T} (p : Path w k b n k1 b1 T) : base ≤ b1 → src w base ⟨k, b, t, c⟩ = src w base ⟨k1, b1, compN T t, c + n⟩ := by
  induction p with
  | nil => intro _; rw [comp_id_left ht]; rfl
  | @snoc n k1 b1 T k2 b2 u p h ih =>
    intro hb
    have h2 := (step_ok ok h).2.1
    rw [ih (by omega)]
    have e : stepS w ⟨k1, b1, compN T t, c + n⟩ = some ⟨k2, b2, compN u (compN T t), c + n + 1⟩ := by
      unfold stepS
      rw [h]; rfl
    rw [src_step ok (show base ≤ b1 by omega) e, comp_assoc (step_ok ok h).2.2.2 (p.turn ok)]
    rfl
/-- from a place to the same place of the clock, led on: the whole rounds at once -/
theorem src_rounds (ok : WebOk w) {base : Int} {t : List Nat} {c : Nat} (ht : IsTurn w.many t) {L : Int} (hd : (clockN w.hands : Int) ∣ L) {n T} (p : Path w k b n k (b - L) T) (m : Nat) (hm : base ≤ b - L * m) :
    src w base ⟨k, b, t, c⟩ = src w base ⟨k, b - L * m, compN (powN T m) t, c + n * m⟩ := src_path ok ht (p.rounds ok hd m) hm
end
/-- the path as a function -/
def pathN (w : Web) (k : Nat) (b : Int) : Nat → Option (Nat × Int × List Nat)
  | 0 => some (k, b, List.range w.many)
  | n + 1 => (pathN w k b n).bind fun p => (stepW w p.1 p.2.1).map fun q => (q.1, q.2.1, compN q.2.2 p.2.2)
section
variable {w : Web} {k : Nat} {b : Int}
theorem Path.fn {n k1 b1 T} (p : Path w k b n k1 b1 T) : pathN w k b n = some (k1, b1, T) := by
  induction p with
  | nil => rfl
  | snoc p h ih =>
    show (pathN w k b _).bind _ = _
    rw [ih, Option.bind_some, h]; rfl
theorem path_of : ∀ {n k1 b1 T}, pathN w k b n = some (k1, b1, T) → Path w k b n k1 b1 T
  | 0, _, _, _, h => by cases h; exact .nil
  | n + 1, k1, b1, T, h => by
    obtain ⟨⟨k0, b0, T0⟩, e1, h⟩ := Option.bind_eq_some_iff.mp h
    obtain ⟨⟨k2, b2, t⟩, e2, h⟩ := Option.map_eq_some_iff.mp h
    cases h
    exact .snoc (path_of e1) e2
theorem path_pre : ∀ {m : Nat} {p}, pathN w k b m = some p → ∀ j, j ≤ m → ∃ q, pathN w k b j = some q
  | 0, p, h, j, hj => by obtain rfl : j = 0 := by omega
                         exact ⟨_, h⟩
  | m + 1, p, h, j, hj => by
    by_cases q : j = m + 1
    · subst q; exact ⟨p, h⟩
    · obtain ⟨p0, e1, _⟩ := Option.bind_eq_some_iff.mp h
      exact path_pre e1 j (by omega)
theorem Path.drop {i ki bi Ti} (pi : Path w k b i ki bi Ti) : ∀ {n kn bn Tn}, Path w k b n kn bn Tn → i ≤ n → ∃ U, Path w ki bi (n - i) kn bn U := by
  intro n kn bn Tn p
  induction p with
  | nil =>
    intro hi
    obtain rfl : i = 0 := by omega
    have := pi.fn
    cases this
    exact ⟨_, .nil⟩
  | @snoc n k1 b1 T k2 b2 t p h ih =>
    intro hi
    by_cases q : i = n + 1
    · subst q
      have e1 := pi.fn
      have e2 := (Path.snoc p h).fn
      rw [e1] at e2
      cases e2
      rw [Nat.sub_self]
      exact ⟨_, .nil⟩
    · obtain ⟨U, r⟩ := ih (by omega)
      rw [show n + 1 - i = n - i + 1 by omega]
      exact ⟨_, .snoc r h⟩
/-- one more copy, from a place that lies ahead of the path's end -/
theorem Path.next (ok : WebOk w) {m km bm Tm j kj bj Tj} (p : Path w k b m km bm Tm) (pj : Path w k b j kj bj Tj) (hj : j ≤ m) (hb : bm < bj) : ∃ k2 b2 t, stepW w kj bj = some (k2, b2, t) ∧ j < m ∧ bm ≤ b2 := by
  have hlt : j < m := by
    by_cases q : j = m
    · subst q
      have e1 := p.fn
      rw [pj.fn] at e1
      cases e1
      omega
    · omega
  obtain ⟨⟨k2, b2, T2⟩, e⟩ := path_pre p.fn (j + 1) (by omega)
  have e' := e
  obtain ⟨⟨k0, b0, T0⟩, e1, h⟩ := Option.bind_eq_some_iff.mp e
  rw [pj.fn] at e1
  cases e1
  obtain ⟨⟨k3, b3, t⟩, e2, h⟩ := Option.map_eq_some_iff.mp h
  cases h
  obtain ⟨U, r⟩ := (path_of e').drop p (by omega)
  have := r.le ok
  exact ⟨_, _, _, e2, hlt, by simp only at this; omega⟩
end
end TL

namespace TL
open PySem PySem.Spec PyProof.Rows L2
local macro_rules | `(tactic| walk_at "tl") => `(tactic| simp only [got_some, got_if, slot_0, slot_s, br_t, br_f, br_n, asB_b, asI_i, asI1_i, asI2_i, two_2, one_1, head_c, x_indexT, x_tupRgF, tupF_l, asT_f, asQ_f, isi_ftp, len_f, ix_f, walks_ftp, gtL_i, x_var, x_c, x_bin, x_nil, x_cons, x_tup, x_lstF, x_lstC, x_tru, x_tb, x_notT, x_andT, x_orT, x_not, x_and, x_or, x_if, x_chain, x_neg, x_callN, x_isi, x_po0, x_po, x_sl, x_rev, x_frz, x_listC, x_r1, x_tupRg, x_lstRgC, x_dict0, x_dictII, x_bm, x_app, x_popAt, eq_i, ne_i, eq_s, ne_s, len_tupN, walks_tupN, x_call, x_compF, x_compC, x_yes, x_rg1, x_rg2, x_itS, walks_tup, walks_lst, walks_scr, x_seq, x_skip, x_break, x_cont, x_expr, x_ret, x_retN, x_ifS, x_asg, x_nm, x_gnils, x_gcons, x_gtu, x_gsub, mulT_i, mulU_i, x_fld, x_fldPut, x_fldAug, x_meth, x_make, x_callD, x_callK, x_countD, x_indexD, x_lenSet, powB_i, min3_i, x_raise, x_rg3, asI3_i, x_sorted, x_sortedUp, x_enumZ, x_minD, x_minP, x_frzD, x_pre, x_dict3, x_dget2, eqNil_f, neNilL_f, eqNilL_f, x_setI, notInI_f, x_itemsT, isF_f, x_try, x_tryAs, x_isE, x_par3, three_3, mulL_l, x_mulC, asR_l, x_rg2B, isB_b, x_gtuL, x_gsta, sta_c, x_zip,  x_index,  x_enum, enums_tup, enums_lst, enums_scr, mulS_i,  x_com2F, x_gsubD, x_dict0T, x_dict0N, int_i, int_b, keysOf_tupN, x_par, x_aug, x_for, x_never, x_wipe0, x_wipe, add_i, add_t, add_l, add_scr, add_s, sub_i, mul_i, div_i, mod_i, pow_i, cmp_i, asQ_t, asQ_l, asQ_s, asL_l, asL_s, asL_t, asT_t, ix_t, ix_l, ix_s, len_t, len_l, len_s, tupleOf_l, tupleOf_t, listOf_t, listOf_l, max2_i, min2_i, sl_t, sl_l, sl_s, rev_t, rev_l, tru_b, tru_i, ty_non, ty_bl, ty_int, ty_str, ty_tup, ty_lst, List.map_cons, List.map_nil, List.cons_append, List.nil_append, List.append_nil, List.set_cons_zero, List.set_cons_succ, List.length_cons, List.length_nil, List.replicate_succ, List.replicate_zero, Nat.sub_self, Nat.zero_add, Nat.reduceAdd, Nat.reduceSub, Nat.reduceLeDiff, Bool.not_true, Bool.not_false, true_and, and_true, if_true, decide_true, decide_false, EndsT.xe, List.reduceReplicate, Nat.le_refl, Nat.zero_le])
theorem set_last {h : AH} {x y : Cell} : (h ++ [x]).set h.length y = h ++ [y] := by rw [List.set_append_right _ _ (Nat.le_refl _)]; simp
def walkF (s : St) : List (Str × T) := [("hand", .int (s.k : Int)), ("beat", .int s.b), ("turn", tupN s.t), ("copies", .int (s.c : Int))]
def groundF (w : Web) (base : Int) (pasts : T) : List (Str × T) := [("web", webT w), ("base", .int base), ("pasts", pasts), ("clock", .int ((clockN w.hands : Nat) : Int))]
theorem wk_hand {s : St} : fget (walkF s) "hand" = some (.int (s.k : Int)) := rfl
theorem wk_beat {s : St} : fget (walkF s) "beat" = some (.int s.b) := rfl
theorem wk_turn {s : St} : fget (walkF s) "turn" = some (tupN s.t) := rfl
theorem wk_copies {s : St} : fget (walkF s) "copies" = some (.int (s.c : Int)) := rfl
theorem wk_step {s : St} : fget (walkF s) "step" = none := rfl
theorem gd_web {w base p} : fget (groundF w base p) "web" = some (webT w) := rfl
theorem gd_base {w base p} : fget (groundF w base p) "base" = some (.int base) := rfl
theorem gd_pasts {w base p} : fget (groundF w base p) "pasts" = some p := rfl
theorem gd_clock {w base p} : fget (groundF w base p) "clock" = some (.int ((clockN w.hands : Nat) : Int)) := rfl
theorem gd_step {w base p} : fget (groundF w base p) "step" = none := rfl
theorem gd_back {w base p} : fget (groundF w base p) "back" = none := rfl
theorem gd_go {w base p} : fget (groundF w base p) "go_round" = none := rfl
theorem gd_doing {w base p} : fget (groundF w base p) "doing" = none := rfl
theorem put_hand {s : St} {k : Nat} : fput "hand" (.int (k : Int)) (walkF s) = walkF { s with k := k } := rfl
theorem put_beat {s : St} {b : Int} : fput "beat" (.int b) (walkF s) = walkF { s with b := b } := rfl
theorem put_turn {s : St} {t : List Nat} : fput "turn" (tupN t) (walkF s) = walkF { s with t := t } := rfl
theorem put_copies {s : St} {c : Nat} : fput "copies" (.int (c : Int)) (walkF s) = walkF { s with c := c } := rfl
theorem wk_len {s : St} : (walkF s).length < 1000 := by show 4 < 1000; decide
def stepT : Option (Nat × Int × List Nat) → T
  | none => .non
  | some (o, b, t) => .tup [.int (o : Int), .int b, tupN t]
def past12 (d : Nat) : T := tupN (List.replicate 12 d)
/-- a ground stands at g -/
def IsGround (h : AH) (g : Nat) (w : Web) (base : Int) (pasts : T) : Prop := h[g]? = some (.ins "Ground" (groundF w base pasts))
def IsWalk (h : AH) (n : Nat) (s : St) : Prop := h[n]? = some (.ins "Walk" (walkF s))
def srcT (s : St) : T := .tup [.int (s.k : Int), .int s.b, tupN s.t, .int (s.c : Int)]
def stT (w : Web) (base : Int) (s : St) : T := if s.b < base then .non else stepT (stepW w s.k s.b)
/-- the places gone by, as the dict has them -/
def plK (C : Nat) (q : Nat × Int) : List L2.Key := [.inl (q.1 : Int), .inl (q.2 % (C : Int))]
def plT (C : Nat) (P : List (Nat × Int)) : List (List L2.Key × T) := P.map fun q => (plK C q, T.int q.2)
theorem isN_t {h : AH} {xs : List T} : opIsN true h (.tup xs) .non = some (.bl true) := rfl
theorem isN_n {h : AH} : opIsN true h .non .non = some (.bl false) := rfl
/-- what the walk leans on -/
structure Went (w : Web) (base : Int) (k : Nat) (b : Int) (n : Nat) (s : St) (P : List (Nat × Int)) : Prop where
  path : Path w k b n s.k s.b s.t
  cn : s.c = n
  len : P.length = n
  at_ : ∀ i q, P[i]? = some q → ∃ U, Path w k b i q.1 q.2 U
  ge : ∀ q ∈ P, base ≤ q.2 ∧ q.1 < w.hands.length
  nd : ∀ (i j : Nat) q r, i < j → P[i]? = some q → P[j]? = some r → plK (clockN w.hands) q ≠ plK (clockN w.hands) r
theorem Went.short {w : Web} {base : Int} {k : Nat} {b : Int} {n : Nat} {s : St} {P : List (Nat × Int)} (x : Went w base k b n s P) (ok : WebOk w) : n ≤ 6 * 240 := by
  have hC := (clk_big (a := 1) (m := w.many) (n := w.hands.length) (rs := w.hands.flatten) (by decide) fun r hr => by
    obtain ⟨rs, h1, h2⟩ := List.mem_flatten.mp hr
    exact (ok.hs rs h1).2.1 r h2).1
  have hC : 1 ≤ clockN w.hands := hC
  have hck := ok.ck
  generalize hCC : clockN w.hands = C at hC hck
  have code : ∀ q : Nat × Int, q.1 < w.hands.length → q.1 * C + (q.2 % (C : Int)).toNat < 6 * C := fun q hq => by
    have h6 := ok.h6
    have h1 := Int.emod_lt_of_pos q.2 (show (0 : Int) < C by omega)
    have h0 := Int.emod_nonneg q.2 (show (C : Int) ≠ 0 by omega)
    have h2 : (q.1 + 1) * C ≤ 6 * C := Nat.mul_le_mul_right C (by omega)
    rw [Nat.add_mul, Nat.one_mul] at h2
    omega
  have hnd : ((List.range n).map fun i => (fun q : Nat × Int => q.1 * C + (q.2 % (C : Int)).toNat) (P.getD i (0, 0))).Nodup := map_nodup fun i j hij hj e => by
    have hi : i < P.length := by rw [x.len]; omega
    have hj' : j < P.length := by rw [x.len]; omega
    have e1 : P[i]? = some (P.getD i (0, 0)) := by rw [List.getD_eq_getElem?_getD, List.getElem?_eq_getElem hi]; rfl
    have e2 : P[j]? = some (P.getD j (0, 0)) := by rw [List.getD_eq_getElem?_getD, List.getElem?_eq_getElem hj']; rfl
    refine x.nd i j _ _ hij e1 e2 ?_
    generalize P.getD i (0, 0) = q at e
    generalize P.getD j (0, 0) = r at e
    have e : q.1 * C + (q.2 % (C : Int)).toNat = r.1 * C + (r.2 % (C : Int)).toNat := e
    have a1 := Int.emod_lt_of_pos q.2 (show (0 : Int) < C by omega)
    have a0 := Int.emod_nonneg q.2 (show (C : Int) ≠ 0 by omega)
    have b1 := Int.emod_lt_of_pos r.2 (show (0 : Int) < C by omega)
    have b0 := Int.emod_nonneg r.2 (show (C : Int) ≠ 0 by omega)
    have hq : q.1 = r.1 := by
      rcases Nat.lt_trichotomy q.1 r.1 with z | z | z
      · have : (q.1 + 1) * C ≤ r.1 * C := Nat.mul_le_mul_right C (by omega)
        rw [Nat.add_mul, Nat.one_mul] at this; omega
      · exact z
      · have : (r.1 + 1) * C ≤ q.1 * C := Nat.mul_le_mul_right C (by omega)
        rw [Nat.add_mul, Nat.one_mul] at this; omega
    unfold plK
    rw [hCC, hq]
    rw [hq] at e
    have : q.2 % (C : Int) = r.2 % (C : Int) := by omega
    rw [this]
  have := sub_len hnd (l2 := List.range (6 * C)) fun z hz => by
    obtain ⟨i, hi, rfl⟩ := List.mem_map.mp hz
    have hi := List.mem_range.mp hi
    have hi' : i < P.length := by rw [x.len]; omega
    refine List.mem_range.mpr (code _ (x.ge _ ?_).2)
    rw [List.getD_eq_getElem?_getD, List.getElem?_eq_getElem hi']
    exact List.getElem_mem hi'
  simp only [List.length_map, List.length_range] at this
  omega
theorem tw0 {h : AH} {a b : Cell} : (h ++ [a, b])[h.length]? = some a := by rw [List.getElem?_append_right (Nat.le_refl _)]; simp
theorem tw1 {h : AH} {a b : Cell} : (h ++ [a, b])[h.length + 1]? = some b := by rw [List.getElem?_append_right (by omega)]; simp
theorem ts0 {h : AH} {a b c : Cell} : (h ++ [a, b]).set h.length c = h ++ [c, b] := by rw [List.set_append_right _ _ (Nat.le_refl _)]; simp
theorem ts1 {h : AH} {a b c : Cell} : (h ++ [a, b]).set (h.length + 1) c = h ++ [a, c] := by rw [List.set_append_right _ _ (by omega)]; simp
theorem appL {h l : AH} {n : Nat} {c : Cell} (e : h[n]? = some c) : (h ++ l)[n]? = some c := by rw [List.getElem?_append_left (List.getElem?_eq_some_iff.mp e).1]; exact e
theorem stT_cases {w : Web} {base : Int} (s : St) : (stT w base s = .non ∧ src w base s = s) ∨ ∃ o b' t, stepW w s.k s.b = some (o, b', t) ∧ base ≤ s.b ∧ stT w base s = .tup [.int (o : Int), .int b', tupN t] := by
  unfold stT
  by_cases q : s.b < base
  · exact .inl ⟨by rw [if_pos q], src_stop (.inl q)⟩
  · rw [if_neg q]
    cases e : stepW w s.k s.b with
    | none => exact .inl ⟨rfl, src_stop (.inr (by unfold stepS; rw [e]; rfl))⟩
    | some x => obtain ⟨o, b', t⟩ := x; exact .inr ⟨o, b', t, rfl, by omega, rfl⟩
theorem src_one {w : Web} (ok : WebOk w) {base : Int} {s : St} {o : Nat} {b' : Int} {t : List Nat} (e : stepW w s.k s.b = some (o, b', t)) (hb : base ≤ s.b) : src w base s = src w base ⟨o, b', compN t s.t, s.c + 1⟩ :=
  src_step ok hb (by unfold stepS; rw [e]; rfl)
end TL

namespace TL
open PySem PySem.Spec PyProof.Rows L2
local macro_rules | `(tactic| walk_at "tl") => `(tactic| simp only [got_some, got_if, slot_0, slot_s, br_t, br_f, br_n, asB_b, asI_i, asI1_i, asI2_i, two_2, one_1, head_c, x_indexT, x_tupRgF, tupF_l, asT_f, asQ_f, isi_ftp, len_f, ix_f, walks_ftp, gtL_i, x_var, x_c, x_bin, x_nil, x_cons, x_tup, x_lstF, x_lstC, x_tru, x_tb, x_notT, x_andT, x_orT, x_not, x_and, x_or, x_if, x_chain, x_neg, x_callN, x_isi, x_po0, x_po, x_sl, x_rev, x_frz, x_listC, x_r1, x_tupRg, x_lstRgC, x_dict0, x_dictII, x_bm, x_app, x_popAt, eq_i, ne_i, eq_s, ne_s, len_tupN, walks_tupN, x_call, x_compF, x_compC, x_yes, x_rg1, x_rg2, x_itS, walks_tup, walks_lst, walks_scr, x_seq, x_skip, x_break, x_cont, x_expr, x_ret, x_retN, x_ifS, x_asg, x_nm, x_gnils, x_gcons, x_gtu, x_gsub, mulT_i, mulU_i, x_fld, x_fldPut, x_fldAug, x_meth, x_make, x_callD, x_callK, x_countD, x_indexD, x_lenSet, powB_i, min3_i, x_raise, x_rg3, asI3_i, x_sorted, x_sortedUp, x_enumZ, x_minD, x_minP, x_frzD, x_pre, x_dict3, x_dget2, eqNil_f, neNilL_f, eqNilL_f, x_setI, notInI_f, x_itemsT, isF_f, x_try, x_tryAs, x_isE, x_par3, three_3, mulL_l, x_mulC, asR_l, x_rg2B, isB_b, x_gtuL, x_gsta, sta_c, x_zip,  x_index,  x_enum, enums_tup, enums_lst, enums_scr, mulS_i,  x_com2F, x_gsubD, x_dict0T, x_dict0N, int_i, int_b, keysOf_tupN, x_par, x_aug, x_for, x_never, x_wipe0, x_wipe, add_i, add_t, add_l, add_scr, add_s, sub_i, mul_i, div_i, mod_i, pow_i, cmp_i, asQ_t, asQ_l, asQ_s, asL_l, asL_s, asL_t, asT_t, ix_t, ix_l, ix_s, len_t, len_l, len_s, tupleOf_l, tupleOf_t, listOf_t, listOf_l, max2_i, min2_i, sl_t, sl_l, sl_s, rev_t, rev_l, tru_b, tru_i, ty_non, ty_bl, ty_int, ty_str, ty_tup, ty_lst, List.map_cons, List.map_nil, List.cons_append, List.nil_append, List.append_nil, List.set_cons_zero, List.set_cons_succ, List.length_cons, List.length_nil, List.replicate_succ, List.replicate_zero, Nat.sub_self, Nat.zero_add, Nat.reduceAdd, Nat.reduceSub, Nat.reduceLeDiff, Bool.not_true, Bool.not_false, true_and, and_true, if_true, decide_true, decide_false, EndsT.xe, List.reduceReplicate, Nat.le_refl, Nat.zero_le])
def pastsT (w : Web) : T := .tup (w.before.map past12)
theorem clo_pasts {k : Nat} (w : Web) : T.clo k (pastsT w) = true := by
  unfold pastsT
  simp only [T.clo]
  exact clos_of fun t ht => by obtain ⟨d, _, rfl⟩ := List.mem_map.mp ht; exact clo_tupN
def dueT (s : St) : T := .tup [.int (s.k : Int), .int (if s.b > -1 then s.b else -1), tupN s.t, .int (s.c : Int)]
theorem clo_due {k : Nat} (s : St) : T.clo k (dueT s) = true := by simp only [dueT, T.clo, T.clos, clo_tupN, Bool.and_true]
def src0 (w : Web) (k : Nat) (b : Int) : St := src w 0 ⟨k, b, List.range w.many, 0⟩
theorem srcF_inv {w : Web} {base : Int} {P : St → Prop} (hs : ∀ s s', P s → base ≤ s.b → stepS w s = some s' → P s') : ∀ (n : Nat) (s : St), P s → P (srcF w base n s)
  | 0, s, h => h
  | n + 1, s, h => by
    unfold srcF
    by_cases q : s.b < base
    · rw [if_pos q]; exact h
    · rw [if_neg q]
      cases e : stepS w s with
      | none => exact h
      | some s' => exact srcF_inv hs n s' (hs s s' h (by omega) e)
structure SrcOk (w : Web) (base b : Int) (s : St) : Prop where
  t : IsTurn w.many s.t
  k : s.k < w.hands.length
  le : s.b ≤ b
  ge : base - 12 ≤ s.b
  c : (s.c : Int) ≤ b - s.b
theorem src_ok {w : Web} (ok : WebOk w) {base b : Int} {k : Nat} (hk : k < w.hands.length) (hb : base - 12 ≤ b) : SrcOk w base b (src w base ⟨k, b, List.range w.many, 0⟩) := by
  refine srcF_inv (P := SrcOk w base b) (fun s s' x hbs e => ?_) _ _ ⟨range_turn _, hk, Int.le_refl _, hb, by show ((0 : Nat) : Int) ≤ b - b; omega⟩
  unfold stepS at e
  obtain ⟨⟨o, b', t⟩, e2, rfl⟩ := Option.map_eq_some_iff.mp e
  have so := step_ok ok e2
  have h1 := x.le
  have h2 := x.c
  refine ⟨comp_turn so.2.2.2 x.t, so.1, ?_, ?_, ?_⟩
  · show b' ≤ b; omega
  · show base - 12 ≤ b'; omega
  · show ((s.c + 1 : Nat) : Int) ≤ b - b'; omega
theorem dt_due {w : Web} (ok : WebOk w) {base b : Int} {s : St} (x : SrcOk w base b s) (hb : b < 10 ^ 30) (hb0 : -10 ^ 30 < base) : Dt 3 2000 (dueT s) := by
  have d := dt_tupN (L := 9) (xs := s.t) (by rw [x.t.1]; exact ok.m9) (turn_small x.t (by have := ok.m9; omega))
  have h1 := x.k
  have h2 := ok.h6
  have h3 := x.le
  have h4 := x.ge
  have h5 := x.c
  refine (dt_tup (k := 2) (c := 399) (L := 4) ?_ (Nat.le_refl _)).mono (by omega) (by omega)
  rintro t (_ | ⟨_, _ | ⟨_, _ | ⟨_, _ | ⟨_, ⟨⟩⟩⟩⟩⟩)
  · exact (dt_int (by omega)).mono (by omega) (by omega)
  · refine (dt_int ?_).mono (by omega) (by omega)
    split <;> omega
  · exact d.mono (by omega) (by omega)
  · exact (dt_int (by omega)).mono (by omega) (by omega)
theorem rule_0' {h : AH} (r : Rule) : opIx h (ruleT r) (.int 0) = some (.int (r.every : Int)) := rfl
theorem rule_1' {h : AH} (r : Rule) : opIx h (ruleT r) (.int 1) = some (.int (r.at_ : Int)) := rfl
end TL

namespace TL
open PySem PySem.Spec PyProof.Rows L2
local macro_rules | `(tactic| walk_at "tl") => `(tactic| simp only [got_some, got_if, slot_0, slot_s, br_t, br_f, br_n, asB_b, asI_i, asI1_i, asI2_i, two_2, one_1, head_c, x_indexT, x_tupRgF, tupF_l, asT_f, asQ_f, isi_ftp, len_f, ix_f, walks_ftp, gtL_i, x_var, x_c, x_bin, x_nil, x_cons, x_tup, x_lstF, x_lstC, x_tru, x_tb, x_notT, x_andT, x_orT, x_not, x_and, x_or, x_if, x_chain, x_neg, x_callN, x_isi, x_po0, x_po, x_sl, x_rev, x_frz, x_listC, x_r1, x_tupRg, x_lstRgC, x_dict0, x_dictII, x_bm, x_app, x_popAt, eq_i, ne_i, eq_s, ne_s, len_tupN, walks_tupN, x_call, x_compF, x_compC, x_yes, x_rg1, x_rg2, x_itS, walks_tup, walks_lst, walks_scr, x_seq, x_skip, x_break, x_cont, x_expr, x_ret, x_retN, x_ifS, x_asg, x_nm, x_gnils, x_gcons, x_gtu, x_gsub, mulT_i, mulU_i, x_fld, x_fldPut, x_fldAug, x_meth, x_make, x_callD, x_callK, x_countD, x_indexD, x_lenSet, powB_i, min3_i, x_raise, x_rg3, asI3_i, x_sorted, x_sortedUp, x_enumZ, x_minD, x_minP, x_frzD, x_pre, x_dict3, x_dget2, eqNil_f, neNilL_f, eqNilL_f, x_setI, notInI_f, x_itemsT, isF_f, x_try, x_tryAs, x_isE, x_par3, three_3, mulL_l, x_mulC, asR_l, x_rg2B, isB_b, x_gtuL, x_gsta, sta_c, x_zip,  x_index,  x_enum, enums_tup, enums_lst, enums_scr, mulS_i,  x_com2F, x_gsubD, x_dict0T, x_dict0N, int_i, int_b, keysOf_tupN, x_par, x_aug, x_for, x_never, x_wipe0, x_wipe, add_i, add_t, add_l, add_scr, add_s, sub_i, mul_i, div_i, mod_i, pow_i, cmp_i, asQ_t, asQ_l, asQ_s, asL_l, asL_s, asL_t, asT_t, ix_t, ix_l, ix_s, len_t, len_l, len_s, tupleOf_l, tupleOf_t, listOf_t, listOf_l, max2_i, min2_i, sl_t, sl_l, sl_s, rev_t, rev_l, tru_b, tru_i, ty_non, ty_bl, ty_int, ty_str, ty_tup, ty_lst, List.map_cons, List.map_nil, List.cons_append, List.nil_append, List.append_nil, List.set_cons_zero, List.set_cons_succ, List.length_cons, List.length_nil, List.replicate_succ, List.replicate_zero, Nat.sub_self, Nat.zero_add, Nat.reduceAdd, Nat.reduceSub, Nat.reduceLeDiff, Bool.not_true, Bool.not_false, true_and, and_true, if_true, decide_true, decide_false, EndsT.xe, List.reduceReplicate, Nat.le_refl, Nat.zero_le])
/-- an own rule's doing at a beat -/
def ownN (row : List Nat) (every : Nat) (b : Int) : Nat := row.getD (b / (every : Int) % (row.length : Int)).toNat 0
/-- what a hand does by the own rule that holds at a beat -/
def ownAt (w : Web) (k : Nat) (b : Int) : Nat :=
  match w.hands[k]? with
  | none => 0
  | some rs => match rs[ruleN rs b]? with
    | none => 0
    | some r => match r.what with
      | .own row => ownN row r.every b
      | .copy _ _ _ => 0
def pastsP (ps : List (List Nat)) : T := .tup (ps.map tupN)
structure PastsOk (w : Web) (ps : List (List Nat)) : Prop where
  len : ps.length = w.hands.length
  l12 : ∀ p ∈ ps, p.length = 12 ∧ ∀ x ∈ p, x < w.many
/-- what is done at a place where no copy leads on -/
def atEnd (w : Web) (base : Int) (ps : List (List Nat)) (k : Nat) (b : Int) : Nat := if b < base then (ps.getD k []).getD (base - b - 1).toNat 0 else ownAt w k b
/-- what a hand does at a beat of a ground -/
def doingN (w : Web) (base : Int) (ps : List (List Nat)) (k : Nat) (b : Int) : Nat :=
  let s := src w base ⟨k, b, List.range w.many, 0⟩
  s.t.getD (atEnd w base ps s.k s.b) 0
theorem own_lt {w : Web} (ok : WebOk w) {base b : Int} {k : Nat} (hk : k < w.hands.length) (hb : ¬ b < base) (h : stepW w k b = none) : ∃ r row, w.hands[k]? = some w.hands[k] ∧ w.hands[k][ruleN w.hands[k] b]? = some r ∧ r.what = .own row ∧ RuleOk w.many w.hands.length r ∧ ownAt w k b = ownN row r.every b ∧ ownN row r.every b < w.many := by
  have ek : w.hands[k]? = some w.hands[k] := List.getElem?_eq_getElem hk
  have hok := ok.hs _ (List.getElem_mem hk)
  have hr : w.hands[k][ruleN w.hands[k] b]? = some (w.hands[k][ruleN w.hands[k] b]'(rule_lt hok b)) := List.getElem?_eq_getElem (rule_lt hok b)
  generalize w.hands[k][ruleN w.hands[k] b]'(rule_lt hok b) = ru at hr
  have hru := hok.2.1 ru (List.mem_of_getElem? hr)
  cases hw : ru.what with
  | copy o ago t =>
    exfalso
    unfold stepW at h
    simp only [ek, hr, hw] at h
    cases h
  | own row =>
    refine ⟨ru, row, ek, hr, hw, hru, ?_, ?_⟩
    · unfold ownAt
      simp only [ek, hr, hw]
    · have wk := hru.2.2.2
      rw [hw] at wk
      have l1 := wk.1
      have h1 := Int.emod_lt_of_pos (b / (ru.every : Int)) (show (0 : Int) < row.length by omega)
      have h0 := Int.emod_nonneg (b / (ru.every : Int)) (show (row.length : Int) ≠ 0 by omega)
      unfold ownN
      rw [List.getD_eq_getElem?_getD, List.getElem?_eq_getElem (by omega)]
      exact wk.2.2 _ (List.getElem_mem _)
/-- where a doing began no copy leads on -/
theorem src_end {w : Web} (ok : WebOk w) {base : Int} (s : St) : (src w base s).b < base ∨ stepW w (src w base s).k (src w base s).b = none := by
  have go : ∀ (n : Nat) (s : St), (s.b - base + 1).toNat ≤ n → (srcF w base n s).b < base ∨ stepW w (srcF w base n s).k (srcF w base n s).b = none := by
    intro n
    induction n with
    | zero => intro s h; exact .inl (by show s.b < base; omega)
    | succ n ih =>
      intro s h
      unfold srcF
      by_cases q : s.b < base
      · rw [if_pos q]; exact .inl q
      · rw [if_neg q]
        cases e : stepS w s with
        | none =>
          refine .inr ?_
          unfold stepS at e
          exact Option.map_eq_none_iff.mp e
        | some s' =>
          have := stepS_le ok e
          exact ih s' (by omega)
  exact go _ s (Nat.le_refl _)
theorem past_at {w : Web} {ps : List (List Nat)} (hp : PastsOk w ps) {k : Nat} (hk : k < w.hands.length) : atI (ps.map tupN) (k : Int) = some (tupN (ps.getD k [])) ∧ (ps.getD k []).length = 12 ∧ ∀ x ∈ ps.getD k [], x < w.many := by
  have hl : k < ps.length := by rw [hp.len]; exact hk
  have e : ps.getD k [] = ps[k] := by rw [List.getD_eq_getElem?_getD, List.getElem?_eq_getElem hl]; rfl
  rw [e]
  exact ⟨atI_map hl, hp.l12 _ (List.getElem_mem hl)⟩
theorem getD_mem_lt {xs : List Nat} {m i : Nat} (h : ∀ x ∈ xs, x < m) (hi : i < xs.length) : xs.getD i 0 < m := by
  rw [List.getD_eq_getElem?_getD, List.getElem?_eq_getElem hi]
  exact h _ (List.getElem_mem hi)
def pasts0 (w : Web) : List (List Nat) := w.before.map (List.replicate 12)
theorem pasts0_T (w : Web) : pastsT w = pastsP (pasts0 w) := by
  unfold pastsT pastsP pasts0
  rw [List.map_map]; rfl
theorem pasts0_ok {w : Web} (ok : WebOk w) : PastsOk w (pasts0 w) := by
  refine ⟨by unfold pasts0; rw [List.length_map]; exact ok.bl, fun p hp => ?_⟩
  obtain ⟨d, hd, rfl⟩ := List.mem_map.mp hp
  exact ⟨List.length_replicate, fun x hx => by rw [List.eq_of_mem_replicate hx]; exact ok.bd d hd⟩
def sceneN (w : Web) (base : Int) (ps : List (List Nat)) (b : Int) : List Nat := (List.range w.hands.length).map fun k => doingN w base ps k b
end TL

namespace TL
open PySem PySem.Spec PyProof.Rows L2
local macro_rules | `(tactic| walk_at "tl") => `(tactic| simp only [got_some, got_if, slot_0, slot_s, br_t, br_f, br_n, asB_b, asI_i, asI1_i, asI2_i, two_2, one_1, head_c, x_indexT, x_tupRgF, tupF_l, asT_f, asQ_f, isi_ftp, len_f, ix_f, walks_ftp, gtL_i, x_var, x_c, x_bin, x_nil, x_cons, x_tup, x_lstF, x_lstC, x_tru, x_tb, x_notT, x_andT, x_orT, x_not, x_and, x_or, x_if, x_chain, x_neg, x_callN, x_isi, x_po0, x_po, x_sl, x_rev, x_frz, x_listC, x_r1, x_tupRg, x_lstRgC, x_dict0, x_dictII, x_bm, x_app, x_popAt, eq_i, ne_i, eq_s, ne_s, len_tupN, walks_tupN, x_call, x_compF, x_compC, x_yes, x_rg1, x_rg2, x_itS, walks_tup, walks_lst, walks_scr, x_seq, x_skip, x_break, x_cont, x_expr, x_ret, x_retN, x_ifS, x_asg, x_nm, x_gnils, x_gcons, x_gtu, x_gsub, mulT_i, mulU_i, x_fld, x_fldPut, x_fldAug, x_meth, x_make, x_callD, x_callK, x_countD, x_indexD, x_lenSet, powB_i, min3_i, x_raise, x_rg3, asI3_i, x_sorted, x_sortedUp, x_enumZ, x_minD, x_minP, x_frzD, x_pre, x_dict3, x_dget2, eqNil_f, neNilL_f, eqNilL_f, x_setI, notInI_f, x_itemsT, isF_f, x_try, x_tryAs, x_isE, x_par3, three_3, mulL_l, x_mulC, asR_l, x_rg2B, isB_b, x_gtuL, x_gsta, sta_c, x_zip,  x_index,  x_enum, enums_tup, enums_lst, enums_scr, mulS_i,  x_com2F, x_gsubD, x_dict0T, x_dict0N, int_i, int_b, keysOf_tupN, x_par, x_aug, x_for, x_never, x_wipe0, x_wipe, add_i, add_t, add_l, add_scr, add_s, sub_i, mul_i, div_i, mod_i, pow_i, cmp_i, asQ_t, asQ_l, asQ_s, asL_l, asL_s, asL_t, asT_t, ix_t, ix_l, ix_s, len_t, len_l, len_s, tupleOf_l, tupleOf_t, listOf_t, listOf_l, max2_i, min2_i, sl_t, sl_l, sl_s, rev_t, rev_l, tru_b, tru_i, ty_non, ty_bl, ty_int, ty_str, ty_tup, ty_lst, List.map_cons, List.map_nil, List.cons_append, List.nil_append, List.append_nil, List.set_cons_zero, List.set_cons_succ, List.length_cons, List.length_nil, List.replicate_succ, List.replicate_zero, Nat.sub_self, Nat.zero_add, Nat.reduceAdd, Nat.reduceSub, Nat.reduceLeDiff, Bool.not_true, Bool.not_false, true_and, and_true, if_true, decide_true, decide_false, EndsT.xe, List.reduceReplicate, Nat.le_refl, Nat.zero_le])
/-- a doing, one step back: by an own rule, by the copied hand's doing -/
theorem doing_own {w : Web} {base : Int} {ps : List (List Nat)} {k : Nat} {b : Int} (hb : base ≤ b) (h : stepW w k b = none) (hl : ownAt w k b < w.many) : doingN w base ps k b = ownAt w k b := by
  have es : src w base ⟨k, b, List.range w.many, 0⟩ = ⟨k, b, List.range w.many, 0⟩ := src_stop (.inr (by unfold stepS; rw [h]; rfl))
  unfold doingN
  simp only [es]
  unfold atEnd
  rw [if_neg (by omega), List.getD_eq_getElem?_getD, List.getElem?_range hl]; rfl
theorem doing_past {w : Web} {base : Int} {ps : List (List Nat)} {k : Nat} {b : Int} (hb : b < base) (hl : (ps.getD k []).getD (base - b - 1).toNat 0 < w.many) : doingN w base ps k b = (ps.getD k []).getD (base - b - 1).toNat 0 := by
  have es : src w base ⟨k, b, List.range w.many, 0⟩ = ⟨k, b, List.range w.many, 0⟩ := src_stop (.inl hb)
  unfold doingN
  simp only [es]
  unfold atEnd
  rw [if_pos hb, List.getD_eq_getElem?_getD, List.getElem?_range hl]; rfl
/-- a turn ahead of the walk stays behind its turn -/
theorem src_comp {w : Web} (ok : WebOk w) {base : Int} {t : List Nat} (ht : IsTurn w.many t) : ∀ (n : Nat) (k : Nat) (b : Int) (u : List Nat) (c c' : Nat), IsTurn w.many u →
    (srcF w base n ⟨k, b, compN u t, c⟩).t = compN (srcF w base n ⟨k, b, u, c'⟩).t t ∧ (srcF w base n ⟨k, b, compN u t, c⟩).k = (srcF w base n ⟨k, b, u, c'⟩).k ∧ (srcF w base n ⟨k, b, compN u t, c⟩).b = (srcF w base n ⟨k, b, u, c'⟩).b
  | 0, k, b, u, c, c', hu => ⟨rfl, rfl, rfl⟩
  | n + 1, k, b, u, c, c', hu => by
    unfold srcF
    by_cases q : b < base
    · rw [if_pos q, if_pos q]; exact ⟨rfl, rfl, rfl⟩
    · rw [if_neg q, if_neg q]
      unfold stepS
      simp only
      cases e : stepW w k b with
      | none => exact ⟨rfl, rfl, rfl⟩
      | some p =>
        obtain ⟨o, b', tn⟩ := p
        have so := step_ok ok e
        simp only [Option.map_some]
        have ih := src_comp ok (base := base) ht n o b' (compN tn u) (c + 1) (c' + 1) (comp_turn so.2.2.2 hu)
        rw [comp_assoc so.2.2.2 hu] at ih
        exact ih
theorem doing_copy {w : Web} (ok : WebOk w) {base : Int} {ps : List (List Nat)} {k : Nat} {b : Int} (hb : base ≤ b) {o : Nat} {b' : Int} {t : List Nat} (h : stepW w k b = some (o, b', t)) (hl : atEnd w base ps (src w base ⟨o, b', List.range w.many, 0⟩).k (src w base ⟨o, b', List.range w.many, 0⟩).b < w.many) (hb' : base - 12 ≤ b') :
    doingN w base ps k b = t.getD (doingN w base ps o b') 0 := by
  have so := step_ok ok h
  have e1 : src w base ⟨k, b, List.range w.many, 0⟩ = src w base ⟨o, b', compN t (List.range w.many), 1⟩ := src_one ok (s := ⟨k, b, List.range w.many, 0⟩) h hb
  have e2 : compN t (List.range w.many) = compN (List.range w.many) t := by rw [comp_id_right so.2.2.2, comp_id_left so.2.2.2]
  rw [e2] at e1
  have sc := src_comp ok (base := base) so.2.2.2 (b' - base + 1).toNat o b' (List.range w.many) 1 0 (range_turn _)
  have so2 := src_ok ok (base := base) (b := b') so.1 hb'
  unfold doingN
  simp only [e1]
  have f1 : src w base ⟨o, b', compN (List.range w.many) t, 1⟩ = srcF w base (b' - base + 1).toNat ⟨o, b', compN (List.range w.many) t, 1⟩ := rfl
  have f2 : src w base ⟨o, b', List.range w.many, 0⟩ = srcF w base (b' - base + 1).toNat ⟨o, b', List.range w.many, 0⟩ := rfl
  rw [← f1, ← f2] at sc
  obtain ⟨s1, s2, s3⟩ := sc
  rw [s1, s2, s3]
  exact comp_getD (by rw [so2.t.1]; exact hl)
theorem atEnd_lt {w : Web} (ok : WebOk w) {base b : Int} {ps : List (List Nat)} (hp : PastsOk w ps) {s : St} (so : SrcOk w base b s) (se : s.b < base ∨ stepW w s.k s.b = none) : atEnd w base ps s.k s.b < w.many := by
  unfold atEnd
  by_cases q : s.b < base
  · rw [if_pos q]
    obtain ⟨_, l12, lt⟩ := past_at hp so.k
    have := so.ge
    exact getD_mem_lt lt (by omega)
  · rw [if_neg q]
    obtain ⟨_, _, _, _, _, _, eo, lo⟩ := own_lt ok so.k q (se.resolve_left q)
    rw [eo]; exact lo
theorem doing_lt {w : Web} (ok : WebOk w) {base b : Int} {ps : List (List Nat)} (hp : PastsOk w ps) {k : Nat} (hk : k < w.hands.length) (hb : base - 12 ≤ b) : doingN w base ps k b < w.many := by
  have so := src_ok ok (base := base) (b := b) hk hb
  exact getD_lt so.t (atEnd_lt ok hp so (src_end ok _))
theorem doing_step {w : Web} (ok : WebOk w) {base b : Int} {ps : List (List Nat)} (hp : PastsOk w ps) {k : Nat} (hb : base ≤ b) {o : Nat} {b' : Int} {t : List Nat} (h : stepW w k b = some (o, b', t)) : doingN w base ps k b = t.getD (doingN w base ps o b') 0 := by
  have so := step_ok ok h
  have s2 := src_ok ok (base := base) (b := b') so.1 (by omega)
  exact doing_copy ok hb h (atEnd_lt ok hp s2 (src_end ok _)) (by omega)
theorem own_done {w : Web} (ok : WebOk w) {j i : Nat} {rs : List Rule} {ru : Rule} {row : List Nat} (ek : w.hands[j]? = some rs) (hr : rs[ruleN rs (i : Int)]? = some ru) (hw : ru.what = .own row) : doingN w 0 (pasts0 w) j (i : Int) = ownN row ru.every (i : Int) ∧ ownN row ru.every (i : Int) = row.getD (i / ru.every % row.length) 0 ∧ i / ru.every % row.length < row.length := by
  have hru := (ok.hs _ (List.mem_of_getElem? ek)).2.1 ru (List.mem_of_getElem? hr)
  have wk := hru.2.2.2
  rw [hw] at wk
  have l1 := wk.1
  have es : stepW w j (i : Int) = none := by
    unfold stepW
    simp only [ek, hr, hw]
  have eo : ownAt w j (i : Int) = ownN row ru.every (i : Int) := by
    unfold ownAt
    simp only [ek, hr, hw]
  have e2 : ownN row ru.every (i : Int) = row.getD (i / ru.every % row.length) 0 := by
    unfold ownN
    rw [← Int.natCast_ediv, ← Int.natCast_emod, Int.toNat_natCast]
  have lt : i / ru.every % row.length < row.length := Nat.mod_lt _ (by omega)
  have ho : ownN row ru.every (i : Int) < w.many := by
    rw [e2]; exact getD_mem_lt wk.2.2 lt
  exact ⟨by rw [doing_own (by omega) es (by rw [eo]; exact ho), eo], e2, lt⟩
theorem past_done {w : Web} (ok : WebOk w) {o : Nat} (ho : o < w.hands.length) {b : Int} (hb : b < 0) (h12 : -12 ≤ b) : doingN w 0 (pasts0 w) o b = w.before.getD o 0 := by
  have hl : o < w.before.length := by rw [ok.bl]; exact ho
  have e : (pasts0 w).getD o [] = List.replicate 12 (w.before.getD o 0) := by
    unfold pasts0
    rw [List.getD_eq_getElem?_getD, List.getElem?_map, List.getD_eq_getElem?_getD, List.getElem?_eq_getElem hl]; rfl
  have e2 : ((pasts0 w).getD o []).getD (0 - b - 1).toNat 0 = w.before.getD o 0 := by
    rw [e, List.getD_eq_getElem?_getD, List.getElem?_replicate, if_pos (by omega)]; rfl
  rw [doing_past hb (by rw [e2]; exact getD_mem_lt ok.bd hl), e2]
/-- a turn ahead and a copy more stay behind the walk -/
theorem srcF_shift {w : Web} (ok : WebOk w) {base : Int} {t : List Nat} (ht : IsTurn w.many t) : ∀ (n : Nat) (k : Nat) (b : Int) (u : List Nat) (c : Nat), IsTurn w.many u →
    srcF w base n ⟨k, b, compN u t, c + 1⟩ = ⟨(srcF w base n ⟨k, b, u, c⟩).k, (srcF w base n ⟨k, b, u, c⟩).b, compN (srcF w base n ⟨k, b, u, c⟩).t t, (srcF w base n ⟨k, b, u, c⟩).c + 1⟩
  | 0, k, b, u, c, hu => rfl
  | n + 1, k, b, u, c, hu => by
    unfold srcF
    by_cases q : b < base
    · rw [if_pos q, if_pos q]
    · rw [if_neg q, if_neg q]
      unfold stepS
      simp only
      cases e : stepW w k b with
      | none => rfl
      | some p =>
        obtain ⟨o, b', tn⟩ := p
        have so := step_ok ok e
        simp only [Option.map_some]
        have ih := srcF_shift ok (base := base) ht n o b' (compN tn u) (c + 1) (comp_turn so.2.2.2 hu)
        rw [comp_assoc so.2.2.2 hu] at ih
        exact ih
theorem src0_copy {w : Web} (ok : WebOk w) {k : Nat} {b : Int} (hb : 0 ≤ b) {o : Nat} {b' : Int} {t : List Nat} (h : stepW w k b = some (o, b', t)) : src0 w k b = ⟨(src0 w o b').k, (src0 w o b').b, compN (src0 w o b').t t, (src0 w o b').c + 1⟩ := by
  have so := step_ok ok h
  have e1 : src w 0 ⟨k, b, List.range w.many, 0⟩ = src w 0 ⟨o, b', compN t (List.range w.many), 1⟩ := src_one ok (s := ⟨k, b, List.range w.many, 0⟩) h hb
  have e2 : compN t (List.range w.many) = compN (List.range w.many) t := by rw [comp_id_right so.2.2.2, comp_id_left so.2.2.2]
  rw [e2] at e1
  show src w 0 ⟨k, b, List.range w.many, 0⟩ = _
  rw [e1]
  exact srcF_shift ok so.2.2.2 _ o b' (List.range w.many) 0 (range_turn _)
theorem past_getD {w : Web} {o : Nat} (ho : o < w.before.length) {b : Int} (hb : b < 0) (h12 : -12 ≤ b) : ((pasts0 w).getD o []).getD (0 - b - 1).toNat 0 = w.before.getD o 0 := by
  have e : (pasts0 w).getD o [] = List.replicate 12 (w.before.getD o 0) := by
    unfold pasts0
    rw [List.getD_eq_getElem?_getD, List.getElem?_map, List.getD_eq_getElem?_getD, List.getElem?_eq_getElem ho]; rfl
  rw [e, List.getD_eq_getElem?_getD, List.getElem?_replicate, if_pos (by omega)]; rfl
/-- a doing by its source below beat 0 -/
theorem doing_below {w : Web} (ok : WebOk w) {k : Nat} (hk : k < w.hands.length) {b : Int} (hb : 0 ≤ b) (hs : (src0 w k b).b < 0) : doingN w 0 (pasts0 w) k b = (src0 w k b).t.getD (w.before.getD (src0 w k b).k 0) 0 := by
  have so := src_ok ok (base := 0) (b := b) hk (by omega)
  have ge := so.ge
  show (src0 w k b).t.getD (atEnd w 0 (pasts0 w) (src0 w k b).k (src0 w k b).b) 0 = _
  unfold atEnd
  rw [if_pos hs, past_getD (by rw [ok.bl]; exact so.k) hs (by unfold src0 at hs ⊢; omega)]
theorem doing_above {w : Web} {k : Nat} {b : Int} (hs : ¬ (src0 w k b).b < 0) : doingN w 0 (pasts0 w) k b = (src0 w k b).t.getD (ownAt w (src0 w k b).k (src0 w k b).b) 0 := by
  show (src0 w k b).t.getD (atEnd w 0 (pasts0 w) (src0 w k b).k (src0 w k b).b) 0 = _
  unfold atEnd
  rw [if_neg hs]
/-- the same web with another before -/
def Web.with_ (w : Web) (bf : List Nat) : Web := ⟨w.many, bf, w.hands⟩
theorem with_ok {w : Web} (ok : WebOk w) {bf : List Nat} (hl : bf.length = w.hands.length) (hd : ∀ x ∈ bf, x < w.many) : WebOk (w.with_ bf) := ⟨ok.m1, ok.m9, ok.h1, ok.h6, hl, hd, ok.hs, ok.ck⟩
theorem stepS_with {w : Web} {bf : List Nat} {s : St} : stepS (w.with_ bf) s = stepS w s := rfl
theorem srcF_with {w : Web} {bf : List Nat} {base : Int} : ∀ (n : Nat) (s : St), srcF (w.with_ bf) base n s = srcF w base n s
  | 0, s => rfl
  | n + 1, s => by
    unfold srcF
    by_cases q : s.b < base
    · rw [if_pos q, if_pos q]
    · rw [if_neg q, if_neg q, stepS_with]
      cases stepS w s with
      | none => rfl
      | some s' => exact srcF_with n s'
theorem src0_with {w : Web} {bf : List Nat} {k : Nat} {b : Int} : src0 (w.with_ bf) k b = src0 w k b := srcF_with _ _
end TL

namespace TL
open PySem PySem.Spec PyProof.Rows L2
local macro_rules | `(tactic| walk_at "tl") => `(tactic| simp only [got_some, got_if, slot_0, slot_s, br_t, br_f, br_n, asB_b, asI_i, asI1_i, asI2_i, two_2, one_1, head_c, x_indexT, x_tupRgF, tupF_l, asT_f, asQ_f, isi_ftp, len_f, ix_f, walks_ftp, gtL_i, x_var, x_c, x_bin, x_nil, x_cons, x_tup, x_lstF, x_lstC, x_tru, x_tb, x_notT, x_andT, x_orT, x_not, x_and, x_or, x_if, x_chain, x_neg, x_callN, x_isi, x_po0, x_po, x_sl, x_rev, x_frz, x_listC, x_r1, x_tupRg, x_lstRgC, x_dict0, x_dictII, x_bm, x_app, x_popAt, eq_i, ne_i, eq_s, ne_s, len_tupN, walks_tupN, x_call, x_compF, x_compC, x_yes, x_rg1, x_rg2, x_itS, walks_tup, walks_lst, walks_scr, x_seq, x_skip, x_break, x_cont, x_expr, x_ret, x_retN, x_ifS, x_asg, x_nm, x_gnils, x_gcons, x_gtu, x_gsub, mulT_i, mulU_i, x_fld, x_fldPut, x_fldAug, x_meth, x_make, x_callD, x_callK, x_countD, x_indexD, x_lenSet, powB_i, min3_i, x_raise, x_rg3, asI3_i, x_sorted, x_sortedUp, x_enumZ, x_minD, x_minP, x_frzD, x_pre, x_dict3, x_dget2, eqNil_f, neNilL_f, eqNilL_f, x_setI, notInI_f, x_itemsT, isF_f, x_try, x_tryAs, x_isE, x_par3, three_3, mulL_l, x_mulC, asR_l, x_rg2B, isB_b, x_gtuL, x_gsta, sta_c, x_zip,  x_index,  x_enum, enums_tup, enums_lst, enums_scr, mulS_i,  x_com2F, x_gsubD, x_dict0T, x_dict0N, int_i, int_b, keysOf_tupN, x_par, x_aug, x_for, x_never, x_wipe0, x_wipe, add_i, add_t, add_l, add_scr, add_s, sub_i, mul_i, div_i, mod_i, pow_i, cmp_i, asQ_t, asQ_l, asQ_s, asL_l, asL_s, asL_t, asT_t, ix_t, ix_l, ix_s, len_t, len_l, len_s, tupleOf_l, tupleOf_t, listOf_t, listOf_l, max2_i, min2_i, sl_t, sl_l, sl_s, rev_t, rev_l, tru_b, tru_i, ty_non, ty_bl, ty_int, ty_str, ty_tup, ty_lst, List.map_cons, List.map_nil, List.cons_append, List.nil_append, List.append_nil, List.set_cons_zero, List.set_cons_succ, List.length_cons, List.length_nil, List.replicate_succ, List.replicate_zero, Nat.sub_self, Nat.zero_add, Nat.reduceAdd, Nat.reduceSub, Nat.reduceLeDiff, Bool.not_true, Bool.not_false, true_and, and_true, if_true, decide_true, decide_false, EndsT.xe, List.reduceReplicate, Nat.le_refl, Nat.zero_le])
/-- what a hand did at the twelve beats below one, the latest first -/
def pastN (w : Web) (base : Int) (ps : List (List Nat)) (b : Int) (k : Nat) : List Nat := (List.range 12).map fun (i : Nat) => doingN w base ps k (b - ((1 : Int) + (i : Int)))
def pastsN (w : Web) (base : Int) (ps : List (List Nat)) (b : Int) : List (List Nat) := (List.range w.hands.length).map (pastN w base ps b)
theorem pastsN_ok {w : Web} (ok : WebOk w) {base : Int} {ps : List (List Nat)} (hp : PastsOk w ps) {b : Int} (hb : base ≤ b) : PastsOk w (pastsN w base ps b) := by
  refine ⟨by simp [pastsN], fun p hpp => ?_⟩
  obtain ⟨k, hk, rfl⟩ := List.mem_map.mp hpp
  refine ⟨by simp [pastN], fun x hx => ?_⟩
  obtain ⟨i, hi, rfl⟩ := List.mem_map.mp hx
  have := List.mem_range.mp hi
  exact doing_lt ok hp (List.mem_range.mp hk) (by omega)
theorem rangeT_12 : rangeT 1 (Int.toNat (12 + 1 - 1)) = (List.range 12).map fun (i : Nat) => T.int ((1 : Int) + (i : Int)) := rfl
theorem clock_1 {w : Web} (ok : WebOk w) : 1 ≤ clockN w.hands := (clk_big (a := 1) (m := w.many) (n := w.hands.length) (rs := w.hands.flatten) (by decide) fun r hr => by
  obtain ⟨rs, hrs, hr⟩ := List.mem_flatten.mp hr
  exact (ok.hs rs hrs).2.1 r hr).1
def winT (w : Web) (b : Int) : T := .tup [.int (b % ((clockN w.hands : Nat) : Int)), .tup ((pastsN w 0 (pasts0 w) b).map fun p => tupN (p.take (mostN w.hands)))]
theorem dt_win {w : Web} (ok : WebOk w) {b : Int} (hb : 0 ≤ b) : Dt 4 10000 (winT w b) := by
  have c1 := clock_1 ok
  have h1 := Int.emod_lt_of_pos b (show (0 : Int) < ((clockN w.hands : Nat) : Int) by omega)
  have h0 := Int.emod_nonneg b (show ((clockN w.hands : Nat) : Int) ≠ 0 by omega)
  have ck := ok.ck
  have m9 := ok.m9
  have d2 : Dt 3 3500 (.tup ((pastsN w 0 (pasts0 w) b).map fun p => tupN (p.take (mostN w.hands)))) := (dt_tup (k := 2) (c := 531) (L := 6) (fun t ht => by
    obtain ⟨p, hp, rfl⟩ := List.mem_map.mp ht
    obtain ⟨_, po⟩ := pastsN_ok ok (pasts0_ok ok) (base := 0) (b := b) hb
    obtain ⟨l12, lt⟩ := po p hp
    exact dt_tupN (L := 12) (by rw [List.length_take]; omega) fun x hx => by have := lt x (List.mem_of_mem_take hx); omega) (by simp [pastsN]; exact ok.h6)).mono (by omega) (by omega)
  exact (dt_tup (k := 3) (c := 3500) (L := 2) (by
    rintro t (_ | ⟨_, _ | ⟨_, ⟨⟩⟩⟩)
    · exact (dt_int (by omega)).mono (by omega) (by omega)
    · exact d2) (Nat.le_refl _)).mono (by omega) (by omega)
end TL

namespace TL
open PySem PySem.Spec PyProof.Rows L2
local macro_rules | `(tactic| walk_at "tl") => `(tactic| simp only [got_some, got_if, slot_0, slot_s, br_t, br_f, br_n, asB_b, asI_i, asI1_i, asI2_i, two_2, one_1, head_c, x_indexT, x_tupRgF, tupF_l, asT_f, asQ_f, isi_ftp, len_f, ix_f, walks_ftp, gtL_i, x_var, x_c, x_bin, x_nil, x_cons, x_tup, x_lstF, x_lstC, x_tru, x_tb, x_notT, x_andT, x_orT, x_not, x_and, x_or, x_if, x_chain, x_neg, x_callN, x_isi, x_po0, x_po, x_sl, x_rev, x_frz, x_listC, x_r1, x_tupRg, x_lstRgC, x_dict0, x_dictII, x_bm, x_app, x_popAt, eq_i, ne_i, eq_s, ne_s, len_tupN, walks_tupN, x_call, x_compF, x_compC, x_yes, x_rg1, x_rg2, x_itS, walks_tup, walks_lst, walks_scr, x_seq, x_skip, x_break, x_cont, x_expr, x_ret, x_retN, x_ifS, x_asg, x_nm, x_gnils, x_gcons, x_gtu, x_gsub, mulT_i, mulU_i, x_fld, x_fldPut, x_fldAug, x_meth, x_make, x_callD, x_callK, x_countD, x_indexD, x_lenSet, powB_i, min3_i, x_raise, x_rg3, asI3_i, x_sorted, x_sortedUp, x_enumZ, x_minD, x_minP, x_frzD, x_pre, x_dict3, x_dget2, eqNil_f, neNilL_f, eqNilL_f, x_setI, notInI_f, x_itemsT, isF_f, x_try, x_tryAs, x_isE, x_par3, three_3, mulL_l, x_mulC, asR_l, x_rg2B, isB_b, x_gtuL, x_gsta, sta_c, x_zip,  x_index,  x_enum, enums_tup, enums_lst, enums_scr, mulS_i,  x_com2F, x_gsubD, x_dict0T, x_dict0N, int_i, int_b, keysOf_tupN, x_par, x_aug, x_for, x_never, x_wipe0, x_wipe, add_i, add_t, add_l, add_scr, add_s, sub_i, mul_i, div_i, mod_i, pow_i, cmp_i, asQ_t, asQ_l, asQ_s, asL_l, asL_s, asL_t, asT_t, ix_t, ix_l, ix_s, len_t, len_l, len_s, tupleOf_l, tupleOf_t, listOf_t, listOf_l, max2_i, min2_i, sl_t, sl_l, sl_s, rev_t, rev_l, tru_b, tru_i, ty_non, ty_bl, ty_int, ty_str, ty_tup, ty_lst, List.map_cons, List.map_nil, List.cons_append, List.nil_append, List.append_nil, List.set_cons_zero, List.set_cons_succ, List.length_cons, List.length_nil, List.replicate_succ, List.replicate_zero, Nat.sub_self, Nat.zero_add, Nat.reduceAdd, Nat.reduceSub, Nat.reduceLeDiff, Bool.not_true, Bool.not_false, true_and, and_true, if_true, decide_true, decide_false, EndsT.xe, List.reduceReplicate, Nat.le_refl, Nat.zero_le])
theorem hand_ruleW {rs : List Rule} {n : Nat} {r : Rule} (e : rs[n]? = some r) : atI (rs.map ruleT) (n : Int) = some (ruleT r) := atI_nat (by rw [List.getElem?_map, e]; rfl)
theorem set_lastW {h : AH} {x y : Cell} : (h ++ [x]).set h.length y = h ++ [y] := by rw [List.set_append_right _ _ (Nat.le_refl _)]; simp
structure WinOk (w : Web) (rest : Nat) (ps : Nat → List Nat) : Prop where
  r : rest < clockN w.hands
  p : ∀ k, k < w.hands.length → (ps k).length = mostN w.hands ∧ ∀ x ∈ ps k, x < w.many
def wnT (w : Web) (rest : Nat) (ps : Nat → List Nat) : T := .tup [.int (rest : Int), .tup ((List.range w.hands.length).map fun k => tupN (ps k))]
/-- what a hand does at a window -/
def doneF (w : Web) (rest : Nat) (ps : Nat → List Nat) (k : Nat) : Nat :=
  match w.hands[k]? with
  | none => 0
  | some rs => match rs[ruleN rs (rest : Int)]? with
    | none => 0
    | some r => match r.what with
      | .own row => ownN row r.every (rest : Int)
      | .copy o ago t => t.getD ((ps o).getD (ago - 1) 0) 0
theorem fold_ge : ∀ (ns : List Nat) (a : Nat), a ≤ ns.foldl max a ∧ ∀ x ∈ ns, x ≤ ns.foldl max a
  | [], a => ⟨Nat.le_refl _, fun _ h => by cases h⟩
  | n :: ns, a => by
    obtain ⟨h1, h2⟩ := fold_ge ns (max a n)
    rw [List.foldl_cons]
    refine ⟨by omega, fun x hx => ?_⟩
    rcases List.mem_cons.mp hx with rfl | hx
    · omega
    · exact h2 x hx
theorem ago_most {w : Web} {rs : List Rule} {r : Rule} (h1 : rs ∈ w.hands) (h2 : r ∈ rs) {o ago : Nat} {t : List Nat} (e : r.what = .copy o ago t) : ago ≤ mostN w.hands := by
  unfold mostN
  refine (fold_ge _ 0).2 ago (List.mem_filterMap.mpr ⟨r, List.mem_flatten.mpr ⟨rs, h1, h2⟩, ?_⟩)
  unfold agoOf
  rw [e]
theorem ix_back {h : AH} {xs : List Nat} {a : Nat} (h1 : 1 ≤ a) (h2 : a ≤ xs.length) : opIx h (tupN xs.reverse) (.int (-(a : Int))) = some (.int ((xs.getD (a - 1) 0 : Nat) : Int)) := by
  show atI (xs.reverse.map _) (-(a : Int)) = _
  unfold atI
  have e : ixN (xs.reverse.map fun (n : Nat) => T.int (n : Int)).length (-(a : Int)) = some (xs.length - a) := by
    unfold ixN
    rw [if_neg (by omega), if_pos (by simp; omega)]
    congr 1
    simp only [List.length_map, List.length_reverse]; omega
  rw [e, Option.bind_some]
  rw [List.getElem?_map, List.getElem?_reverse (by omega), show xs.length - 1 - (xs.length - a) = a - 1 by omega, List.getElem?_eq_getElem (by omega), List.getD_eq_getElem?_getD, List.getElem?_eq_getElem (by omega)]; rfl
theorem doneF_lt {w : Web} (ok : WebOk w) {rest : Nat} {ps : Nat → List Nat} (wo : WinOk w rest ps) {k : Nat} (hk : k < w.hands.length) : doneF w rest ps k < w.many := by
  have ek : w.hands[k]? = some w.hands[k] := List.getElem?_eq_getElem hk
  have hok := ok.hs _ (List.getElem_mem hk)
  have hr : w.hands[k][ruleN w.hands[k] (rest : Int)]? = some (w.hands[k][ruleN w.hands[k] (rest : Int)]'(rule_lt hok _)) := List.getElem?_eq_getElem (rule_lt hok _)
  generalize w.hands[k][ruleN w.hands[k] (rest : Int)]'(rule_lt hok _) = ru at hr
  have hmem := List.mem_of_getElem? hr
  have hru := hok.2.1 ru hmem
  unfold doneF
  simp only [ek, hr]
  have wk := hru.2.2.2
  cases hw : ru.what with
  | own row =>
    rw [hw] at wk
    try simp only
    have l1 := wk.1
    have h1 := Int.emod_lt_of_pos ((rest : Int) / (ru.every : Int)) (show (0 : Int) < row.length by omega)
    have h0 := Int.emod_nonneg ((rest : Int) / (ru.every : Int)) (show (row.length : Int) ≠ 0 by omega)
    unfold ownN
    exact getD_mem_lt wk.2.2 (by omega)
  | copy o ago t =>
    rw [hw] at wk
    obtain ⟨w1, w2, w3, w4⟩ := wk
    have := ago_most (List.getElem_mem hk) hmem hw
    obtain ⟨p1, p2⟩ := wo.p o w1
    exact getD_lt w4 (getD_mem_lt p2 (by omega))
/-- what a hand does at a beat, by what was done so many beats ago -/
def doneG (w : Web) (b : Int) (past : Nat → Nat → Nat) (k : Nat) : Nat :=
  match w.hands[k]? with
  | none => 0
  | some rs => match rs[ruleN rs b]? with
    | none => 0
    | some r => match r.what with
      | .own row => ownN row r.every b
      | .copy o ago t => t.getD (past o ago) 0
/-- rows that end with what was done, whatever is laid behind -/
structure RowsL (h : AH) (w : Web) (rows : T) (past : Nat → Nat → Nat) : Prop where
  at_ : ∀ (l : AH) (k : Nat), k < w.hands.length → ∃ x, opIx (h ++ l) rows (.int (k : Int)) = some x ∧ ∀ a : Nat, 1 ≤ a → a ≤ mostN w.hands → opIx (h ++ l) x (.int (-(a : Int))) = some (.int ((past k a : Nat) : Int))
  lt : ∀ k a, k < w.hands.length → 1 ≤ a → a ≤ mostN w.hands → past k a < w.many
theorem rowsL_win {h : AH} {w : Web} {rest : Nat} {ps : Nat → List Nat} (wo : WinOk w rest ps) : RowsL h w (.lst ((List.range w.hands.length).map fun k => tupN (ps k).reverse)) (fun o a => (ps o).getD (a - 1) 0) := by
  refine ⟨fun l k hk => ⟨tupN (ps k).reverse, ?_, fun a a1 a2 => ix_back a1 (by rw [(wo.p k hk).1]; exact a2)⟩, fun k a hk a1 a2 => ?_⟩
  · show atI _ _ = _
    rw [atI_map (by rw [List.length_range]; exact hk)]; simp
  · obtain ⟨p1, p2⟩ := wo.p k hk
    exact getD_mem_lt p2 (by omega)
theorem zip_range (n : Nat) (f g : Nat → T) : zipT ((List.range n).map f) ((List.range n).map g) = (List.range n).map fun k => .tup [f k, g k] := by
  unfold zipT
  rw [List.zipWith_map]
  generalize List.range n = xs
  induction xs with
  | nil => rfl
  | cons x xs ih => rw [List.zipWith_cons_cons, ih]; rfl
def winP (w : Web) (b : Int) (k : Nat) : List Nat := (pastN w 0 (pasts0 w) b k).take (mostN w.hands)
theorem win_eq {w : Web} (ok : WebOk w) {b : Int} : winT w b = wnT w (b % ((clockN w.hands : Nat) : Int)).toNat (winP w b) := by
  have c1 := clock_1 ok
  have h0 := Int.emod_nonneg b (show ((clockN w.hands : Nat) : Int) ≠ 0 by omega)
  unfold winT wnT pastsN
  rw [Int.toNat_of_nonneg h0, List.map_map]; rfl
theorem win_ok {w : Web} (ok : WebOk w) {b : Int} (hb : 0 ≤ b) : WinOk w (b % ((clockN w.hands : Nat) : Int)).toNat (winP w b) := by
  have c1 := clock_1 ok
  have h0 := Int.emod_nonneg b (show ((clockN w.hands : Nat) : Int) ≠ 0 by omega)
  have h1 := Int.emod_lt_of_pos b (show (0 : Int) < ((clockN w.hands : Nat) : Int) by omega)
  have ml : mostN w.hands ≤ 12 := most_le (many := w.many) (n := w.hands.length) fun rs hrs => (ok.hs rs hrs).2.1
  refine ⟨by omega, fun k hk => ?_⟩
  obtain ⟨_, po⟩ := pastsN_ok ok (pasts0_ok ok) (base := 0) (b := b) hb
  obtain ⟨l12, lt⟩ := po (pastN w 0 (pasts0 w) b k) (List.mem_map.mpr ⟨k, List.mem_range.mpr hk, rfl⟩)
  exact ⟨by unfold winP; rw [List.length_take, l12]; omega, fun x hx => lt x (List.mem_of_mem_take hx)⟩
theorem own_per {row : List Nat} {ev c : Nat} {b : Int} (hb : 0 ≤ b) (he : 1 ≤ ev) (hl : 1 ≤ row.length) (hd : ev * row.length ∣ c) (hc : 1 ≤ c) : ownN row ev (b % (c : Int)) = ownN row ev b := by
  obtain ⟨z, ez⟩ := hd
  have e1 : b / (ev : Int) % (row.length : Int) = b % (c : Int) / (ev : Int) % (row.length : Int) := by
    have h1 := Int.emod_add_mul_ediv b (c : Int)
    generalize b / (c : Int) = q at h1
    generalize b % (c : Int) = r at h1
    subst h1
    have e2 : r + (c : Int) * q = r + (ev : Int) * ((row.length : Int) * ((z : Int) * q)) := by
      rw [ez, Int.natCast_mul, Int.natCast_mul]
      simp only [Int.mul_assoc]
    rw [e2, Int.add_mul_ediv_left _ _ (by omega), Int.add_mul_emod_self_left]
  unfold ownN
  rw [e1]
theorem done_win {w : Web} (ok : WebOk w) {b : Int} (hb : 0 ≤ b) {k : Nat} (hk : k < w.hands.length) : doneF w (b % ((clockN w.hands : Nat) : Int)).toNat (winP w b) k = doingN w 0 (pasts0 w) k b := by
  have c1 := clock_1 ok
  have h0 := Int.emod_nonneg b (show ((clockN w.hands : Nat) : Int) ≠ 0 by omega)
  have ek : w.hands[k]? = some w.hands[k] := List.getElem?_eq_getElem hk
  have hmem := List.getElem_mem hk
  have hok := ok.hs _ hmem
  have hr : w.hands[k][ruleN w.hands[k] b]? = some (w.hands[k][ruleN w.hands[k] b]'(rule_lt hok b)) := List.getElem?_eq_getElem (rule_lt hok b)
  have hper : ruleN w.hands[k] (b % ((clockN w.hands : Nat) : Int)) = ruleN w.hands[k] b := by
    have e : b % ((clockN w.hands : Nat) : Int) = b - ((clockN w.hands : Nat) : Int) * (b / ((clockN w.hands : Nat) : Int)) := by
      have := Int.emod_add_mul_ediv b ((clockN w.hands : Nat) : Int)
      omega
    rw [e]
    exact rule_per hmem b _ (Int.dvd_mul_right _ _)
  generalize w.hands[k][ruleN w.hands[k] b]'(rule_lt hok b) = ru at hr
  have hm2 := List.mem_of_getElem? hr
  have hru := hok.2.1 ru hm2
  unfold doneF
  rw [Int.toNat_of_nonneg h0]
  simp only [ek, hper, hr]
  have wk := hru.2.2.2
  cases hw : ru.what with
  | own row =>
    rw [hw] at wk
    have es : stepW w k b = none := by
      unfold stepW
      simp only [ek, hr, hw]
    have eo : ownAt w k b = ownN row ru.every b := by
      unfold ownAt
      simp only [ek, hr, hw]
    have hp : ru.every * row.length ∣ clockN w.hands := by
      have := (clock_dvd.mp (Nat.dvd_refl _)) ru (List.mem_flatten.mpr ⟨_, hmem, hm2⟩)
      unfold Rule.part at this
      rw [hw] at this
      exact this
    simp only
    rw [own_per hb hru.1 wk.1 hp c1]
    have l1 := wk.1
    have g1 := Int.emod_lt_of_pos (b / (ru.every : Int)) (show (0 : Int) < row.length by omega)
    have g0 := Int.emod_nonneg (b / (ru.every : Int)) (show (row.length : Int) ≠ 0 by omega)
    rw [doing_own hb es (by rw [eo]; unfold ownN; exact getD_mem_lt wk.2.2 (by omega)), eo]
  | copy o ago t =>
    rw [hw] at wk
    obtain ⟨w1, w2, w3, w4⟩ := wk
    have es : stepW w k b = some (o, b - ago, t) := by
      unfold stepW
      simp only [ek, hr, hw]
    have hao := ago_most hmem hm2 hw
    have ml : mostN w.hands ≤ 12 := most_le (many := w.many) (n := w.hands.length) fun rs hrs => (ok.hs rs hrs).2.1
    simp only
    rw [doing_step ok (pasts0_ok ok) hb es]
    congr 1
    unfold winP pastN
    rw [List.getD_eq_getElem?_getD, List.getElem?_take_of_lt (by omega), List.getElem?_map, List.getElem?_range (by omega)]
    show doingN w 0 (pasts0 w) o (b - ((1 : Int) + ((ago - 1 : Nat) : Int))) = _
    congr 1
    omega
theorem win_next {w : Web} (ok : WebOk w) {b : Int} (hb : 0 ≤ b) {k : Nat} (hk : k < w.hands.length) : (doingN w 0 (pasts0 w) k b :: winP w b k).take (mostN w.hands) = winP w (b + 1) k := by
  have ml : mostN w.hands ≤ 12 := most_le (many := w.many) (n := w.hands.length) fun rs hrs => (ok.hs rs hrs).2.1
  apply List.ext_getElem?
  intro i
  by_cases hi : i < mostN w.hands
  · unfold winP
    rw [List.getElem?_take_of_lt hi, List.getElem?_take_of_lt hi]
    unfold pastN
    rw [List.getElem?_map, List.getElem?_range (by omega)]
    cases i with
    | zero =>
      show some (doingN w 0 (pasts0 w) k b) = some (doingN w 0 (pasts0 w) k (b + 1 - ((1 : Int) + ((0 : Nat) : Int))))
      congr 2
      omega
    | succ i =>
      rw [List.getElem?_cons_succ, List.getElem?_take_of_lt (by omega), List.getElem?_map, List.getElem?_range (by omega)]
      show some (doingN w 0 (pasts0 w) k (b - ((1 : Int) + (i : Int)))) = some (doingN w 0 (pasts0 w) k (b + 1 - ((1 : Int) + ((i + 1 : Nat) : Int))))
      congr 2
      omega
  · rw [List.getElem?_eq_none (by rw [List.length_take]; omega), List.getElem?_eq_none (by unfold winP; rw [List.length_take]; omega)]
end TL

namespace TL
open PySem PySem.Spec PyProof.Rows L2
local macro_rules | `(tactic| walk_at "tl") => `(tactic| simp only [got_some, got_if, slot_0, slot_s, br_t, br_f, br_n, asB_b, asI_i, asI1_i, asI2_i, two_2, one_1, head_c, x_indexT, x_tupRgF, tupF_l, asT_f, asQ_f, isi_ftp, len_f, ix_f, walks_ftp, gtL_i, x_var, x_c, x_bin, x_nil, x_cons, x_tup, x_lstF, x_lstC, x_tru, x_tb, x_notT, x_andT, x_orT, x_not, x_and, x_or, x_if, x_chain, x_neg, x_callN, x_isi, x_po0, x_po, x_sl, x_rev, x_frz, x_listC, x_r1, x_tupRg, x_lstRgC, x_dict0, x_dictII, x_bm, x_app, x_popAt, eq_i, ne_i, eq_s, ne_s, len_tupN, walks_tupN, x_call, x_compF, x_compC, x_yes, x_rg1, x_rg2, x_itS, walks_tup, walks_lst, walks_scr, x_seq, x_skip, x_break, x_cont, x_expr, x_ret, x_retN, x_ifS, x_asg, x_nm, x_gnils, x_gcons, x_gtu, x_gsub, mulT_i, mulU_i, x_fld, x_fldPut, x_fldAug, x_meth, x_make, x_callD, x_callK, x_countD, x_indexD, x_lenSet, powB_i, min3_i, x_raise, x_rg3, asI3_i, x_sorted, x_sortedUp, x_enumZ, x_minD, x_minP, x_frzD, x_pre, x_dict3, x_dget2, eqNil_f, neNilL_f, eqNilL_f, x_setI, notInI_f, x_itemsT, isF_f, x_try, x_tryAs, x_isE, x_par3, three_3, mulL_l, x_mulC, asR_l, x_rg2B, isB_b, x_gtuL, x_gsta, sta_c, x_zip,  x_index,  x_enum, enums_tup, enums_lst, enums_scr, mulS_i,  x_com2F, x_gsubD, x_dict0T, x_dict0N, int_i, int_b, keysOf_tupN, x_par, x_aug, x_for, x_never, x_wipe0, x_wipe, add_i, add_t, add_l, add_scr, add_s, sub_i, mul_i, div_i, mod_i, pow_i, cmp_i, asQ_t, asQ_l, asQ_s, asL_l, asL_s, asL_t, asT_t, ix_t, ix_l, ix_s, len_t, len_l, len_s, tupleOf_l, tupleOf_t, listOf_t, listOf_l, max2_i, min2_i, sl_t, sl_l, sl_s, rev_t, rev_l, tru_b, tru_i, ty_non, ty_bl, ty_int, ty_str, ty_tup, ty_lst, List.map_cons, List.map_nil, List.cons_append, List.nil_append, List.append_nil, List.set_cons_zero, List.set_cons_succ, List.length_cons, List.length_nil, List.replicate_succ, List.replicate_zero, Nat.sub_self, Nat.zero_add, Nat.reduceAdd, Nat.reduceSub, Nat.reduceLeDiff, Bool.not_true, Bool.not_false, true_and, and_true, if_true, decide_true, decide_false, EndsT.xe, List.reduceReplicate, Nat.le_refl, Nat.zero_le])
def nkN (xs : List Nat) : NestedKey := .tup (xs.map fun (x : Nat) => NestedKey.num (x : Int))
theorem toNKs_map {α : Type} {f : α → T} {g : α → NestedKey} (h : ∀ x, toNK (f x) = some (g x)) : ∀ xs : List α, toNKs (xs.map f) = some (xs.map g)
  | [] => rfl
  | x :: xs => by
    rw [List.map_cons, List.map_cons, toNKs, h x, toNKs_map h xs]
theorem toNK_tupN (xs : List Nat) : toNK (tupN xs) = some (nkN xs) := by
  unfold tupN
  rw [toNK, toNKs_map (g := fun (x : Nat) => NestedKey.num (x : Int)) (fun x => rfl)]; rfl
theorem depthAll_map {α : Type} {g : α → NestedKey} {d : Nat} (h : ∀ x, (g x).depth ≤ d) : ∀ xs : List α, NestedKey.depthAll (xs.map g) ≤ d
  | [] => Nat.zero_le _
  | x :: xs => by
    rw [List.map_cons, NestedKey.depthAll]
    exact Nat.max_le.mpr ⟨h x, depthAll_map h xs⟩
theorem nkN_depth (xs : List Nat) : (nkN xs).depth ≤ 1 := by
  unfold nkN
  rw [NestedKey.depth]
  have := depthAll_map (g := fun (x : Nat) => NestedKey.num (x : Int)) (d := 0) (fun x => Nat.le_refl _) xs
  omega
theorem map_num_inj : ∀ {a b : List Nat}, (a.map fun (x : Nat) => NestedKey.num (x : Int)) = (b.map fun (x : Nat) => NestedKey.num (x : Int)) → a = b
  | [], [], _ => rfl
  | [], _ :: _, e => by simp at e
  | _ :: _, [], e => by simp at e
  | x :: a, y :: b, e => by
    rw [List.map_cons, List.map_cons] at e
    injection e with e1 e2
    injection e1 with e1
    rw [map_num_inj e2, show x = y by omega]
theorem nkN_inj {a b : List Nat} (e : nkN a = nkN b) : a = b := by
  unfold nkN at e
  injection e with e
  exact map_num_inj e
/-- a window as a key -/
def wkN (n rest : Nat) (ps : Nat → List Nat) : NestedKey := .tup [.num (rest : Int), .tup ((List.range n).map fun k => nkN (ps k))]
theorem nkOf_wn {w : Web} {rest : Nat} {ps : Nat → List Nat} : nkOf (wnT w rest ps) = some (wkN w.hands.length rest ps) := by
  have e : toNK (wnT w rest ps) = some (wkN w.hands.length rest ps) := by
    unfold wnT wkN
    simp only [toNK, toNKs, toNKs_map (f := fun k => tupN (ps k)) (g := fun k => nkN (ps k)) (fun k => toNK_tupN _), Option.map_some]
  have d : (wkN w.hands.length rest ps).depth ≤ 8 := by
    unfold wkN
    have := depthAll_map (g := fun k => nkN (ps k)) (d := 1) (fun k => nkN_depth _) (List.range w.hands.length)
    simp only [NestedKey.depth, NestedKey.depthAll]
    omega
  unfold nkOf
  rw [e]
  simp only [d, if_true]
theorem map_range_inj {n : Nat} {f g : Nat → NestedKey} (e : (List.range n).map f = (List.range n).map g) : ∀ k, k < n → f k = g k := fun k hk => by
  have := congrArg (fun l => l[k]?) e
  simp only [List.getElem?_map, List.getElem?_range hk, Option.map_some, Option.some.injEq] at this
  exact this
theorem wkN_inj {n r r' : Nat} {ps ps' : Nat → List Nat} (e : wkN n r ps = wkN n r' ps') : r = r' ∧ ∀ k, k < n → ps k = ps' k := by
  unfold wkN at e
  injection e with e
  injection e with e1 e2
  injection e1 with e1
  injection e2 with e2 _
  injection e2 with e2
  exact ⟨by omega, fun k hk => nkN_inj (map_range_inj e2 k hk)⟩
theorem wkN_ext {n r r' : Nat} {ps ps' : Nat → List Nat} (h1 : r = r') (h2 : ∀ k, k < n → ps k = ps' k) : wkN n r ps = wkN n r' ps' := by
  unfold wkN
  rw [h1]
  congr 3
  refine congrArg _ (List.map_congr_left fun k hk => ?_)
  rw [h2 k (List.mem_range.mp hk)]
/-- the window at a beat, as a key -/
def kyW (w : Web) (b : Nat) : NestedKey := wkN w.hands.length (b % clockN w.hands) (winP w (b : Int))
theorem rest_nat {w : Web} (b : Nat) : ((b : Int) % ((clockN w.hands : Nat) : Int)).toNat = b % clockN w.hands := by
  rw [← Int.natCast_emod]; rfl
theorem done_cong {w : Web} (ok : WebOk w) {rest : Nat} {ps ps' : Nat → List Nat} (h : ∀ k, k < w.hands.length → ps k = ps' k) {k : Nat} (hk : k < w.hands.length) : doneF w rest ps k = doneF w rest ps' k := by
  have ek : w.hands[k]? = some w.hands[k] := List.getElem?_eq_getElem hk
  have hok := ok.hs _ (List.getElem_mem hk)
  have hr : w.hands[k][ruleN w.hands[k] (rest : Int)]? = some (w.hands[k][ruleN w.hands[k] (rest : Int)]'(rule_lt hok _)) := List.getElem?_eq_getElem (rule_lt hok _)
  generalize w.hands[k][ruleN w.hands[k] (rest : Int)]'(rule_lt hok _) = ru at hr
  have hru := (hok.2.1 ru (List.mem_of_getElem? hr)).2.2.2
  unfold doneF
  simp only [ek, hr]
  cases hw : ru.what with
  | own row => rfl
  | copy o ago t =>
    rw [hw] at hru
    simp only [h o hru.1]
theorem ky_done {w : Web} (ok : WebOk w) {i j : Nat} (e : kyW w i = kyW w j) {k : Nat} (hk : k < w.hands.length) : doingN w 0 (pasts0 w) k (i : Int) = doingN w 0 (pasts0 w) k (j : Int) := by
  obtain ⟨e1, e2⟩ := wkN_inj e
  rw [← done_win ok (by omega) hk, ← done_win ok (by omega) hk, rest_nat, rest_nat, e1]
  exact done_cong ok e2 hk
theorem ky_next {w : Web} (ok : WebOk w) {i j : Nat} (e : kyW w i = kyW w j) : kyW w (i + 1) = kyW w (j + 1) := by
  obtain ⟨e1, e2⟩ := wkN_inj e
  refine wkN_ext ?_ fun k hk => ?_
  · rw [Nat.add_mod, e1, ← Nat.add_mod]
  · have h1 := win_next ok (b := (i : Int)) (by omega) hk
    have h2 := win_next ok (b := (j : Int)) (by omega) hk
    rw [Int.natCast_add, Int.natCast_add]
    show winP w ((i : Int) + 1) k = winP w ((j : Int) + 1) k
    rw [← h1, ← h2, ky_done ok e hk, e2 k hk]
theorem ky_add {w : Web} (ok : WebOk w) {i j : Nat} (e : kyW w i = kyW w j) : ∀ n, kyW w (i + n) = kyW w (j + n)
  | 0 => e
  | n + 1 => ky_next ok (ky_add ok e n)
/-- windows come again from f on, behind p: the first that do -/
structure Rounds (w : Web) (f p : Nat) : Prop where
  p1 : 1 ≤ p
  le : f + p ≤ 5000
  eq : kyW w f = kyW w (f + p)
  ne : ∀ a b, a < b → b < f + p → kyW w a ≠ kyW w b
def NoRound (w : Web) : Prop := ∀ a b, a < b → b ≤ 5000 → kyW w a ≠ kyW w b
theorem Rounds.per {w : Web} (ok : WebOk w) {f p : Nat} (r : Rounds w f p) {k : Nat} (hk : k < w.hands.length) {b : Nat} (hb : f ≤ b) : doingN w 0 (pasts0 w) k ((b + p : Nat) : Int) = doingN w 0 (pasts0 w) k (b : Int) := by
  have := ky_add ok r.eq (b - f)
  rw [show f + (b - f) = b by omega, show f + p + (b - f) = b + p by omega] at this
  exact (ky_done ok this hk).symm
theorem Rounds.no {w : Web} {f p : Nat} (r : Rounds w f p) (n : NoRound w) : False := n f (f + p) (by have := r.p1; omega) r.le r.eq
theorem Rounds.uniq {w : Web} {f p f' p' : Nat} (r : Rounds w f p) (r' : Rounds w f' p') : f = f' ∧ p = p' := by
  have h1 := r.p1
  have h2 := r'.p1
  have a : ¬ f + p < f' + p' := fun h => r'.ne f (f + p) (by omega) h r.eq
  have b : ¬ f' + p' < f + p := fun h => r.ne f' (f' + p') (by omega) h r'.eq
  have e : f + p = f' + p' := by omega
  rcases Nat.lt_trichotomy f f' with h | h | h
  · refine absurd (r.eq.trans ?_) (r'.ne f f' h (by omega))
    rw [e]; exact r'.eq.symm
  · exact ⟨h, by omega⟩
  · refine absurd (r'.eq.trans ?_) (r.ne f' f h (by omega))
    rw [← e]; exact r.eq.symm
def scT (w : Web) (b : Nat) : T := tupN (sceneN w 0 (pasts0 w) (b : Int))
def scsT (w : Web) (n : Nat) : List T := (List.range n).map (scT w)
def plW (w : Web) (n : Nat) : List (NestedKey × T) := (List.range n).map fun i => (kyW w i, T.int (i : Int))
theorem plW_ne {w : Web} {n : Nat} (h : ∀ a, a < n → kyW w a ≠ kyW w n) : ∀ p ∈ plW w n, p.1 ≠ kyW w n := fun p hp => by
  obtain ⟨i, hi, rfl⟩ := List.mem_map.mp hp
  exact h i (List.mem_range.mp hi)
theorem plW_at {w : Web} {n i : Nat} (hi : i < n) (hn : ∀ a b, a < b → b < n → kyW w a ≠ kyW w b) : aget (plW w n) (kyW w i) = some (.int (i : Int)) := by
  refine aget_at i (by unfold plW; rw [List.getElem?_map, List.getElem?_range hi]; rfl) fun k p hk hp => ?_
  unfold plW at hp
  rw [List.getElem?_map, List.getElem?_range (by omega)] at hp
  cases hp
  exact hn k i hk hi
end TL

namespace TL
open PySem PySem.Spec PyProof.Rows L2
local macro_rules | `(tactic| walk_at "tl") => `(tactic| simp only [got_some, got_if, slot_0, slot_s, br_t, br_f, br_n, asB_b, asI_i, asI1_i, asI2_i, two_2, one_1, head_c, x_indexT, x_tupRgF, tupF_l, asT_f, asQ_f, isi_ftp, len_f, ix_f, walks_ftp, gtL_i, x_var, x_c, x_bin, x_nil, x_cons, x_tup, x_lstF, x_lstC, x_tru, x_tb, x_notT, x_andT, x_orT, x_not, x_and, x_or, x_if, x_chain, x_neg, x_callN, x_isi, x_po0, x_po, x_sl, x_rev, x_frz, x_listC, x_r1, x_tupRg, x_lstRgC, x_dict0, x_dictII, x_bm, x_app, x_popAt, eq_i, ne_i, eq_s, ne_s, len_tupN, walks_tupN, x_call, x_compF, x_compC, x_yes, x_rg1, x_rg2, x_itS, walks_tup, walks_lst, walks_scr, x_seq, x_skip, x_break, x_cont, x_expr, x_ret, x_retN, x_ifS, x_asg, x_nm, x_gnils, x_gcons, x_gtu, x_gsub, mulT_i, mulU_i, x_fld, x_fldPut, x_fldAug, x_meth, x_make, x_callD, x_callK, x_countD, x_indexD, x_lenSet, powB_i, min3_i, x_raise, x_rg3, asI3_i, x_sorted, x_sortedUp, x_enumZ, x_minD, x_minP, x_frzD, x_pre, x_dict3, x_dget2, eqNil_f, neNilL_f, eqNilL_f, x_setI, notInI_f, x_itemsT, isF_f, x_try, x_tryAs, x_isE, x_par3, three_3, mulL_l, x_mulC, asR_l, x_rg2B, isB_b, x_gtuL, x_gsta, sta_c, x_zip,  x_index,  x_enum, enums_tup, enums_lst, enums_scr, mulS_i,  x_com2F, x_gsubD, x_dict0T, x_dict0N, int_i, int_b, keysOf_tupN, x_par, x_aug, x_for, x_never, x_wipe0, x_wipe, add_i, add_t, add_l, add_scr, add_s, sub_i, mul_i, div_i, mod_i, pow_i, cmp_i, asQ_t, asQ_l, asQ_s, asL_l, asL_s, asL_t, asT_t, ix_t, ix_l, ix_s, len_t, len_l, len_s, tupleOf_l, tupleOf_t, listOf_t, listOf_l, max2_i, min2_i, sl_t, sl_l, sl_s, rev_t, rev_l, tru_b, tru_i, ty_non, ty_bl, ty_int, ty_str, ty_tup, ty_lst, List.map_cons, List.map_nil, List.cons_append, List.nil_append, List.append_nil, List.set_cons_zero, List.set_cons_succ, List.length_cons, List.length_nil, List.replicate_succ, List.replicate_zero, Nat.sub_self, Nat.zero_add, Nat.reduceAdd, Nat.reduceSub, Nat.reduceLeDiff, Bool.not_true, Bool.not_false, true_and, and_true, if_true, decide_true, decide_false, EndsT.xe, List.reduceReplicate, Nat.le_refl, Nat.zero_le])
section
variable (w : Web) (base : Int) (ps : List (List Nat))
def lineT (k m : Nat) : List T := (List.range m).map fun (j : Nat) => T.int ((doingN w base ps k (base - 12 + (j : Int)) : Nat) : Int)
def linesH (m j : Nat) : AH := (List.range w.hands.length).map fun k => Cell.lst (lineT w base ps k (if k < j then m + 1 else m))
def lrefs (h : AH) : List T := (List.range w.hands.length).map fun k => T.ref (h.length + k)
def doneT (k n : Nat) : List T := (List.range n).map fun (i : Nat) => T.int ((doingN w base ps k (base + (i : Int)) : Nat) : Int)
/-- what each hand does at n beats from the base on -/
def linesR (n : Nat) : T := .lst ((List.range w.hands.length).map fun k => T.lst (doneT w base ps k n))
end
section
variable {w : Web} {base : Int} {ps : List (List Nat)}
theorem line_len {k m : Nat} : (lineT w base ps k m).length = m := by simp [lineT]
theorem lines_at {h : AH} {m j k : Nat} (hk : k < w.hands.length) : (h ++ linesH w base ps m j)[h.length + k]? = some (.lst (lineT w base ps k (if k < j then m + 1 else m))) := by
  rw [List.getElem?_append_right (by omega), Nat.add_sub_cancel_left]
  unfold linesH
  rw [List.getElem?_map, List.getElem?_range hk]; rfl
theorem line_succ {k m : Nat} : lineT w base ps k (m + 1) = lineT w base ps k m ++ [T.int ((doingN w base ps k (base - 12 + (m : Int)) : Nat) : Int)] := by
  unfold lineT
  rw [List.range_succ, List.map_append]; rfl
theorem lines_set {h : AH} {m j : Nat} : (h ++ linesH w base ps m j).set (h.length + j) (.lst (lineT w base ps j (m + 1))) = h ++ linesH w base ps m (j + 1) := by
  rw [List.set_append_right _ _ (by omega), Nat.add_sub_cancel_left]
  congr 1
  unfold linesH
  apply List.ext_getElem?
  intro i
  by_cases hi : i = j
  · subst hi
    by_cases hl : i < w.hands.length
    · rw [List.getElem?_set_self (by simpa using hl), List.getElem?_map, List.getElem?_range hl]
      simp
    · rw [List.getElem?_eq_none (by simp; omega), List.getElem?_eq_none (by simp; omega)]
  · rw [List.getElem?_set_ne (Ne.symm hi), List.getElem?_map, List.getElem?_map]
    by_cases hl : i < w.hands.length
    · rw [List.getElem?_range hl]
      have : (i < j) ↔ (i < j + 1) := by omega
      simp only [Option.map_some, this]
    · rw [List.getElem?_eq_none (by simp; omega)]; rfl
theorem lines_next {m : Nat} : linesH w base ps m w.hands.length = linesH w base ps (m + 1) 0 := by
  unfold linesH
  refine List.map_congr_left fun k hk => ?_
  rw [if_pos (List.mem_range.mp hk), if_neg (Nat.not_lt_zero _)]
theorem lrefs_at {h : AH} {k : Nat} (hk : k < w.hands.length) : atI (lrefs w h) (k : Int) = some (.ref (h.length + k)) := by
  unfold lrefs
  rw [atI_map (by rw [List.length_range]; exact hk)]
  simp
theorem done_line {ok : WebOk w} (hp : PastsOk w ps) {i : Nat} {k : Nat} (hk : k < w.hands.length) : doneG w (base + (i : Int)) (fun o a => doingN w base ps o (base + (i : Int) - (a : Int))) k = doingN w base ps k (base + (i : Int)) := by
  have ek : w.hands[k]? = some w.hands[k] := List.getElem?_eq_getElem hk
  have hok := ok.hs _ (List.getElem_mem hk)
  have hr : w.hands[k][ruleN w.hands[k] (base + (i : Int))]? = some (w.hands[k][ruleN w.hands[k] (base + (i : Int))]'(rule_lt hok _)) := List.getElem?_eq_getElem (rule_lt hok _)
  generalize w.hands[k][ruleN w.hands[k] (base + (i : Int))]'(rule_lt hok _) = ru at hr
  have hru := hok.2.1 ru (List.mem_of_getElem? hr)
  unfold doneG
  simp only [ek, hr]
  cases hw : ru.what with
  | own row =>
    have es : stepW w k (base + (i : Int)) = none := by
      unfold stepW
      simp only [ek, hr, hw]
    obtain ⟨r', row', _, _, _, _, e1, e2⟩ := own_lt ok (base := base) hk (by omega) es
    have eo : ownAt w k (base + (i : Int)) = ownN row ru.every (base + (i : Int)) := by
      unfold ownAt
      simp only [ek, hr, hw]
    rw [doing_own (by omega) es (by rw [e1]; exact e2), eo]
  | copy o ago t =>
    have es : stepW w k (base + (i : Int)) = some (o, base + (i : Int) - ago, t) := by
      unfold stepW
      simp only [ek, hr, hw]
    rw [doing_step ok hp (by omega) es]
theorem line_back {ok : WebOk w} (hp : PastsOk w ps) {h : AH} {i j : Nat} {l : AH} {k a : Nat} (hk : k < w.hands.length) (a1 : 1 ≤ a) (a2 : a ≤ 12) (hj : j ≤ k) : opIx ((h ++ linesH w base ps (12 + i) j) ++ l) (.ref (h.length + k)) (.int (-(a : Int))) = some (.int ((doingN w base ps k (base + (i : Int) - (a : Int)) : Nat) : Int)) := by
  have e := lines_at (h := h) (w := w) (base := base) (ps := ps) (m := 12 + i) (j := j) hk
  rw [if_neg (by omega)] at e
  rw [ix_r (appL e)]
  unfold atI
  have e2 : ixN (lineT w base ps k (12 + i)).length (-(a : Int)) = some (12 + i - a) := by
    rw [line_len]
    unfold ixN
    rw [if_neg (by omega), if_pos (by omega)]
    congr 1
    omega
  rw [e2, Option.bind_some]
  unfold lineT
  rw [List.getElem?_map, List.getElem?_range (by omega)]
  show some (T.int _) = _
  congr 3
  congr 1
  omega
theorem past_line (ok : WebOk w) (hp : PastsOk w ps) {k : Nat} (hk : k < w.hands.length) : ((ps.getD k []).reverse.map fun (n : Nat) => T.int (n : Int)) = lineT w base ps k 12 := by
  obtain ⟨_, l12, lt⟩ := past_at hp hk
  have hd0 : ∀ j : Nat, j < 12 → doingN w base ps k (base - 12 + (j : Int)) = (ps.getD k []).getD (12 - 1 - j) 0 := fun j hj => by
    have e : (base - (base - 12 + (j : Int)) - 1).toNat = 12 - 1 - j := by omega
    have := doing_past (w := w) (base := base) (ps := ps) (k := k) (b := base - 12 + (j : Int)) (by omega) (by rw [e]; exact getD_mem_lt lt (by omega))
    rw [this, e]
  generalize ps.getD k [] = p at l12 lt hd0 ⊢
  apply List.ext_getElem?
  intro j
  unfold lineT
  by_cases hj : j < 12
  · rw [List.getElem?_map, List.getElem?_map, List.getElem?_range hj, List.getElem?_reverse (by omega), l12]
    rw [Option.map_some, hd0 j hj, List.getElem?_eq_getElem (by omega), List.getD_eq_getElem?_getD, List.getElem?_eq_getElem (by omega)]; rfl
  · rw [List.getElem?_eq_none (by simp; omega), List.getElem?_eq_none (by simp; omega)]
end
end TL

namespace TL
open PySem PySem.Spec PyProof.Rows L2
local macro_rules | `(tactic| walk_at "tl") => `(tactic| simp only [got_some, got_if, slot_0, slot_s, br_t, br_f, br_n, asB_b, asI_i, asI1_i, asI2_i, two_2, one_1, head_c, x_indexT, x_tupRgF, tupF_l, asT_f, asQ_f, isi_ftp, len_f, ix_f, walks_ftp, gtL_i, x_var, x_c, x_bin, x_nil, x_cons, x_tup, x_lstF, x_lstC, x_tru, x_tb, x_notT, x_andT, x_orT, x_not, x_and, x_or, x_if, x_chain, x_neg, x_callN, x_isi, x_po0, x_po, x_sl, x_rev, x_frz, x_listC, x_r1, x_tupRg, x_lstRgC, x_dict0, x_dictII, x_bm, x_app, x_popAt, eq_i, ne_i, eq_s, ne_s, len_tupN, walks_tupN, x_call, x_compF, x_compC, x_yes, x_rg1, x_rg2, x_itS, walks_tup, walks_lst, walks_scr, x_seq, x_skip, x_break, x_cont, x_expr, x_ret, x_retN, x_ifS, x_asg, x_nm, x_gnils, x_gcons, x_gtu, x_gsub, mulT_i, mulU_i, x_fld, x_fldPut, x_fldAug, x_meth, x_make, x_callD, x_callK, x_countD, x_indexD, x_lenSet, powB_i, min3_i, x_raise, x_rg3, asI3_i, x_sorted, x_sortedUp, x_enumZ, x_minD, x_minP, x_frzD, x_pre, x_dict3, x_dget2, eqNil_f, neNilL_f, eqNilL_f, x_setI, notInI_f, x_itemsT, isF_f, x_try, x_tryAs, x_isE, x_par3, three_3, mulL_l, x_mulC, asR_l, x_rg2B, isB_b, x_gtuL, x_gsta, sta_c, x_zip,  x_index,  x_enum, enums_tup, enums_lst, enums_scr, mulS_i,  x_com2F, x_gsubD, x_dict0T, x_dict0N, int_i, int_b, keysOf_tupN, x_par, x_aug, x_for, x_never, x_wipe0, x_wipe, add_i, add_t, add_l, add_scr, add_s, sub_i, mul_i, div_i, mod_i, pow_i, cmp_i, asQ_t, asQ_l, asQ_s, asL_l, asL_s, asL_t, asT_t, ix_t, ix_l, ix_s, len_t, len_l, len_s, tupleOf_l, tupleOf_t, listOf_t, listOf_l, max2_i, min2_i, sl_t, sl_l, sl_s, rev_t, rev_l, tru_b, tru_i, ty_non, ty_bl, ty_int, ty_str, ty_tup, ty_lst, List.map_cons, List.map_nil, List.cons_append, List.nil_append, List.append_nil, List.set_cons_zero, List.set_cons_succ, List.length_cons, List.length_nil, List.replicate_succ, List.replicate_zero, Nat.sub_self, Nat.zero_add, Nat.reduceAdd, Nat.reduceSub, Nat.reduceLeDiff, Bool.not_true, Bool.not_false, true_and, and_true, if_true, decide_true, decide_false, EndsT.xe, List.reduceReplicate, Nat.le_refl, Nat.zero_le])
def IsJar (h : AH) (b N : Nat) : Prop := ∃ (x c : Int) (k : Nat), h[b]? = some (.lst [.int x, .int c, .int (k : Int)]) ∧ 0 ≤ c ∧ c < 10 ^ 40 ∧ k ≤ N
theorem IsJar.bag {h : AH} {b N : Nat} (i : IsJar h b N) : IsBag h b := let ⟨x, c, k, e, _⟩ := i; ⟨x, c, k, e⟩
theorem IsJar.mono {h : AH} {b N M : Nat} (i : IsJar h b N) (hm : N ≤ M) : IsJar h b M := let ⟨x, c, k, e, h1, h2, h3⟩ := i; ⟨x, c, k, e, h1, h2, Nat.le_trans h3 hm⟩
theorem IsJar.app {h : AH} {b N : Nat} (i : IsJar h b N) (l : AH) : IsJar (h ++ l) b N := by
  obtain ⟨x, c, k, e, r⟩ := i
  exact ⟨x, c, k, by rw [List.getElem?_append_left (List.getElem?_eq_some_iff.mp e).1]; exact e, r⟩
theorem IsJar.lt {h : AH} {b N : Nat} (i : IsJar h b N) : b < h.length := i.bag.lt
/-- drawn of n times at most -/
structure JarTo (b n : Nat) (h h' : AH) : Prop where
  to : BagTo b h h'
  jar : ∀ N, IsJar h b N → IsJar h' b (N + n)
theorem JarTo.trans {b n m : Nat} {h h' h2 : AH} (s : JarTo b n h h') (t : JarTo b m h' h2) : JarTo b (n + m) h h2 := ⟨s.to.trans t.to, fun N i => by rw [← Nat.add_assoc]; exact t.jar _ (s.jar N i)⟩
theorem JarTo.refl {b : Nat} {h : AH} (i : IsBag h b) : JarTo b 0 h h := ⟨BagTo.refl i, fun _ i => i⟩
theorem JarTo.mono {b n m : Nat} {h h' : AH} (s : JarTo b n h h') (hm : n ≤ m) : JarTo b m h h' := ⟨s.to, fun N i => (s.jar N i).mono (by omega)⟩
theorem JarTo.len {b n : Nat} {h h' : AH} (s : JarTo b n h h') : h'.length = h.length := s.to.len
theorem JarTo.app {b n : Nat} {h h2 l : AH} (s : JarTo b n (h ++ l) h2) (hb : b < h.length) : ∃ h3, h2 = h3 ++ l ∧ JarTo b n h h3 := by
  obtain ⟨h3, rfl, t⟩ := s.to.app hb
  refine ⟨h3, rfl, t, fun N i => ?_⟩
  obtain ⟨x, c, k, e, r⟩ := s.jar N (i.app l)
  exact ⟨x, c, k, by rw [List.getElem?_append_left (by rw [t.len]; exact hb)] at e; exact e, r⟩
/-- a comprehension each of whose items is drawn of the jar -/
theorem compL_jar {P : AH → Prop} {g : WTg} {wt : WTe} {w : WEx} {vs : List Nat} {ρ : Rho} {R : List T → AH → Prop} {b N : Nat} {h1 : AH} (M : Nat) (Q : T → Prop) (items : List T) (ib : IsJar h1 b N) (hP : ∀ h, BagTo b h1 h → P h) (hl : items.length ≤ lim)
    (hs : ∀ t ∈ items, ∀ h, BagTo b h1 h → IsJar h b (N + items.length * M) → ∀ (Ky : T → AH → Prop) (Kn : AH → Prop), (∀ y h', Q y → JarTo b M h h' → Ky y h') → g t (wipeT ρ vs) h (fun ρ2 h2 => wt ρ2 h2 (fun k h3 => if k = true then w ρ2 h3 Ky (fun _ _ => False) else Kn h3) (fun _ _ => False)) (fun _ _ => False))
    (hd : ∀ acc h', acc.length = items.length → (∀ y ∈ acc, Q y) → JarTo b (items.length * M) h1 h' → R acc h') : wCompL P g wt w vs ρ items [] h1 R :=
  compL_inv (fun i acc h => i ≤ items.length ∧ JarTo b (i * M) h1 h ∧ ∀ y ∈ acc, Q y) items (fun _ _ h iv => hP h iv.2.1.to) hl
    (fun i t acc h et iv Ky Kn k => hs t (List.mem_of_getElem? et) h iv.2.1.to ((iv.2.1.jar N ib).mono (Nat.add_le_add_left (Nat.mul_le_mul_right M iv.1) N)) Ky Kn fun y h' hq s => k y h' ⟨(List.getElem?_eq_some_iff.mp et).1, by rw [Nat.succ_mul]; exact iv.2.1.trans s, fun z hz => by
      rcases List.mem_append.mp hz with q | q
      · exact iv.2.2 z q
      · rw [List.mem_singleton.mp q]; exact hq⟩)
    ⟨Nat.zero_le _, by rw [Nat.zero_mul]; exact JarTo.refl ib.bag, by simp⟩ (fun acc h' hl iv => hd acc h' hl iv.2.2 iv.2.1)
end TL

namespace TL
open PySem PySem.Spec PyProof.Rows L2
local macro_rules | `(tactic| walk_at "tl") => `(tactic| simp only [got_some, got_if, slot_0, slot_s, br_t, br_f, br_n, asB_b, asI_i, asI1_i, asI2_i, two_2, one_1, head_c, x_indexT, x_tupRgF, tupF_l, asT_f, asQ_f, isi_ftp, len_f, ix_f, walks_ftp, gtL_i, x_var, x_c, x_bin, x_nil, x_cons, x_tup, x_lstF, x_lstC, x_tru, x_tb, x_notT, x_andT, x_orT, x_not, x_and, x_or, x_if, x_chain, x_neg, x_callN, x_isi, x_po0, x_po, x_sl, x_rev, x_frz, x_listC, x_r1, x_tupRg, x_lstRgC, x_dict0, x_dictII, x_bm, x_app, x_popAt, eq_i, ne_i, eq_s, ne_s, len_tupN, walks_tupN, x_call, x_compF, x_compC, x_yes, x_rg1, x_rg2, x_itS, walks_tup, walks_lst, walks_scr, x_seq, x_skip, x_break, x_cont, x_expr, x_ret, x_retN, x_ifS, x_asg, x_nm, x_gnils, x_gcons, x_gtu, x_gsub, mulT_i, mulU_i, x_fld, x_fldPut, x_fldAug, x_meth, x_make, x_callD, x_callK, x_countD, x_indexD, x_lenSet, powB_i, min3_i, x_raise, x_rg3, asI3_i, x_sorted, x_sortedUp, x_enumZ, x_minD, x_minP, x_frzD, x_pre, x_dict3, x_dget2, eqNil_f, neNilL_f, eqNilL_f, x_setI, notInI_f, x_itemsT, isF_f, x_try, x_tryAs, x_isE, x_par3, three_3, mulL_l, x_mulC, asR_l, x_rg2B, isB_b, x_gtuL, x_gsta, sta_c, x_zip,  x_index,  x_enum, enums_tup, enums_lst, enums_scr, mulS_i,  x_com2F, x_gsubD, x_dict0T, x_dict0N, int_i, int_b, keysOf_tupN, x_par, x_aug, x_for, x_never, x_wipe0, x_wipe, add_i, add_t, add_l, add_scr, add_s, sub_i, mul_i, div_i, mod_i, pow_i, cmp_i, asQ_t, asQ_l, asQ_s, asL_l, asL_s, asL_t, asT_t, ix_t, ix_l, ix_s, len_t, len_l, len_s, tupleOf_l, tupleOf_t, listOf_t, listOf_l, max2_i, min2_i, sl_t, sl_l, sl_s, rev_t, rev_l, tru_b, tru_i, ty_non, ty_bl, ty_int, ty_str, ty_tup, ty_lst, List.map_cons, List.map_nil, List.cons_append, List.nil_append, List.append_nil, List.set_cons_zero, List.set_cons_succ, List.length_cons, List.length_nil, List.replicate_succ, List.replicate_zero, Nat.sub_self, Nat.zero_add, Nat.reduceAdd, Nat.reduceSub, Nat.reduceLeDiff, Bool.not_true, Bool.not_false, true_and, and_true, if_true, decide_true, decide_false, EndsT.xe, List.reduceReplicate, Nat.le_refl, Nat.zero_le])
def sp__law_hoard_of : ASp := fun ts h R _ => ∃ (c n : Int), ts = [.int c, .int n] ∧ ∀ h' x c', 0 ≤ c' → c' < 10 ^ 40 → h' = h ++ [.lst [.int x, .int c', .int 0]] → R (.ref h.length) h'
def w__law_hoard_of : WSt :=
  (wRet (wLstC (wCons (wCallN opMax2 (wCons (wC (.int 0)) (wCons (wBin opSub (wVar 0) (wBin opPow (wC (.int 10)) (wC (.int 18)))) wNil))) (wCons (wBin opAdd (wBin opMul (wBin opMod (wVar 0) (wBin opPow (wC (.int 10)) (wC (.int 30)))) (wC (.int 8))) (wBin opMod (wVar 1) (wC (.int 8)))) (wCons (wC (.int 0)) wNil)))))
theorem hlen__law_hoard_of : ∀ ts h R RX, sp__law_hoard_of ts h R RX → ts.length = 2 := fun ts h R RX ⟨c, _, e, _⟩ => by subst e; rfl
theorem hsp__law_hoard_of : ∀ ts h R RX, sp__law_hoard_of ts h R RX → wBody 2 w__law_hoard_of ts h R RX := by
  rintro ts h R RX ⟨c, n, rfl, r⟩
  have p30 : (10 : Int) ^ Int.toNat 30 = 1000000000000000000000000000000 := by decide
  simp only [wBody, w__law_hoard_of]
  walk_at "tl"
  simp only [p30]
  have h1 := Int.emod_nonneg c (show (1000000000000000000000000000000 : Int) ≠ 0 by decide)
  have h2 := Int.emod_lt_of_pos c (show (0 : Int) < 1000000000000000000000000000000 by decide)
  have h3 := Int.emod_nonneg n (show (8 : Int) ≠ 0 by decide)
  have h4 := Int.emod_lt_of_pos n (show (0 : Int) < 8 by decide)
  refine ⟨⟨by decide, by decide, by decide⟩, ⟨by decide, by decide, by decide⟩, by decide, okMul_r (by decide), by decide, by decide, .inl (r _ _ _ ?_ ?_ rfl)⟩
  · omega
  · omega
def sp__law_draw : ASp := fun ts h R _ => ∃ (b N : Nat) (many : Int), ts = [.ref b, .int many] ∧ IsJar h b N ∧ N ≤ 10 ^ 9 ∧ 0 < many ∧ many < 2 ^ 100 ∧ ∀ r h', 0 ≤ r → r < many → JarTo b 1 h h' → R (.int r) h'
def w__law_draw : WSt :=
  (wSeq (wIfS (wTB (wBin opGt (wBin opIx (wVar 0) (wC (.int 0))) (wC (.int 0)))) (wSeq (wAsg (wBin opMod (wBin opIx (wVar 0) (wC (.int 0))) (wVar 1)) (gNm 3))
  (wSeq (wAsg (wBin opDiv (wBin opIx (wVar 0) (wC (.int 0))) (wVar 1)) (gSubL (wVar 0) (wC (.int 0))))
  (wRet (wVar 3)))) wSkip)
  (wSeq (wAsg (wBin opAdd (wBin opIx (wVar 0) (wC (.int 2))) (wC (.int 1))) (gSubL (wVar 0) (wC (.int 2))))
  (wSeq (wAsg (wBin opPowB (wBin opAdd (wBin opAdd (wBin opIx (wVar 0) (wC (.int 1))) (wBin opMul (wC (.int 7046029254386353131)) (wBin opIx (wVar 0) (wC (.int 2))))) (wC (.int 88172645463325252))) (wC (.int 3))) (gNm 2))
  (wSeq (wAsg (wBin opMod (wVar 2) (wC (.int 618970019642690137449562111))) (gNm 2))
  (wSeq (wAsg (wBin opMod (wBin opPowB (wBin opAdd (wVar 2) (wBin opMul (wC (.int 1181783497276652981)) (wBin opIx (wVar 0) (wC (.int 2))))) (wC (.int 2))) (wBin opAdd (wBin opPow (wC (.int 10)) (wC (.int 27))) (wC (.int 103)))) (gNm 2))
  (wRet (wBin opMod (wBin opDiv (wVar 2) (wC (.int 100003))) (wVar 1))))))))
theorem hlen__law_draw : ∀ ts h R RX, sp__law_draw ts h R RX → ts.length = 2 := fun ts h R RX ⟨b, m, _, e, _⟩ => by subst e; rfl
theorem hoard_set {h : AH} {b : Nat} {x c : Int} {k : Nat} (hb : h[b]? = some (.lst [.int x, .int c, .int (k : Int)])) {x' : Int} {k' : Nat} (hk : k' ≤ k + 1) : JarTo b 1 h (h.set b (.lst [.int x', .int c, .int (k' : Int)])) := by
  refine ⟨⟨x', c, k', rfl⟩, fun N i => ?_⟩
  obtain ⟨x2, c2, k2, e, h1, h2, h3⟩ := i
  rw [hb] at e
  simp only [Option.some.injEq, Cell.lst.injEq, List.cons.injEq, T.int.injEq, and_true] at e
  obtain ⟨_, rfl, e3⟩ := e
  exact ⟨x', c, k', List.getElem?_set_self (List.getElem?_eq_some_iff.mp hb).1, h1, h2, by omega⟩
theorem hsp__law_draw : ∀ ts h R RX, sp__law_draw ts h R RX → wBody 4 w__law_draw ts h R RX := by
  rintro ts h R RX ⟨b, N, m, rfl, ij, hN, m0, m1, r⟩
  have ij0 := ij
  obtain ⟨x, c, k, hb, c0, c1, hk⟩ := ij
  have hl : b < h.length := (List.getElem?_eq_some_iff.mp hb).1
  have a0 : atI [T.int x, T.int c, T.int (k : Int)] 0 = some (.int x) := rfl
  have a2 : atI [T.int x, T.int c, T.int (k : Int)] 2 = some (.int (k : Int)) := rfl
  have b1 : atI [T.int x, T.int c, T.int ((k + 1 : Nat) : Int)] 1 = some (.int c) := rfl
  have b2 : atI [T.int x, T.int c, T.int ((k + 1 : Nat) : Int)] 2 = some (.int ((k + 1 : Nat) : Int)) := rfl
  have ek : (k : Int) + 1 = ((k + 1 : Nat) : Int) := rfl
  have i0 : ixN 3 0 = some 0 := rfl
  have i2 : ixN 3 2 = some 2 := rfl
  have p27 : (10 : Int) ^ Int.toNat 27 + 103 = 1000000000000000000000000103 := by decide
  have hb1 : (h.set b (.lst [.int x, .int c, .int ((k + 1 : Nat) : Int)]))[b]? = some (.lst [.int x, .int c, .int ((k + 1 : Nat) : Int)]) := by rw [List.getElem?_set_self hl]
  simp only [wBody, w__law_draw]
  walk_at "tl"
  simp only [ix_r hb, a0]
  try walk_at "tl"
  simp only [ix_r hb, a0, a2, lcell_r hb]
  try walk_at "tl"
  simp only [i0, i2, ek]
  try walk_at "tl"
  simp only [ix_r hb1, b1, b2]
  try walk_at "tl"
  simp only [p27]
  have pm : ∀ (y d : Int), 0 < d → 0 ≤ y % d ∧ y % d < d := fun y d hd => ⟨Int.emod_nonneg _ (by omega), Int.emod_lt_of_pos _ hd⟩
  have pb : ∀ z : Int, 0 ≤ z → z < 10 ^ 60 → z.natAbs < 2 ^ 1000 := fun z z0 z1 => Nat.lt_of_lt_of_le (show z.natAbs < 10 ^ 60 by omega) (by decide)
  have kb : ((k + 1 : Nat) : Int) ≤ 10 ^ 9 + 1 := by omega
  refine ⟨fun _ => ⟨m0, ⟨m0, log_small m0 m1⟩, .inl (r _ _ (pm x m m0).1 (pm x m m0).2 (hoard_set hb (by omega)))⟩, fun _ => ?_⟩
  try simp only [ix_r hb1, b1, b2]
  try walk_at "tl"
  have w0 := pm ((c + 7046029254386353131 * ((k + 1 : Nat) : Int) + 88172645463325252) ^ Int.toNat 3) 618970019642690137449562111 (by decide)
  refine ⟨okMul_l (by decide) (by decide), ⟨by decide, by decide, pb _ (by omega) (by omega)⟩, by decide, okMul_l (by decide) (by decide), ⟨by decide, by decide, pb _ (by omega) (by omega)⟩, ⟨by decide, by decide, by decide⟩, by decide, ⟨by decide, by decide⟩, m0, .inl (r _ _ (pm _ m m0).1 (pm _ m m0).2 (hoard_set hb (by omega)))⟩
def sp__law_shift : ASp := fun ts h R _ => ∃ (b N m : Nat), ts = [.ref b, .int (m : Int)] ∧ IsJar h b N ∧ N ≤ 10 ^ 8 ∧ 1 ≤ m ∧ m ≤ 9 ∧ ∀ t h', IsTurn m t → JarTo b 13 h h' → R (tupN t) h'
def w__law_shift : WSt :=
  (wSeq (wAsg (wCall sp__law_draw (wCons (wVar 0) (wCons (wC (.int 4)) wNil))) (gNm 2))
  (wSeq (wAsg (wTup (wCons (wCall sp__law_draw (wCons (wVar 0) (wCons (wVar 1) wNil))) (wCons (wCall sp__law_draw (wCons (wVar 0) (wCons (wVar 1) wNil))) wNil))) (gTu 2 (gConss (gNm 3) (gConss (gNm 4) gNils))))
  (wSeq (wIfS (wTB (wBin (opEq false) (wVar 2) (wC (.int 0)))) (wRet (wCallN opTupleOf (wCons (wCompF (wRg1 (wCons (wVar 1) wNil)) (gNm 6) wYes (wBin opMod (wBin opAdd (wVar 6) (wVar 3)) (wVar 1)) [6]) wNil))) wSkip)
  (wSeq (wIfS (wTB (wBin (opEq false) (wVar 2) (wC (.int 1)))) (wSeq (wAsg (wLstRgC (wR1 (wVar 1))) (gNm 5))
  (wSeq (wAsg (wVar 4) (gSubL (wVar 5) (wVar 3)))
  (wSeq (wAsg (wVar 3) (gSubL (wVar 5) (wVar 4)))
  (wRet (wCallN opTupleOf (wCons (wVar 5) wNil)))))) wSkip)
  (wRet (wCallN opTupleOf (wCons (wCompF (wRg1 (wCons (wVar 1) wNil)) (gNm 6) wYes (wIf (wTB (wBin (opEq false) (wVar 2) (wC (.int 2)))) (wCall sp__law_draw (wCons (wVar 0) (wCons (wVar 1) wNil))) (wVar 4)) [6]) wNil)))))))
theorem hlen__law_shift : ∀ ts h R RX, sp__law_shift ts h R RX → ts.length = 2 := fun ts h R RX ⟨n, m, _, e, _⟩ => by subst e; rfl
theorem hsp__law_shift : ∀ ts h R RX, sp__law_shift ts h R RX → wBody 7 w__law_shift ts h R RX := by
  rintro ts h R RX ⟨b, N, m, rfl, ij, hN, m1, m9, r⟩
  simp only [wBody, w__law_shift]
  walk_at "tl"
  refine ⟨b, N, 4, rfl, ij, by omega, by decide, by decide, fun way h1 w0 w4 s1 => ?_⟩
  have ij1 := s1.jar N ij
  try walk_at "tl"
  refine ⟨b, _, m, rfl, ij1, by omega, by omega, by omega, fun by_ h2 b0 b1 s2 => ?_⟩
  have ij2 := s2.jar _ ij1
  try walk_at "tl"
  refine ⟨b, _, m, rfl, ij2, by omega, by omega, by omega, fun one h3 o0 o1 s3 => ?_⟩
  have ij3 := s3.jar _ ij2
  have s13 := (s1.trans s2).trans s3
  have rl : (rangeT 0 (m : Int).toNat).length = m := by simp [rangeT]
  have bound : ((m : Int) < 2 ^ 62 ∧ -(2 ^ 62) ≤ (m : Int)) := by omega
  have e0 : rangeT 0 (m : Int).toNat = (List.range m).map fun (i : Nat) => T.int (i : Int) := range_map rfl
  obtain ⟨p, rfl⟩ := Int.eq_ofNat_of_zero_le b0
  obtain ⟨q, rfl⟩ := Int.eq_ofNat_of_zero_le o0
  try walk_at "tl"
  refine ⟨by decide, fun _ => ?_, fun _ => ⟨fun _ => ?_, fun _ => ?_⟩⟩
  · refine ⟨bound.1, bound.2, ?_⟩
    rw [e0]
    refine compL_map (fun (n : Nat) => T.int (n : Int)) (fun i => .int (((i : Int) + (p : Int)) % (m : Int))) (List.range m) trivial (fun x hx Ky Kn kk => ?s0) (by rw [List.length_range]; show _ ≤ 1000000; omega) ?e0
    case s0 =>
      try walk_at "tl"
      exact ⟨by omega, kk⟩
    case e0 =>
      try walk_at "tl"
      obtain ⟨t, e, ht⟩ := nats_turn (m := m) (acc := (List.range m).map fun (i : Nat) => T.int (((i : Int) + (p : Int)) % (m : Int))) (by simp) (fun x hx => by
        obtain ⟨i, _, rfl⟩ := List.mem_map.mp hx
        have h1 := Int.emod_lt_of_pos ((i : Int) + p) (show (0 : Int) < m by omega)
        have h2 := Int.emod_nonneg ((i : Int) + p) (show (m : Int) ≠ 0 by omega)
        exact ⟨(((i : Int) + p) % (m : Int)).toNat, by omega, by rw [Int.toNat_of_nonneg h2]⟩)
      rw [e]
      exact .inl (r t _ ht (s13.mono (by omega)))
  · refine ⟨by unfold rgOk; simp; omega, ?_⟩
    have e1 : rangeT 0 ((m : Int) - 0).toNat = (List.range m).map fun (i : Nat) => T.int (i : Int) := by rw [Int.sub_zero]; exact range_map rfl
    rw [e1]
    have cell : (h3 ++ [Cell.lst ((List.range m).map fun (i : Nat) => T.int (i : Int))])[h3.length]? = some (.lst ((List.range m).map fun (i : Nat) => T.int (i : Int))) := List.getElem?_concat_length
    have ixp : ∀ xs : List T, xs.length = m → ixN xs.length (p : Int) = some p := fun xs hx => by unfold ixN; rw [hx]; simp; omega
    have ixq : ∀ xs : List T, xs.length = m → ixN xs.length (q : Int) = some q := fun xs hx => by unfold ixN; rw [hx]; simp; omega
    have st : ∀ c d : Cell, (h3 ++ [c]).set h3.length d = h3 ++ [d] := fun c d => by simp
    simp only [lcell_r cell]
    try walk_at "tl"
    simp only [ixp _ (show ((List.range m).map fun (i : Nat) => T.int (i : Int)).length = m by simp)]
    try walk_at "tl"
    simp only [st]
    have cell2 : (h3 ++ [Cell.lst (((List.range m).map fun (i : Nat) => T.int (i : Int)).set p (.int (q : Int)))])[h3.length]? = some (.lst (((List.range m).map fun (i : Nat) => T.int (i : Int)).set p (.int (q : Int)))) := List.getElem?_concat_length
    simp only [lcell_r cell2]
    try walk_at "tl"
    simp only [ixq _ (show (((List.range m).map fun (i : Nat) => T.int (i : Int)).set p (.int (q : Int))).length = m by simp)]
    try walk_at "tl"
    simp only [st]
    have cell3 : (h3 ++ [Cell.lst ((((List.range m).map fun (i : Nat) => T.int (i : Int)).set p (.int (q : Int))).set q (.int (p : Int)))])[h3.length]? = some (.lst ((((List.range m).map fun (i : Nat) => T.int (i : Int)).set p (.int (q : Int))).set q (.int (p : Int)))) := List.getElem?_concat_length
    simp only [tupleOf_r cell3]
    try walk_at "tl"
    have em : (((List.range m).map fun (i : Nat) => T.int (i : Int)).set p (.int (q : Int))).set q (.int (p : Int)) = (((List.range m).set p q).set q p).map fun (i : Nat) => T.int (i : Int) := by
      rw [List.map_set, List.map_set]
    rw [em]
    refine .inr ⟨h3, s13.to.pop _ ?_, r (((List.range m).set p q).set q p) _ ⟨by simp, fun x hx => ?_⟩ (s13.mono (by omega))⟩
    · exact clos_of fun t ht => by rw [List.mem_singleton.mp ht]; exact clo_tupN
    · rcases List.mem_or_eq_of_mem_set hx with hx | rfl
      · rcases List.mem_or_eq_of_mem_set hx with hx | rfl
        · exact List.mem_range.mp hx
        · omega
      · omega
  · refine ⟨bound.1, bound.2, ?_⟩
    refine compL_jar 1 (fun y => ∃ n : Nat, n < m ∧ y = T.int (n : Int)) _ ij3 (fun _ _ => trivial) (by rw [rl]; show _ ≤ 1000000; omega) (fun t _ h' sb ij' Ky Kn k => ?s2) (fun acc h' hl hq s4 => ?e2)
    case s2 =>
      try walk_at "tl"
      rw [rl] at ij'
      refine ⟨fun _ => ⟨b, _, m, rfl, ij', by omega, by omega, by omega, fun y h4 y0 y1 s4 => k _ _ ⟨y.toNat, by omega, by rw [Int.toNat_of_nonneg y0]⟩ s4⟩, fun _ => k _ _ ⟨q, by omega, rfl⟩ ((JarTo.refl ij'.bag).mono (by omega))⟩
    case e2 =>
      rw [rl] at hl s4
      try walk_at "tl"
      obtain ⟨t, e, ht⟩ := nats_turn hl hq
      rw [e]
      exact .inl (r t _ ht ((s13.trans s4).mono (by omega)))
def intsH (xs : List Nat) : T := .lst (xs.map fun (n : Nat) => T.int (n : Int))
theorem intsH_at {xs : List Nat} {i : Nat} (h : i < xs.length) : atI (xs.map fun (n : Nat) => T.int (n : Int)) (i : Int) = some (.int ((xs[i] : Nat) : Int)) := atI_map h
def RuleH (m n E : Nat) (r : Rule) : Prop := RuleOk m n r ∧ r.every ∣ E
theorem num_cell {ns : List Int} {lo hi : Option Int} {t : T} (h : t ∈ numT (cutT (ns.map T.int ++ [.int 0]) lo hi)) : ∃ i c : Int, t = .tup [.int i, .int c] := by
  obtain ⟨i, hi⟩ := List.mem_iff_getElem?.mp h
  obtain ⟨x, hx, rfl⟩ := numT_at hi
  have hm := cut_mem' (List.mem_of_getElem? hx)
  rcases List.mem_append.mp hm with q | q
  · obtain ⟨c, _, rfl⟩ := List.mem_map.mp q
    exact ⟨_, c, rfl⟩
  · rw [List.mem_singleton.mp q]; exact ⟨_, 0, rfl⟩
end TL

namespace TL
open PySem PySem.Spec PyProof.Rows L2
local macro_rules | `(tactic| walk_at "tl") => `(tactic| simp only [got_some, got_if, slot_0, slot_s, br_t, br_f, br_n, asB_b, asI_i, asI1_i, asI2_i, two_2, one_1, head_c, x_indexT, x_tupRgF, tupF_l, asT_f, asQ_f, isi_ftp, len_f, ix_f, walks_ftp, gtL_i, x_var, x_c, x_bin, x_nil, x_cons, x_tup, x_lstF, x_lstC, x_tru, x_tb, x_notT, x_andT, x_orT, x_not, x_and, x_or, x_if, x_chain, x_neg, x_callN, x_isi, x_po0, x_po, x_sl, x_rev, x_frz, x_listC, x_r1, x_tupRg, x_lstRgC, x_dict0, x_dictII, x_bm, x_app, x_popAt, eq_i, ne_i, eq_s, ne_s, len_tupN, walks_tupN, x_call, x_compF, x_compC, x_yes, x_rg1, x_rg2, x_itS, walks_tup, walks_lst, walks_scr, x_seq, x_skip, x_break, x_cont, x_expr, x_ret, x_retN, x_ifS, x_asg, x_nm, x_gnils, x_gcons, x_gtu, x_gsub, mulT_i, mulU_i, x_fld, x_fldPut, x_fldAug, x_meth, x_make, x_callD, x_callK, x_countD, x_indexD, x_lenSet, powB_i, min3_i, x_raise, x_rg3, asI3_i, x_sorted, x_sortedUp, x_enumZ, x_minD, x_minP, x_frzD, x_pre, x_dict3, x_dget2, eqNil_f, neNilL_f, eqNilL_f, x_setI, notInI_f, x_itemsT, isF_f, x_try, x_tryAs, x_isE, x_par3, three_3, mulL_l, x_mulC, asR_l, x_rg2B, isB_b, x_gtuL, x_gsta, sta_c, x_zip,  x_index,  x_enum, enums_tup, enums_lst, enums_scr, mulS_i,  x_com2F, x_gsubD, x_dict0T, x_dict0N, int_i, int_b, keysOf_tupN, x_par, x_aug, x_for, x_never, x_wipe0, x_wipe, add_i, add_t, add_l, add_scr, add_s, sub_i, mul_i, div_i, mod_i, pow_i, cmp_i, asQ_t, asQ_l, asQ_s, asL_l, asL_s, asL_t, asT_t, ix_t, ix_l, ix_s, len_t, len_l, len_s, tupleOf_l, tupleOf_t, listOf_t, listOf_l, max2_i, min2_i, sl_t, sl_l, sl_s, rev_t, rev_l, tru_b, tru_i, ty_non, ty_bl, ty_int, ty_str, ty_tup, ty_lst, List.map_cons, List.map_nil, List.cons_append, List.nil_append, List.append_nil, List.set_cons_zero, List.set_cons_succ, List.length_cons, List.length_nil, List.replicate_succ, List.replicate_zero, Nat.sub_self, Nat.zero_add, Nat.reduceAdd, Nat.reduceSub, Nat.reduceLeDiff, Bool.not_true, Bool.not_false, true_and, and_true, if_true, decide_true, decide_false, EndsT.xe, List.reduceReplicate, Nat.le_refl, Nat.zero_le])
/-- all that a web is but the number of hands and the clock -/
structure Near (w : Web) : Prop where
  m1 : 1 ≤ w.many
  m9 : w.many ≤ 9
  h1 : 1 ≤ w.hands.length
  h6 : w.hands.length ≤ 12
  bl : w.before.length = w.hands.length
  bd : Doings w.many w.before
  hs : ∀ rs ∈ w.hands, HandOk w.many w.hands.length rs
theorem Near.ok {w : Web} (n : Near w) (h : w.hands.length ≤ 6) (c : clockN w.hands ≤ 240) : WebOk w := ⟨n.m1, n.m9, n.h1, h, n.bl, n.bd, n.hs, c⟩
theorem WebOk.near {w : Web} (ok : WebOk w) : Near w := ⟨ok.m1, ok.m9, ok.h1, Nat.le_trans ok.h6 (by decide), ok.bl, ok.bd, ok.hs⟩
theorem doings_tupN {m : Nat} {xs : List Nat} {a b : Int} (h : ∀ x ∈ xs, x < m) (h1 : a ≤ (xs.length : Int)) (h2 : (xs.length : Int) ≤ b) : doings (m : Int) (tupN xs) a b = true := by
  unfold doings tupN
  simp only [List.length_map, Bool.and_eq_true, decide_eq_true_eq, List.all_eq_true]
  refine ⟨⟨h1, h2⟩, fun t ht => ?_⟩
  obtain ⟨x, hx, rfl⟩ := List.mem_map.mp ht
  have := h x hx
  simp only [within, Bool.and_eq_true, decide_eq_true_eq]
  omega
theorem unF_tupN {xs : List Nat} : unF (tupN xs) = tupN xs := rfl
theorem okT1_tupN {h : AH} {xs : List Nat} (hl : xs.length ≤ 5000) : okT1 h (tupN xs) := ⟨okT_tup, fun ys e => by
  have e : xs.map (fun (n : Nat) => T.int (n : Int)) = ys := by injection e
  subst e
  refine ⟨by rw [List.length_map]; exact hl, fun x hx => ?_⟩
  obtain ⟨y, _, rfl⟩ := List.mem_map.mp hx
  exact okT_int⟩
theorem turn_tupN {m : Nat} {xs : List Nat} (h1 : 1 ≤ m) (h9 : m ≤ 9) (h : IsTurn m xs) : turnB (m : Int) (tupN xs) = true := by
  unfold turnB
  rw [doings_tupN h.2 (by rw [h.1]; exact Int.le_refl _) (by rw [h.1]; exact Int.le_refl _)]
  simp only [Bool.and_true, Bool.and_eq_true, decide_eq_true_eq]
  omega
theorem within_nat {a lo hi : Int} (h1 : lo ≤ a) (h2 : a ≤ hi) : within (.int a) lo hi = true := by simp [within, h1, h2]
theorem eq_tup_nil {h : AH} {k c : Nat} {xs : List T} {neg : Bool} (hx : ∀ x ∈ xs, Dt k c x) (hk : k ≤ 39) : opEq neg h (.tup xs) (.tup []) = some (.bl (if neg then !xs.isEmpty else xs.isEmpty)) := by
  obtain ⟨ds, a, b, e, l⟩ := dts hx
  have e1 : toD h deep (.tup xs) = some (.tuple ds) := toD_tup (n := 39) (a h 39 hk)
  have e2 : toD h deep (.tup []) = some (.tuple []) := rfl
  rw [eq_d e1 e2]
  have : PyData.eqv (.tuple ds) (.tuple []) = xs.isEmpty := by
    simp only [PyData.eqv, eqvAll_nil]
    cases xs with
    | nil => cases ds with | nil => rfl | cons _ _ => simp at l
    | cons _ _ => cases ds with | nil => simp at l | cons _ _ => rfl
  rw [this]
theorem dt_whatN {m n : Nat} {w : What} (hm : m ≤ 9) (hn : n ≤ 12) (h : WhatOk m n w) : ∀ x ∈ (match whatT w with | .tup xs => xs | _ => []), Dt 3 2000 x := by
  cases w with
  | own row =>
    intro x hx
    rcases List.mem_cons.mp hx with rfl | hx
    · exact (dt_str (x := "own") (c := 10) (by decide +kernel) (by decide +kernel)).mono (by decide) (by decide)
    · rw [List.mem_singleton.mp hx]
      exact (dt_tupN (L := 6) h.2.1 (fun y hy => by have := h.2.2 y hy; omega)).mono (by decide) (by decide)
  | copy a b c =>
    obtain ⟨h1, h2, h3, h4⟩ := h
    intro x hx
    rcases List.mem_cons.mp hx with rfl | hx
    · exact (dt_str (x := "copy") (c := 10) (by decide +kernel) (by decide +kernel)).mono (by decide) (by decide)
    rcases List.mem_cons.mp hx with rfl | hx
    · exact (dt_int (by omega)).mono (by decide) (by decide)
    rcases List.mem_cons.mp hx with rfl | hx
    · exact (dt_int (by omega)).mono (by decide) (by decide)
    · rw [List.mem_singleton.mp hx]
      exact (dt_tupN (L := 9) (by rw [h4.1]; exact hm) (fun y hy => by have := h4.2 y hy; omega)).mono (by decide) (by decide)
theorem eq_nilF {h : AH} {k c : Nat} {x : T} {xs : List T} (hx : ∀ y ∈ x :: xs, Dt k c y) (hk : k ≤ 39) : opEq false h (.tup (x :: xs)) (.tup []) = some (.bl false) := by
  rw [eq_tup_nil hx hk]; rfl
theorem dec3 : decide (((3 : Nat) : Int) = 3) = true := by decide
theorem dec1 : decide (((1 : Nat) : Int) = 1) = true := by decide
end TL

namespace TL
open PySem PySem.Spec PyProof.Rows L2
local macro_rules | `(tactic| walk_at "tl") => `(tactic| simp only [got_some, got_if, slot_0, slot_s, br_t, br_f, br_n, asB_b, asI_i, asI1_i, asI2_i, two_2, one_1, head_c, x_indexT, x_tupRgF, tupF_l, asT_f, asQ_f, isi_ftp, len_f, ix_f, walks_ftp, gtL_i, x_var, x_c, x_bin, x_nil, x_cons, x_tup, x_lstF, x_lstC, x_tru, x_tb, x_notT, x_andT, x_orT, x_not, x_and, x_or, x_if, x_chain, x_neg, x_callN, x_isi, x_po0, x_po, x_sl, x_rev, x_frz, x_listC, x_r1, x_tupRg, x_lstRgC, x_dict0, x_dictII, x_bm, x_app, x_popAt, eq_i, ne_i, eq_s, ne_s, len_tupN, walks_tupN, x_call, x_compF, x_compC, x_yes, x_rg1, x_rg2, x_itS, walks_tup, walks_lst, walks_scr, x_seq, x_skip, x_break, x_cont, x_expr, x_ret, x_retN, x_ifS, x_asg, x_nm, x_gnils, x_gcons, x_gtu, x_gsub, mulT_i, mulU_i, x_fld, x_fldPut, x_fldAug, x_meth, x_make, x_callD, x_callK, x_countD, x_indexD, x_lenSet, powB_i, min3_i, x_raise, x_rg3, asI3_i, x_sorted, x_sortedUp, x_enumZ, x_minD, x_minP, x_frzD, x_pre, x_dict3, x_dget2, eqNil_f, neNilL_f, eqNilL_f, x_setI, notInI_f, x_itemsT, isF_f, x_try, x_tryAs, x_isE, x_par3, three_3, mulL_l, x_mulC, asR_l, x_rg2B, isB_b, x_gtuL, x_gsta, sta_c, x_zip,  x_index,  x_enum, enums_tup, enums_lst, enums_scr, mulS_i,  x_com2F, x_gsubD, x_dict0T, x_dict0N, int_i, int_b, keysOf_tupN, x_par, x_aug, x_for, x_never, x_wipe0, x_wipe, add_i, add_t, add_l, add_scr, add_s, sub_i, mul_i, div_i, mod_i, pow_i, cmp_i, asQ_t, asQ_l, asQ_s, asL_l, asL_s, asL_t, asT_t, ix_t, ix_l, ix_s, len_t, len_l, len_s, tupleOf_l, tupleOf_t, listOf_t, listOf_l, max2_i, min2_i, sl_t, sl_l, sl_s, rev_t, rev_l, tru_b, tru_i, ty_non, ty_bl, ty_int, ty_str, ty_tup, ty_lst, List.map_cons, List.map_nil, List.cons_append, List.nil_append, List.append_nil, List.set_cons_zero, List.set_cons_succ, List.length_cons, List.length_nil, List.replicate_succ, List.replicate_zero, Nat.sub_self, Nat.zero_add, Nat.reduceAdd, Nat.reduceSub, Nat.reduceLeDiff, Bool.not_true, Bool.not_false, true_and, and_true, if_true, decide_true, decide_false, EndsT.xe, List.reduceReplicate, Nat.le_refl, Nat.zero_le])
def rowT (w : Web) (k m : Nat) : List T := (List.range m).map fun (i : Nat) => T.int ((doingN w 0 (pasts0 w) k (i : Int) : Nat) : Int)
def rowsH (w : Web) (n j : Nat) : AH := (List.range w.hands.length).map fun k => Cell.lst (rowT w k (if k < j then n + 1 else n))
def refsT (h : AH) (w : Web) : List T := (List.range w.hands.length).map fun k => T.ref (h.length + k)
theorem rows_at {h : AH} {w : Web} {n j k : Nat} (hk : k < w.hands.length) : (h ++ rowsH w n j)[h.length + k]? = some (.lst (rowT w k (if k < j then n + 1 else n))) := by
  rw [List.getElem?_append_right (by omega), Nat.add_sub_cancel_left]
  unfold rowsH
  rw [List.getElem?_map, List.getElem?_range hk]; rfl
theorem rows_set {h : AH} {w : Web} {n j : Nat} : (h ++ rowsH w n j).set (h.length + j) (.lst (rowT w j (n + 1))) = h ++ rowsH w n (j + 1) := by
  rw [List.set_append_right _ _ (by omega), Nat.add_sub_cancel_left]
  congr 1
  unfold rowsH
  apply List.ext_getElem?
  intro i
  by_cases hi : i = j
  · subst hi
    by_cases hl : i < w.hands.length
    · rw [List.getElem?_set_self (by simpa using hl), List.getElem?_map, List.getElem?_range hl]
      simp
    · rw [List.getElem?_eq_none (by simp; omega), List.getElem?_eq_none (by simp; omega)]
  · rw [List.getElem?_set_ne (Ne.symm hi), List.getElem?_map, List.getElem?_map]
    by_cases hl : i < w.hands.length
    · rw [List.getElem?_range hl]
      have : (i < j) ↔ (i < j + 1) := by omega
      simp only [Option.map_some, this]
    · rw [List.getElem?_eq_none (by simp; omega)]; rfl
theorem rows_next {w : Web} {n : Nat} : rowsH w n w.hands.length = rowsH w (n + 1) 0 := by
  unfold rowsH
  refine List.map_congr_left fun k hk => ?_
  rw [if_pos (List.mem_range.mp hk), if_neg (Nat.not_lt_zero _)]
theorem refs_at {h : AH} {w : Web} {k : Nat} (hk : k < w.hands.length) : atI (refsT h w) (k : Int) = some (.ref (h.length + k)) := by
  unfold refsT
  rw [atI_map (by rw [List.length_range]; exact hk)]
  simp
theorem row_at {w : Web} {k m i : Nat} (hi : i < m) : atI (rowT w k m) (i : Int) = some (.int ((doingN w 0 (pasts0 w) k (i : Int) : Nat) : Int)) := by
  unfold rowT
  rw [atI_map (by rw [List.length_range]; exact hi)]
  simp
theorem rowT_succ {w : Web} {k m : Nat} : rowT w k (m + 1) = rowT w k m ++ [T.int ((doingN w 0 (pasts0 w) k (m : Int) : Nat) : Int)] := by
  unfold rowT
  rw [List.range_succ, List.map_append]; rfl
theorem range_at {m i : Nat} {x : T} (h : ((List.range m).map fun (i : Nat) => T.int (i : Int))[i]? = some x) : i < m ∧ x = .int (i : Int) := by
  obtain ⟨hl, e⟩ := List.getElem?_eq_some_iff.mp h
  rw [List.length_map, List.length_range] at hl
  refine ⟨hl, ?_⟩
  rw [← e]; simp
theorem rows0 {w : Web} : List.replicate w.hands.length (Cell.lst []) = rowsH w 0 0 := by
  unfold rowsH
  symm
  rw [List.eq_replicate_iff]
  refine ⟨by simp, fun c hc => ?_⟩
  obtain ⟨k, _, rfl⟩ := List.mem_map.mp hc
  simp [rowT]
theorem rowT_len {w : Web} {k m : Nat} : (rowT w k m).length = m := by simp [rowT]
theorem ix_web1 {h : AH} (w : Web) : opIx h (webT w) (.int 1) = some (tupN w.before) := rfl
theorem refsT_len {h h' : AH} {w : Web} (e : h.length = h'.length) : refsT h w = refsT h' w := by unfold refsT; rw [e]
theorem ix_scene {w : Web} {k : Nat} (hk : k < w.hands.length) {b : Int} : (sceneN w 0 (pasts0 w) b).getD k 0 = doingN w 0 (pasts0 w) k b := by
  unfold sceneN
  rw [List.getD_eq_getElem?_getD, List.getElem?_map, List.getElem?_range hk]; rfl
end TL

namespace TL
open PySem PySem.Spec PyProof.Rows L2
local macro_rules | `(tactic| walk_at "tl") => `(tactic| simp only [got_some, got_if, slot_0, slot_s, br_t, br_f, br_n, asB_b, asI_i, asI1_i, asI2_i, two_2, one_1, head_c, x_indexT, x_tupRgF, tupF_l, asT_f, asQ_f, isi_ftp, len_f, ix_f, walks_ftp, gtL_i, x_var, x_c, x_bin, x_nil, x_cons, x_tup, x_lstF, x_lstC, x_tru, x_tb, x_notT, x_andT, x_orT, x_not, x_and, x_or, x_if, x_chain, x_neg, x_callN, x_isi, x_po0, x_po, x_sl, x_rev, x_frz, x_listC, x_r1, x_tupRg, x_lstRgC, x_dict0, x_dictII, x_bm, x_app, x_popAt, eq_i, ne_i, eq_s, ne_s, len_tupN, walks_tupN, x_call, x_compF, x_compC, x_yes, x_rg1, x_rg2, x_itS, walks_tup, walks_lst, walks_scr, x_seq, x_skip, x_break, x_cont, x_expr, x_ret, x_retN, x_ifS, x_asg, x_nm, x_gnils, x_gcons, x_gtu, x_gsub, mulT_i, mulU_i, x_fld, x_fldPut, x_fldAug, x_meth, x_make, x_callD, x_callK, x_countD, x_indexD, x_lenSet, powB_i, min3_i, x_raise, x_rg3, asI3_i, x_sorted, x_sortedUp, x_enumZ, x_minD, x_minP, x_frzD, x_pre, x_dict3, x_dget2, eqNil_f, neNilL_f, eqNilL_f, x_setI, notInI_f, x_itemsT, isF_f, x_try, x_tryAs, x_isE, x_par3, three_3, mulL_l, x_mulC, asR_l, x_rg2B, isB_b, x_gtuL, x_gsta, sta_c, x_zip,  x_index,  x_enum, enums_tup, enums_lst, enums_scr, mulS_i,  x_com2F, x_gsubD, x_dict0T, x_dict0N, int_i, int_b, keysOf_tupN, x_par, x_aug, x_for, x_never, x_wipe0, x_wipe, add_i, add_t, add_l, add_scr, add_s, sub_i, mul_i, div_i, mod_i, pow_i, cmp_i, asQ_t, asQ_l, asQ_s, asL_l, asL_s, asL_t, asT_t, ix_t, ix_l, ix_s, len_t, len_l, len_s, tupleOf_l, tupleOf_t, listOf_t, listOf_l, max2_i, min2_i, sl_t, sl_l, sl_s, rev_t, rev_l, tru_b, tru_i, ty_non, ty_bl, ty_int, ty_str, ty_tup, ty_lst, List.map_cons, List.map_nil, List.cons_append, List.nil_append, List.append_nil, List.set_cons_zero, List.set_cons_succ, List.length_cons, List.length_nil, List.replicate_succ, List.replicate_zero, Nat.sub_self, Nat.zero_add, Nat.reduceAdd, Nat.reduceSub, Nat.reduceLeDiff, Bool.not_true, Bool.not_false, true_and, and_true, if_true, decide_true, decide_false, EndsT.xe, List.reduceReplicate, Nat.le_refl, Nat.zero_le])
def okF (ps : List (Nat × Nat)) : Prop := ∀ p ∈ ps, ∀ q ∈ ps, p.1 = q.1 → p.2 = q.2
instance (ps : List (Nat × Nat)) : Decidable (okF ps) := by unfold okF; infer_instance
def tabF (ps : List (Nat × Nat)) (c : Nat) : Option Nat := (ps.find? fun p => decide (p.1 = c)).map (·.2)
def tabL (m : Nat) (ps : List (Nat × Nat)) : List (Option Nat) := (List.range m).map (tabF ps)
def pairT (p : Nat × Nat) : T := .tup [.int (p.1 : Int), .int (p.2 : Int)]
def tabT (l : List (Option Nat)) : T := .tup (l.map optT)
theorem tabF_mem {ps : List (Nat × Nat)} {c d : Nat} (h : tabF ps c = some d) : (c, d) ∈ ps := by
  unfold tabF at h
  obtain ⟨p, hp, rfl⟩ := Option.map_eq_some_iff.mp h
  have h1 := List.find?_some hp
  have h2 := List.mem_of_find?_eq_some hp
  have h1 : p.1 = c := of_decide_eq_true h1
  rw [← h1]; exact h2
theorem tabF_none {ps : List (Nat × Nat)} {c : Nat} (h : tabF ps c = none) : ∀ p ∈ ps, p.1 ≠ c := fun p hp e => by
  unfold tabF at h
  rw [Option.map_eq_none_iff, List.find?_eq_none] at h
  exact h p hp (decide_eq_true e)
theorem tabF_ok {ps : List (Nat × Nat)} (ok : okF ps) {c d : Nat} : tabF ps c = some d ↔ (c, d) ∈ ps := by
  refine ⟨tabF_mem, fun h => ?_⟩
  cases e : tabF ps c with
  | none => exact absurd rfl (tabF_none e _ h)
  | some d' =>
    have e3 : d' = d := ok _ (tabF_mem e) _ h rfl
    rw [e3]
theorem tabF_snoc {ps : List (Nat × Nat)} {p : Nat × Nat} (c : Nat) : tabF (ps ++ [p]) c = match tabF ps c with | some d => some d | none => if p.1 = c then some p.2 else none := by
  unfold tabF
  rw [List.find?_append]
  cases e : ps.find? fun p => decide (p.1 = c) with
  | some q => simp
  | none =>
    by_cases h : p.1 = c
    · simp [h]
    · simp [h]
theorem okF_snoc {ps : List (Nat × Nat)} {p : Nat × Nat} (ok : okF ps) (h : ∀ d, tabF ps p.1 = some d → d = p.2) : okF (ps ++ [p]) := by
  have key : ∀ q ∈ ps, q.1 = p.1 → q.2 = p.2 := fun q hq e => h _ ((tabF_ok ok).mpr (by rw [← e]; exact hq))
  intro a ha b hb e
  rcases List.mem_append.mp ha with ha | ha
  · rcases List.mem_append.mp hb with hb | hb
    · exact ok a ha b hb e
    · rw [List.mem_singleton.mp hb] at e ⊢; exact key a ha e
  · rw [List.mem_singleton.mp ha] at e ⊢
    rcases List.mem_append.mp hb with hb | hb
    · exact (key b hb e.symm).symm
    · rw [List.mem_singleton.mp hb]
theorem okF_sub {ps qs : List (Nat × Nat)} (ok : okF qs) (h : ∀ p ∈ ps, p ∈ qs) : okF ps := fun a ha b hb e => ok a (h a ha) b (h b hb) e
theorem tabL_sub {m : Nat} {ps qs : List (Nat × Nat)} (ok : okF ps) (ok2 : okF qs) (h : ∀ p, p ∈ ps ↔ p ∈ qs) : tabL m ps = tabL m qs := by
  unfold tabL
  refine List.map_congr_left fun c _ => ?_
  cases e : tabF ps c with
  | some d => exact ((tabF_ok ok2).mpr ((h _).mp (tabF_mem e))).symm
  | none =>
    cases e2 : tabF qs c with
    | none => rfl
    | some d => exact absurd rfl (tabF_none e _ ((h _).mpr (tabF_mem e2)))
theorem tabL_len {m : Nat} {ps : List (Nat × Nat)} : (tabL m ps).length = m := by simp [tabL]
theorem tabL_at {m : Nat} {ps : List (Nat × Nat)} {c : Nat} (hc : c < m) : (tabL m ps)[c]? = some (tabF ps c) := by
  unfold tabL
  rw [List.getElem?_map, List.getElem?_range hc]; rfl
theorem tabL_set {m : Nat} {ps : List (Nat × Nat)} {p : Nat × Nat} (h : ∀ d, tabF ps p.1 = some d → d = p.2) : ((tabL m ps).map optT).set p.1 (.int (p.2 : Int)) = (tabL m (ps ++ [p])).map optT := by
  apply List.ext_getElem?
  intro i
  by_cases hi : i < m
  · rw [List.getElem?_map, tabL_at hi, Option.map_some, tabF_snoc]
    by_cases e : p.1 = i
    · subst e
      rw [List.getElem?_set_self (by rw [List.length_map, tabL_len]; exact hi)]
      cases e2 : tabF ps p.1 with
      | none => simp [optT]
      | some d => rw [h d e2]; rfl
    · rw [List.getElem?_set_ne e, List.getElem?_map, tabL_at hi]
      cases e2 : tabF ps i with
      | none => simp [e]
      | some d => rfl
  · rw [List.getElem?_eq_none (by rw [List.length_set, List.length_map, tabL_len]; omega), List.getElem?_eq_none (by rw [List.length_map, tabL_len]; omega)]
def turnT (m : Nat) (ps : List (Nat × Nat)) : T := if okF ps then tabT (tabL m ps) else .non
theorem clo_tabT {k : Nat} (l : List (Option Nat)) : T.clo k (tabT l) = true := by
  simp only [tabT, T.clo]
  exact clos_of fun t ht => by
    obtain ⟨o, _, rfl⟩ := List.mem_map.mp ht
    cases o <;> simp [optT, T.clo]
def sp_turn_that_fits : ASp := fun ts h R _ => ∃ (m : Nat) (ps : List (Nat × Nat)), ts = [.int (m : Int), .lst (ps.map pairT)] ∧ 1 ≤ m ∧ m ≤ 9 ∧ (∀ p ∈ ps, p.1 < m) ∧ R (turnT m ps) h
def w_turn_that_fits : WSt :=
  (wSeq (wAsg (wMulC (wC (.lst [.non])) (wVar 0)) (gNm 2))
  (wSeq (wFor (wItS (wVar 1)) (gTu 2 (gConss (gNm 3) (gConss (gNm 4) gNils)))
  (wSeq (wIfS (wAndT (wTB (wBin (opIsN true) (wBin opIx (wVar 2) (wVar 3)) (wC .non))) (wTB (wBin (opEq true) (wBin opIx (wVar 2) (wVar 3)) (wVar 4)))) (wRet (wC .non)) wSkip)
  (wAsg (wVar 4) (gSubL (wVar 2) (wVar 3)))))
  (wRet (wCallN opTupleOf (wCons (wVar 2) wNil)))))
theorem hlen_turn_that_fits : ∀ ts h R RX, sp_turn_that_fits ts h R RX → ts.length = 2 := fun ts h R RX ⟨m, _, e, _⟩ => by subst e; rfl
theorem hsp_turn_that_fits : ∀ ts h R RX, sp_turn_that_fits ts h R RX → wBody 5 w_turn_that_fits ts h R RX := by
  rintro ts h R RX ⟨m, ps, rfl, m1, m9, hp, r⟩
  simp only [wBody, w_turn_that_fits]
  try walk_at "tl"
  refine ⟨⟨by omega, by omega, by show 1 * _ ≤ 1000000; omega⟩, ?_⟩
  have e0 : (List.replicate ((m : Nat) : Int).toNat [T.non]).flatten = (tabL m (ps.take 0)).map optT := by
    rw [Int.toNat_natCast]
    apply List.ext_getElem?
    intro i
    have lf : (List.replicate m [T.non]).flatten = List.replicate m T.non := by
      rw [List.flatten_replicate_singleton]
    rw [lf]
    by_cases hi : i < m
    · rw [List.getElem?_replicate, if_pos hi, List.getElem?_map, tabL_at hi]; rfl
    · rw [List.getElem?_eq_none (by rw [List.length_replicate]; omega), List.getElem?_eq_none (by rw [List.length_map, tabL_len]; omega)]
  rw [e0]
  refine loop_inv (fun i ρ h' => h' = h ++ [.lst ((tabL m (ps.take i)).map optT)] ∧ okF (ps.take i) ∧ ∃ a3 a4, ρ = [some (.int (m : Int)), some (.lst (ps.map pairT)), some (.ref h.length), a3, a4]) _ (fun _ _ _ _ => trivial)
    (fun i x ρ h' hx ⟨eh, okp, a3, a4, eρ⟩ N hN => ?step) ⟨rfl, by simp [okF], _, _, rfl⟩ (fun ρ h' ⟨eh, okp, a3, a4, eρ⟩ => ?post)
  case step =>
    subst eh eρ
    rw [List.getElem?_map] at hx
    obtain ⟨p, hpi, rfl⟩ := Option.map_eq_some_iff.mp hx
    have hpm := hp p (List.mem_of_getElem? hpi)
    have nxt : ps.take (i + 1) = ps.take i ++ [p] := by rw [List.take_add_one, hpi]; rfl
    have cell : (h ++ [Cell.lst ((tabL m (ps.take i)).map optT)])[h.length]? = some (.lst ((tabL m (ps.take i)).map optT)) := List.getElem?_concat_length
    have ia : atI ((tabL m (ps.take i)).map optT) ((p.1 : Nat) : Int) = some (optT (tabF (ps.take i) p.1)) := atI_nat (by rw [List.getElem?_map, tabL_at hpm]; rfl)
    have ixn : ixN ((tabL m (ps.take i)).map optT).length ((p.1 : Nat) : Int) = some p.1 := by
      rw [List.length_map, tabL_len]; unfold ixN; simp; omega
    have fin : (∀ d, tabF (ps.take i) p.1 = some d → d = p.2) → N [some (.int (m : Int)), some (.lst (ps.map pairT)), some (.ref h.length), some (.int (p.1 : Int)), some (.int (p.2 : Int))] ((h ++ [Cell.lst ((tabL m (ps.take i)).map optT)]).set h.length (.lst (((tabL m (ps.take i)).map optT).set p.1 (.int (p.2 : Int))))) := fun hd => by
      refine hN _ _ ⟨?_, ?_, _, _, rfl⟩
      · rw [List.set_append_right _ _ (Nat.le_refl _), Nat.sub_self, tabL_set hd, nxt]; rfl
      · rw [nxt]; exact okF_snoc okp hd
    simp only [pairT]
    try walk_at "tl"
    simp only [ix_r cell, ia]
    cases e : tabF (ps.take i) p.1 with
    | none =>
      simp only [optT]
      try walk_at "tl"
      simp only [isN_n]
      try walk_at "tl"
      simp only [lcell_r cell, ixn]
      try walk_at "tl"
      exact fin fun d hd => by rw [e] at hd; cases hd
    | some d =>
      simp only [optT]
      try walk_at "tl"
      simp only [isN_int]
      try walk_at "tl"
      try simp only [ix_r cell, ia, e, optT]
      try walk_at "tl"
      by_cases hd : d = p.2
      · have : decide ((d : Int) = (p.2 : Int)) = true := decide_eq_true (by omega)
        simp only [this]
        try walk_at "tl"
        simp only [lcell_r cell, ixn]
        try walk_at "tl"
        exact fin fun d' hd' => by rw [e] at hd'; cases hd'; exact hd
      · have : decide ((d : Int) = (p.2 : Int)) = false := decide_eq_false (by omega)
        simp only [this]
        try walk_at "tl"
        have hno : ¬ okF ps := fun ok => by
          have m1 := List.mem_of_mem_take (tabF_mem e)
          have m2 := List.mem_of_getElem? hpi
          exact hd (ok _ m1 _ m2 rfl)
        unfold turnT at r
        rw [if_neg hno] at r
        exact .inr ⟨h, ⟨rfl, ⟨_, rfl⟩, fun _ _ q => .inl q, rfl⟩, r⟩
  case post =>
    subst eh eρ
    rw [List.length_map, List.take_length] at okp ⊢
    have cell : (h ++ [Cell.lst ((tabL m ps).map optT)])[h.length]? = some (.lst ((tabL m ps).map optT)) := List.getElem?_concat_length
    try walk_at "tl"
    simp only [tupleOf_r cell]
    try walk_at "tl"
    unfold turnT at r
    rw [if_pos okp] at r
    exact .inr ⟨h, ⟨rfl, ⟨_, rfl⟩, fun _ _ q => .inl q, clos_of fun t ht => by rw [List.mem_singleton.mp ht]; exact clo_tabT _⟩, r⟩
def seenT (m : Nat) (before : List Nat) (rows : List (List Nat)) : T := .tup [.int (m : Int), tupN before, .tup (rows.map tupN)]
def seenN (before : List Nat) (rows : List (List Nat)) (o : Nat) (b : Int) : Nat := if b < 0 then before.getD o 0 else (rows.getD o []).getD b.toNat 0
def seenP (before : List Nat) (rows : List (List Nat)) (L k o a : Nat) : List (Nat × Nat) := (List.range L).map fun (b : Nat) => (seenN before rows o ((b : Int) - (a : Int)), (rows.getD k []).getD b 0)
structure SeenOk (m : Nat) (before : List Nat) (rows : List (List Nat)) (L : Nat) : Prop where
  m1 : 1 ≤ m
  m9 : m ≤ 9
  bl : before.length = rows.length
  r6 : rows.length ≤ 6
  bd : ∀ x ∈ before, x < m
  rl : ∀ r ∈ rows, r.length = L
  rd : ∀ r ∈ rows, ∀ x ∈ r, x < m
  l5 : L ≤ 100000
theorem SeenOk.row {m L : Nat} {before : List Nat} {rows : List (List Nat)} (s : SeenOk m before rows L) {k : Nat} (hk : k < rows.length) : rows.getD k [] ∈ rows := by
  rw [List.getD_eq_getElem?_getD, List.getElem?_eq_getElem hk]
  exact List.getElem_mem hk
theorem SeenOk.lt {m L : Nat} {before : List Nat} {rows : List (List Nat)} (s : SeenOk m before rows L) {o : Nat} (ho : o < rows.length) {b : Int} (hb : b < (L : Int)) : seenN before rows o b < m := by
  unfold seenN
  split
  · exact getD_mem_lt s.bd (by rw [s.bl]; exact ho)
  · have hr := s.row ho
    exact getD_mem_lt (s.rd _ hr) (by rw [s.rl _ hr]; omega)
theorem row_ix {h : AH} {rows : List (List Nat)} {k : Nat} (hk : k < rows.length) : opIx h (.tup (rows.map tupN)) (.int (k : Int)) = some (tupN (rows.getD k [])) := by
  show atI (rows.map tupN) (k : Int) = _
  rw [atI_map hk, List.getD_eq_getElem?_getD, List.getElem?_eq_getElem hk]; rfl
def sp_seen_at : ASp := fun ts h R _ => ∃ (m L o : Nat) (before : List Nat) (rows : List (List Nat)) (b : Int), ts = [seenT m before rows, .int (o : Int), .int b] ∧ SeenOk m before rows L ∧ o < rows.length ∧ b < (L : Int) ∧ R (.int ((seenN before rows o b : Nat) : Int)) h
def w_seen_at : WSt :=
  (wSeq (wAsg (wVar 0) (gTu 3 (gConss (gNm 3) (gConss (gNm 4) (gConss (gNm 5) gNils)))))
  (wRet (wIf (wTB (wBin opLt (wVar 2) (wC (.int 0)))) (wBin opIx (wVar 4) (wVar 1)) (wBin opIx (wBin opIx (wVar 5) (wVar 1)) (wVar 2)))))
theorem hlen_seen_at : ∀ ts h R RX, sp_seen_at ts h R RX → ts.length = 3 := fun ts h R RX ⟨m, _, _, _, _, _, e, _⟩ => by subst e; rfl
theorem hsp_seen_at : ∀ ts h R RX, sp_seen_at ts h R RX → wBody 6 w_seen_at ts h R RX := by
  rintro ts h R RX ⟨m, L, o, before, rows, b, rfl, so, ho, hb, r⟩
  simp only [wBody, w_seen_at, seenT]
  try walk_at "tl"
  unfold seenN at r
  by_cases hb0 : b < 0
  · rw [if_pos hb0] at r
    simp only [decide_eq_true hb0]
    try walk_at "tl"
    rw [ix_tupN (by rw [so.bl]; exact ho)]
    try walk_at "tl"
    exact .inl r
  · rw [if_neg hb0] at r
    simp only [decide_eq_false hb0]
    try walk_at "tl"
    have ra : atI (rows.map tupN) (o : Int) = some (tupN (rows.getD o [])) := row_ix (h := h) ho
    simp only [ra]
    try walk_at "tl"
    obtain ⟨q, rfl⟩ : ∃ q : Nat, b = (q : Int) := ⟨b.toNat, by omega⟩
    have hr := so.row ho
    rw [ix_tupN (by rw [so.rl _ hr]; omega)]
    try walk_at "tl"
    exact .inl r
theorem pairT_fun {α : Type} (f g : α → Nat) (l : List α) : (l.map fun x => T.tup [.int ((f x : Nat) : Int), .int ((g x : Nat) : Int)]) = (l.map fun x => (f x, g x)).map pairT := by
  rw [List.map_map]; rfl
theorem getD_get {xs : List Nat} {i : Nat} (h : i < xs.length) : xs[i] = xs.getD i 0 := by
  rw [List.getD_eq_getElem?_getD, List.getElem?_eq_getElem h]; rfl
theorem numT_map {α : Type} (f : α → T) (l : List α) : numT (l.map f) = l.zipIdx.map fun p => T.tup [.int (p.2 : Int), f p.1] := by
  unfold numT
  rw [List.zipIdx_map, List.map_map]; rfl
def sp_pairs_of : ASp := fun ts h R _ => ∃ (m L k o a : Nat) (before : List Nat) (rows : List (List Nat)), ts = [seenT m before rows, .int (k : Int), .int (o : Int), .int (a : Int)] ∧ SeenOk m before rows L ∧ k < rows.length ∧ o < rows.length ∧ R (.lst ((seenP before rows L k o a).map pairT)) h
def w_pairs_of : WSt :=
  (wRet (wCompF (wEnum (wCons (wBin opIx (wBin opIx (wVar 0) (wC (.int 2))) (wVar 1)) wNil)) (gTu 2 (gConss (gNm 4) (gConss (gNm 5) gNils))) wYes (wTup (wCons (wCall sp_seen_at (wCons (wVar 0) (wCons (wVar 2) (wCons (wBin opSub (wVar 4) (wVar 3)) wNil)))) (wCons (wVar 5) wNil))) [4, 5]))
theorem hlen_pairs_of : ∀ ts h R RX, sp_pairs_of ts h R RX → ts.length = 4 := fun ts h R RX ⟨m, _, _, _, _, _, _, e, _⟩ => by subst e; rfl
theorem hsp_pairs_of : ∀ ts h R RX, sp_pairs_of ts h R RX → wBody 6 w_pairs_of ts h R RX := by
  rintro ts h R RX ⟨m, L, k, o, a, before, rows, rfl, so, hk, ho, r⟩
  have hr := so.row hk
  have l5 := so.l5
  have rl := so.rl _ hr
  have e2 : atI [T.int (m : Int), tupN before, .tup (rows.map tupN)] 2 = some (.tup (rows.map tupN)) := atI_nat (j := 2) rfl
  simp only [wBody, w_pairs_of, seenT]
  try walk_at "tl"
  simp only [e2]
  try walk_at "tl"
  have ra : atI (rows.map tupN) (k : Int) = some (tupN (rows.getD k [])) := row_ix (h := h) hk
  simp only [ra, tupN]
  try walk_at "tl"
  have en : numT ((rows.getD k []).map fun (n : Nat) => T.int (n : Int)) = (List.range L).map fun (b : Nat) => T.tup [.int (b : Int), .int (((rows.getD k []).getD b 0 : Nat) : Int)] := by
    rw [numT_map]
    apply List.ext_getElem?
    intro i
    rw [List.getElem?_map, List.getElem?_map]
    by_cases hi : i < L
    · rw [List.getElem?_range hi, List.getElem?_zipIdx, List.getElem?_eq_getElem (by omega)]
      simp only [Option.map_some, Nat.zero_add]
      rw [getD_get]
    · rw [List.getElem?_eq_none (by rw [List.length_zipIdx]; omega), List.getElem?_eq_none (by rw [List.length_range]; omega)]; rfl
  rw [en]
  refine compL_map (fun (b : Nat) => T.tup [.int (b : Int), .int (((rows.getD k []).getD b 0 : Nat) : Int)]) (fun (b : Nat) => T.tup [.int ((seenN before rows o ((b : Int) - (a : Int)) : Nat) : Int), .int (((rows.getD k []).getD b 0 : Nat) : Int)]) (List.range L) trivial (fun b hb Ky Kn kk => ?s0) (by rw [List.length_range]; show _ ≤ 1000000; omega) ?e0
  case s0 =>
    have hb := List.mem_range.mp hb
    try walk_at "tl"
    refine ⟨m, L, o, before, rows, _, rfl, so, ho, by omega, ?_⟩
    exact ⟨by decide, kk⟩
  case e0 =>
    rw [pairT_fun]
    exact .inl r
structure Cpy where
  o : Nat
  a : Nat
  t : List (Option Nat)
def cpyT (c : Cpy) : T := .tup [.int (c.o : Int), .int (c.a : Int), tabT c.t]
def fitO (m : Nat) (ps : List (Nat × Nat)) (o a : Nat) : Option Cpy := if okF ps then some ⟨o, a, tabL m ps⟩ else none
def fitsL (m : Nat) (P : Nat → Nat → List (Nat × Nat)) (n most : Nat) : List Cpy := (List.range n).flatMap fun o => (List.range most).filterMap fun i => fitO m (P o (i + 1)) o (i + 1)
theorem fits_len {m n most : Nat} {P : Nat → Nat → List (Nat × Nat)} : (fitsL m P n most).length ≤ n * most := by
  unfold fitsL
  rw [List.length_flatMap]
  induction n with
  | zero => simp
  | succ n ih =>
    rw [List.range_succ, List.map_append, List.sum_append, Nat.succ_mul]
    have : (List.filterMap (fun i => fitO m (P n (i + 1)) n (i + 1)) (List.range most)).length ≤ most := Nat.le_trans (List.length_filterMap_le _ _) (by simp)
    simp only [List.map_cons, List.map_nil, List.sum_cons, List.sum_nil]
    omega
theorem clo_cpy {k : Nat} (c : Cpy) : T.clo k (cpyT c) = true := by
  simp only [cpyT, T.clo, T.clos, clo_tabT, Bool.and_true]
end TL

namespace TL
open PySem PySem.Spec PyProof.Rows L2
local macro_rules | `(tactic| walk_at "tl") => `(tactic| simp only [got_some, got_if, slot_0, slot_s, br_t, br_f, br_n, asB_b, asI_i, asI1_i, asI2_i, two_2, one_1, head_c, x_indexT, x_tupRgF, tupF_l, asT_f, asQ_f, isi_ftp, len_f, ix_f, walks_ftp, gtL_i, x_var, x_c, x_bin, x_nil, x_cons, x_tup, x_lstF, x_lstC, x_tru, x_tb, x_notT, x_andT, x_orT, x_not, x_and, x_or, x_if, x_chain, x_neg, x_callN, x_isi, x_po0, x_po, x_sl, x_rev, x_frz, x_listC, x_r1, x_tupRg, x_lstRgC, x_dict0, x_dictII, x_bm, x_app, x_popAt, eq_i, ne_i, eq_s, ne_s, len_tupN, walks_tupN, x_call, x_compF, x_compC, x_yes, x_rg1, x_rg2, x_itS, walks_tup, walks_lst, walks_scr, x_seq, x_skip, x_break, x_cont, x_expr, x_ret, x_retN, x_ifS, x_asg, x_nm, x_gnils, x_gcons, x_gtu, x_gsub, mulT_i, mulU_i, x_fld, x_fldPut, x_fldAug, x_meth, x_make, x_callD, x_callK, x_countD, x_indexD, x_lenSet, powB_i, min3_i, x_raise, x_rg3, asI3_i, x_sorted, x_sortedUp, x_enumZ, x_minD, x_minP, x_frzD, x_pre, x_dict3, x_dget2, eqNil_f, neNilL_f, eqNilL_f, x_setI, notInI_f, x_itemsT, isF_f, x_try, x_tryAs, x_isE, x_par3, three_3, mulL_l, x_mulC, asR_l, x_rg2B, isB_b, x_gtuL, x_gsta, sta_c, x_zip,  x_index,  x_enum, enums_tup, enums_lst, enums_scr, mulS_i,  x_com2F, x_gsubD, x_dict0T, x_dict0N, int_i, int_b, keysOf_tupN, x_par, x_aug, x_for, x_never, x_wipe0, x_wipe, add_i, add_t, add_l, add_scr, add_s, sub_i, mul_i, div_i, mod_i, pow_i, cmp_i, asQ_t, asQ_l, asQ_s, asL_l, asL_s, asL_t, asT_t, ix_t, ix_l, ix_s, len_t, len_l, len_s, tupleOf_l, tupleOf_t, listOf_t, listOf_l, max2_i, min2_i, sl_t, sl_l, sl_s, rev_t, rev_l, tru_b, tru_i, ty_non, ty_bl, ty_int, ty_str, ty_tup, ty_lst, List.map_cons, List.map_nil, List.cons_append, List.nil_append, List.append_nil, List.set_cons_zero, List.set_cons_succ, List.length_cons, List.length_nil, List.replicate_succ, List.replicate_zero, Nat.sub_self, Nat.zero_add, Nat.reduceAdd, Nat.reduceSub, Nat.reduceLeDiff, Bool.not_true, Bool.not_false, true_and, and_true, if_true, decide_true, decide_false, EndsT.xe, List.reduceReplicate, Nat.le_refl, Nat.zero_le])
def cellS (l : List Nat) : Cell := .lst (l.map fun (n : Nat) => T.int (n : Int))
def cellsS (Rs : List (List Nat)) : AH := Rs.map cellS
theorem cellsS_at {g : AH} {Rs : List (List Nat)} {k : Nat} {r : List Nat} (h : Rs[k]? = some r) : (g ++ cellsS Rs)[g.length + k]? = some (.lst (r.map fun (n : Nat) => T.int (n : Int))) := by
  rw [List.getElem?_append_right (by omega), Nat.add_sub_cancel_left]
  unfold cellsS
  rw [List.getElem?_map, h]; rfl
theorem cellsS_set {g : AH} {Rs : List (List Nat)} {k : Nat} {r : List Nat} : (g ++ cellsS Rs).set (g.length + k) (cellS r) = g ++ cellsS (Rs.set k r) := by
  rw [List.set_append_right _ _ (by omega), Nat.add_sub_cancel_left]
  unfold cellsS
  rw [List.map_set]
theorem rangeS_at {m i : Nat} {x : T} (h : ((List.range m).map fun (i : Nat) => T.int (i : Int))[i]? = some x) : i < m ∧ x = .int (i : Int) := by
  obtain ⟨hl, e⟩ := List.getElem?_eq_some_iff.mp h
  rw [List.length_map, List.length_range] at hl
  refine ⟨hl, ?_⟩
  rw [← e]; simp
/-- the rows while beat i is written: those below j are one longer -/
structure RowsS (m c i j : Nat) (Rs : List (List Nat)) : Prop where
  c_ : Rs.length = c
  l_ : ∀ k r, Rs[k]? = some r → r.length = if k < j then i + 1 else i
  d_ : ∀ r ∈ Rs, ∀ x ∈ r, x < m
theorem RowsS.next {m c i : Nat} {Rs : List (List Nat)} (x : RowsS m c i c Rs) : RowsS m c (i + 1) 0 Rs := ⟨x.c_, fun k r h => by
  have hk : k < c := by rw [← x.c_]; exact (List.getElem?_eq_some_iff.mp h).1
  have := x.l_ k r h
  rw [if_pos hk] at this
  rw [if_neg (Nat.not_lt_zero k), this], x.d_⟩
theorem RowsS.more {m c i j : Nat} {Rs : List (List Nat)} (x : RowsS m c i j Rs) {r : List Nat} (hr : Rs[j]? = some r) {d : Nat} (hd : d < m) : RowsS m c i (j + 1) (Rs.set j (r ++ [d])) := ⟨by rw [List.length_set]; exact x.c_, fun k r' h => by
  have hj := (List.getElem?_eq_some_iff.mp hr).1
  by_cases e : k = j
  · subst e
    rw [List.getElem?_set_self hj] at h
    cases h
    have := x.l_ k r hr
    rw [if_neg (Nat.lt_irrefl k)] at this
    rw [if_pos (Nat.lt_succ_self k), List.length_append, this]; rfl
  · rw [List.getElem?_set_ne (fun z => e z.symm)] at h
    have := x.l_ k r' h
    rw [this]
    by_cases c2 : k < j
    · rw [if_pos c2, if_pos (by omega)]
    · rw [if_neg c2, if_neg (by omega)], fun r' hr' y hy => by
  rcases List.mem_or_eq_of_mem_set hr' with z | z
  · exact x.d_ r' z y hy
  · subst z
    rcases List.mem_append.mp hy with z | z
    · exact x.d_ r (List.mem_of_getElem? hr) y z
    · rw [List.mem_singleton.mp z]; exact hd⟩
def refsS (n c : Nat) : List T := (List.range c).map fun k => T.ref (n + k)
theorem refsS_at {n c k : Nat} (h : k < c) : atI (refsS n c) (k : Int) = some (.ref (n + k)) := by
  unfold refsS
  rw [atI_map (by rw [List.length_range]; exact h)]; simp
def WayT (m c : Nat) (y : T) : Prop := ∃ (o a : Nat) (t : List Nat), y = .tup [.int (o : Int), .int (a : Int), tupN t] ∧ o < c ∧ 1 ≤ a ∧ a ≤ 12 ∧ IsTurn m t
def sp__law_some_seen : ASp := fun ts h R _ => ∃ (b N long : Nat), ts = [.ref b, .int (long : Int)] ∧ IsJar h b N ∧ N ≤ 10 ^ 6 ∧ 1 ≤ long ∧ long ≤ 300 ∧ ∀ (m : Nat) (bf : List Nat) (rows : List (List Nat)) (L : Nat) h', SeenOk m bf rows L → 1 ≤ rows.length → 1 ≤ L → L ≤ long → JarTo b 5000 h h' → R (seenT m bf rows) h'
def w__law_some_seen : WSt :=
  (wSeq (wAsg (wBin opIx (wLstF (wCons (wBin opAdd (wC (.int 1)) (wCall sp__law_draw (wCons (wVar 0) (wCons (wC (.int 9)) wNil)))) (wCons (wC (.int 2)) (wCons (wC (.int 3)) wNil)))) (wCall sp__law_draw (wCons (wVar 0) (wCons (wC (.int 3)) wNil)))) (gNm 2))
  (wSeq (wAsg (wBin opAdd (wC (.int 1)) (wCall sp__law_draw (wCons (wVar 0) (wCons (wC (.int 6)) wNil)))) (gNm 3))
  (wSeq (wAsg (wCallN opTupleOf (wCons (wCompF (wRg1 (wCons (wVar 3) wNil)) (gNm 14) wYes (wCall sp__law_draw (wCons (wVar 0) (wCons (wVar 2) wNil))) [14]) wNil)) (gNm 4))
  (wSeq (wAsg (wCompF (wRg1 (wCons (wVar 3) wNil)) (gNm 14) wYes (wTup (wCons (wCall sp__law_draw (wCons (wVar 0) (wCons (wVar 3) wNil))) (wCons (wBin opAdd (wC (.int 1)) (wCall sp__law_draw (wCons (wVar 0) (wCons (wC (.int 12)) wNil)))) (wCons (wCall sp__law_shift (wCons (wVar 0) (wCons (wVar 2) wNil))) wNil)))) [14]) (gNm 5))
  (wSeq (wAsg (wBin opIx (wLstF (wCons (wC (.int 1)) (wCons (wC (.int 4)) (wCons (wC (.int 30)) (wCons (wBin opPow (wC (.int 10)) (wC (.int 6))) wNil))))) (wCall sp__law_draw (wCons (wVar 0) (wCons (wC (.int 4)) wNil)))) (gNm 6))
  (wSeq (wAsg (wCompF (wRg1 (wCons (wVar 3) wNil)) (gNm 14) wYes (wLstC wNil) [14]) (gNm 7))
  (wSeq (wFor (wRg1 (wCons (wBin opAdd (wC (.int 1)) (wCall sp__law_draw (wCons (wVar 0) (wCons (wVar 1) wNil)))) wNil)) (gNm 8)
  (wFor (wRg1 (wCons (wVar 3) wNil)) (gNm 9)
  (wSeq (wAsg (wBin opIx (wVar 5) (wVar 9)) (gTu 3 (gConss (gNm 10) (gConss (gNm 11) (gConss (gNm 12) gNils)))))
  (wSeq (wAsg (wBin opIx (wVar 12) (wIf (wTB (wBin opGe (wVar 8) (wVar 11))) (wBin opIx (wBin opIx (wVar 7) (wVar 10)) (wBin opSub (wVar 8) (wVar 11))) (wBin opIx (wVar 4) (wVar 10)))) (gNm 13))
  (wSeq (wIfS (wTB (wBin (opEq false) (wCall sp__law_draw (wCons (wVar 0) (wCons (wVar 6) wNil))) (wC (.int 0)))) (wAsg (wCall sp__law_draw (wCons (wVar 0) (wCons (wVar 2) wNil))) (gNm 13)) wSkip)
  (wExpr (wBM mAppend (wBin opIx (wVar 7) (wVar 9)) (wCons (wVar 13) wNil))))))))
  (wRet (wTup (wCons (wVar 2) (wCons (wVar 4) (wCons (wCallN opTupleOf (wCons (wCompF (wItS (wVar 7)) (gNm 15) wYes (wCallN opTupleOf (wCons (wVar 15) wNil)) [15]) wNil)) wNil))))))))))))
def w__law_some_seen_t2 : WSt :=
  (wSeq (wFor (wRg1 (wCons (wBin opAdd (wC (.int 1)) (wCall sp__law_draw (wCons (wVar 0) (wCons (wVar 1) wNil)))) wNil)) (gNm 8)
  (wFor (wRg1 (wCons (wVar 3) wNil)) (gNm 9)
  (wSeq (wAsg (wBin opIx (wVar 5) (wVar 9)) (gTu 3 (gConss (gNm 10) (gConss (gNm 11) (gConss (gNm 12) gNils)))))
  (wSeq (wAsg (wBin opIx (wVar 12) (wIf (wTB (wBin opGe (wVar 8) (wVar 11))) (wBin opIx (wBin opIx (wVar 7) (wVar 10)) (wBin opSub (wVar 8) (wVar 11))) (wBin opIx (wVar 4) (wVar 10)))) (gNm 13))
  (wSeq (wIfS (wTB (wBin (opEq false) (wCall sp__law_draw (wCons (wVar 0) (wCons (wVar 6) wNil))) (wC (.int 0)))) (wAsg (wCall sp__law_draw (wCons (wVar 0) (wCons (wVar 2) wNil))) (gNm 13)) wSkip)
  (wExpr (wBM mAppend (wBin opIx (wVar 7) (wVar 9)) (wCons (wVar 13) wNil))))))))
  (wRet (wTup (wCons (wVar 2) (wCons (wVar 4) (wCons (wCallN opTupleOf (wCons (wCompF (wItS (wVar 7)) (gNm 15) wYes (wCallN opTupleOf (wCons (wVar 15) wNil)) [15]) wNil)) wNil))))))
def w__law_some_seen_t1 : WSt :=
  (wSeq (wAsg (wCompF (wRg1 (wCons (wVar 3) wNil)) (gNm 14) wYes (wLstC wNil) [14]) (gNm 7)) w__law_some_seen_t2)
theorem w__law_some_seen_cut1 : w__law_some_seen = (wSeq (wAsg (wBin opIx (wLstF (wCons (wBin opAdd (wC (.int 1)) (wCall sp__law_draw (wCons (wVar 0) (wCons (wC (.int 9)) wNil)))) (wCons (wC (.int 2)) (wCons (wC (.int 3)) wNil)))) (wCall sp__law_draw (wCons (wVar 0) (wCons (wC (.int 3)) wNil)))) (gNm 2)) (wSeq (wAsg (wBin opAdd (wC (.int 1)) (wCall sp__law_draw (wCons (wVar 0) (wCons (wC (.int 6)) wNil)))) (gNm 3)) (wSeq (wAsg (wCallN opTupleOf (wCons (wCompF (wRg1 (wCons (wVar 3) wNil)) (gNm 14) wYes (wCall sp__law_draw (wCons (wVar 0) (wCons (wVar 2) wNil))) [14]) wNil)) (gNm 4)) (wSeq (wAsg (wCompF (wRg1 (wCons (wVar 3) wNil)) (gNm 14) wYes (wTup (wCons (wCall sp__law_draw (wCons (wVar 0) (wCons (wVar 3) wNil))) (wCons (wBin opAdd (wC (.int 1)) (wCall sp__law_draw (wCons (wVar 0) (wCons (wC (.int 12)) wNil)))) (wCons (wCall sp__law_shift (wCons (wVar 0) (wCons (wVar 2) wNil))) wNil)))) [14]) (gNm 5)) (wSeq (wAsg (wBin opIx (wLstF (wCons (wC (.int 1)) (wCons (wC (.int 4)) (wCons (wC (.int 30)) (wCons (wBin opPow (wC (.int 10)) (wC (.int 6))) wNil))))) (wCall sp__law_draw (wCons (wVar 0) (wCons (wC (.int 4)) wNil)))) (gNm 6)) w__law_some_seen_t1))))) := rfl
theorem hlen__law_some_seen : ∀ ts h R RX, sp__law_some_seen ts h R RX → ts.length = 2 := fun ts h R RX ⟨_, _, _, e, _⟩ => by subst e; rfl
theorem hsp__law_some_seen : ∀ ts h R RX, sp__law_some_seen ts h R RX → wBody 16 w__law_some_seen ts h R RX := by
  rintro ts h R RX ⟨b, N, long, rfl, ij, hN, lo1, lo3, r⟩
  rw [w__law_some_seen_cut1]
  simp only [wBody]
  generalize et : w__law_some_seen_t1 = tl
  try walk_at "tl"
  refine ⟨b, N, 9, rfl, ij, by omega, by decide, by decide, fun x1 h1 x10 x11 s1 => ?_⟩
  have ij1 := s1.jar _ ij
  try walk_at "tl"
  refine ⟨by decide, b, _, 3, rfl, ij1, by omega, by decide, by decide, fun x2 h2 x20 x21 s2 => ?_⟩
  have ij2 := s2.jar _ ij1
  obtain ⟨m, em, m1, m9⟩ : ∃ m : Nat, atI [T.int (1 + x1), T.int 2, T.int 3] x2 = some (.int (m : Int)) ∧ 1 ≤ m ∧ m ≤ 9 := by
    obtain ⟨x1, rfl⟩ := Int.eq_ofNat_of_zero_le x10
    obtain rfl | rfl | rfl : x2 = 0 ∨ x2 = 1 ∨ x2 = 2 := by omega
    · exact ⟨1 + x1, rfl, by omega, by omega⟩
    · exact ⟨2, rfl, by decide, by decide⟩
    · exact ⟨3, rfl, by decide, by decide⟩
  try walk_at "tl"
  simp only [em]
  try walk_at "tl"
  refine ⟨b, _, 6, rfl, ij2, by omega, by decide, by decide, fun x3 h3 x30 x31 s3 => ?_⟩
  have ij3 := s3.jar _ ij2
  obtain ⟨c, ec, c1, c6⟩ : ∃ c : Nat, (1 : Int) + x3 = c ∧ 1 ≤ c ∧ c ≤ 6 := ⟨(1 + x3).toNat, by omega, by omega, by omega⟩
  try walk_at "tl"
  simp only [ec]
  have e0 : rangeT 0 (c : Int).toNat = (List.range c).map fun (i : Nat) => T.int (i : Int) := range_map rfl
  have l0 : ((List.range c).map fun (i : Nat) => T.int (i : Int)).length = c := by simp
  have bound : (c : Int) < 2 ^ 62 ∧ -(2 ^ 62) ≤ (c : Int) := by omega
  try walk_at "tl"
  refine ⟨bound.1, bound.2, ?_⟩
  rw [e0]
  refine compL_jar (N := _) 1 (fun y => ∃ n : Nat, y = .int (n : Int) ∧ n < m) _ ij3 (fun _ _ => trivial) (by rw [l0]; show _ ≤ 1000000; omega) (fun t ht hh sb ijh Ky Kn kk => ?s1) (fun acc h4 al aq s4 => ?e1)
  case s1 =>
    obtain ⟨i, hi, rfl⟩ := List.mem_map.mp ht
    rw [l0] at ijh
    try walk_at "tl"
    refine ⟨b, _, (m : Int), rfl, ijh, by omega, by omega, by omega, fun y h5 y0 y1 s5 => ?_⟩
    obtain ⟨y, rfl⟩ := Int.eq_ofNat_of_zero_le y0
    try walk_at "tl"
    exact kk _ _ ⟨y, rfl, by omega⟩ s5
  case e1 =>
  rw [l0] at al s4
  obtain ⟨bf, ebf, bl, bd⟩ : ∃ bf : List Nat, acc = bf.map (fun (n : Nat) => T.int (n : Int)) ∧ bf.length = c ∧ ∀ x ∈ bf, x < m := by
    have : Nats m acc := fun y hy => by obtain ⟨n, h1, h2⟩ := aq y hy; exact ⟨n, by first | exact h1 | exact h2, by first | exact h2 | exact h1⟩
    obtain ⟨t, e, l, a⟩ := this.list
    exact ⟨t, e, by rw [l, al], a⟩
  have e9 : T.tup acc = tupN bf := by rw [ebf]; rfl
  have ij4 := s4.jar _ ij3
  try walk_at "tl"
  refine ⟨bound.1, bound.2, ?_⟩
  rw [e9]
  refine compL_jar (N := _) 15 (WayT m c) _ ij4 (fun _ _ => trivial) (by rw [l0]; show _ ≤ 1000000; omega) (fun t ht hh sb ijh Ky Kn kk => ?s2) (fun ways h5 wl wq s5 => ?e2)
  case s2 =>
    obtain ⟨i, hi, rfl⟩ := List.mem_map.mp ht
    rw [l0] at ijh
    try walk_at "tl"
    refine ⟨b, _, (c : Int), rfl, ijh, by omega, by omega, by omega, fun o g1 o0 o1 t1 => ?_⟩
    obtain ⟨o, rfl⟩ := Int.eq_ofNat_of_zero_le o0
    have ijg1 := t1.jar _ ijh
    try walk_at "tl"
    refine ⟨b, _, 12, rfl, ijg1, by omega, by decide, by decide, fun a g2 a0 a1 t2 => ?_⟩
    obtain ⟨a, rfl⟩ := Int.eq_ofNat_of_zero_le a0
    have ijg2 := t2.jar _ ijg1
    try walk_at "tl"
    refine ⟨b, _, m, rfl, ijg2, by omega, m1, m9, fun tr g3 ht3 t3 => ?_⟩
    try walk_at "tl"
    exact ⟨by decide, kk _ _ ⟨o, 1 + a, tr, rfl, by omega, by omega, by omega, ht3⟩ (((t1.trans t2).trans t3).mono (by decide))⟩
  case e2 =>
  rw [l0] at wl s5
  have ij5 := s5.jar _ ij4
  try walk_at "tl"
  refine ⟨⟨by decide, by decide, by decide⟩, by decide, b, _, 4, rfl, ij5, by omega, by decide, by decide, fun x6 h6 x60 x61 s6 => ?_⟩
  have ij6 := s6.jar _ ij5
  obtain ⟨sg, esg, sg1, sg2⟩ : ∃ sg : Int, atI [T.int 1, T.int 4, T.int 30, T.int (10 ^ Int.toNat 6)] x6 = some (.int sg) ∧ 0 < sg ∧ sg < 2 ^ 100 := by
    obtain rfl | rfl | rfl | rfl : x6 = 0 ∨ x6 = 1 ∨ x6 = 2 ∨ x6 = 3 := by omega
    · exact ⟨1, rfl, by decide, by decide⟩
    · exact ⟨4, rfl, by decide, by decide⟩
    · exact ⟨30, rfl, by decide, by decide⟩
    · exact ⟨10 ^ Int.toNat 6, rfl, by decide, by decide⟩
  try walk_at "tl"
  simp only [esg]
  try walk_at "tl"
  have sA := ((((s1.trans s2).trans s3).trans s4).trans s5).trans s6
  rw [← et]
  clear et
  unfold w__law_some_seen_t1
  generalize et : w__law_some_seen_t2 = tl2
  try walk_at "tl"
  refine ⟨bound.1, bound.2, ?_⟩
  rw [e0]
  refine compL_inv (fun i acc hh => hh = h6 ++ List.replicate i (.lst []) ∧ acc = refsS h6.length i) _ (fun _ _ _ _ => trivial) (by rw [l0]; show _ ≤ 1000000; omega) (fun i t acc hh ht ⟨eh, ea⟩ Ky Kn kk => ?cstep) ⟨by simp, rfl⟩ (fun acc hh hl ⟨eh, ea⟩ => ?cend)
  case cstep =>
    subst eh ea
    try walk_at "tl"
    refine kk _ _ ⟨?_, ?_⟩
    · rw [List.append_assoc]; congr 1; rw [List.replicate_succ']
    · unfold refsS; rw [List.range_succ, List.map_append]; simp
  case cend =>
  rw [l0] at eh ea
  have ecs : List.replicate c (Cell.lst []) = cellsS (List.replicate c []) := by unfold cellsS; rw [List.map_replicate]; rfl
  rw [ecs] at eh
  subst eh ea
  rw [← et]
  clear et
  unfold w__law_some_seen_t2
  try walk_at "tl"
  refine ⟨b, _, (long : Int), rfl, ij6.app _, by omega, by omega, by omega, fun x7 h7' x70 x71 s7' => ?_⟩
  obtain ⟨h7, rfl, s7⟩ := s7'.app ij6.lt
  have ij7 := s7.jar _ ij6
  have l7 := s7.len
  obtain ⟨L, eL, L1, L2⟩ : ∃ L : Nat, (1 : Int) + x7 = L ∧ 1 ≤ L ∧ L ≤ long := ⟨(1 + x7).toNat, by omega, by omega, by omega⟩
  try walk_at "tl"
  simp only [eL]
  have eR : rangeT 0 (L : Int).toNat = (List.range L).map fun (i : Nat) => T.int (i : Int) := range_map rfl
  try walk_at "tl"
  refine ⟨by omega, by omega, ?_⟩
  rw [eR]
  have rs0 : RowsS m c 0 0 (List.replicate c []) := ⟨List.length_replicate, fun k r hr => by
    have := List.mem_of_getElem? hr
    rw [List.eq_of_mem_replicate this]; rfl, fun r hr x hx => by rw [List.eq_of_mem_replicate hr] at hx; cases hx⟩
  refine loop_inv (fun i ρ hh => ∃ (g : AH) (Rs : List (List Nat)) (a8 a9 a10 a11 a12 a13 a14 a15 : Option T), hh = g ++ cellsS Rs ∧ JarTo b (i * 12) h7 g ∧ RowsS m c i 0 Rs ∧ ρ = [some (T.ref b), some (T.int ↑long), some (T.int ↑m), some (T.int ↑c), some (tupN bf), some (T.lst ways), some (T.int sg), some (T.lst (refsS h6.length c)), a8, a9, a10, a11, a12, a13, a14, a15]) _ (fun _ _ _ _ => trivial)
    (fun i x ρ hh hx ⟨g, Rs, a8, a9, a10, a11, a12, a13, a14, a15, eh, sg_, rs, eρ⟩ NN hN2 => ?step) ⟨h7, List.replicate c [], _, _, _, _, _, _, _, _, rfl, (JarTo.refl ij7.bag).mono (by omega), rs0, rfl⟩ (fun ρ hh ⟨g, Rs, a8, a9, a10, a11, a12, a13, a14, a15, eh, sg_, rs, eρ⟩ => ?post)
  case post =>
    subst eh eρ
    rw [List.length_map, List.length_range] at sg_ rs
    have lg : g.length = h6.length := by rw [sg_.len, l7]
    have lR : Rs.length = c := rs.c_
    try walk_at "tl"
    have er : refsS h6.length c = (List.range c).map fun k => T.ref (h6.length + k) := rfl
    rw [er]
    refine compL_map (fun k => T.ref (h6.length + k)) (fun k => tupN (Rs.getD k [])) (List.range c) trivial (fun k hk Ky Kn kk => ?s3) (by rw [List.length_range]; show _ ≤ 1000000; omega) ?e3
    case s3 =>
      have hk := List.mem_range.mp hk
      have cell := cellsS_at (g := g) (Rs := Rs) (k := k) (r := Rs.getD k []) (by rw [List.getD_eq_getElem?_getD, List.getElem?_eq_getElem (by omega)]; rfl)
      rw [lg] at cell
      try walk_at "tl"
      simp only [tupleOf_r cell]
      try walk_at "tl"
      exact kk
    case e3 =>
      have e4 : ((List.range c).map fun k => tupN (Rs.getD k [])) = Rs.map tupN := by
        apply List.ext_getElem?
        intro k
        rw [List.getElem?_map, List.getElem?_map]
        by_cases hk : k < c
        · rw [List.getElem?_range hk, List.getElem?_eq_getElem (by omega)]
          simp only [Option.map_some]
          rw [List.getD_eq_getElem?_getD, List.getElem?_eq_getElem (show k < Rs.length by omega)]; rfl
        · rw [List.getElem?_eq_none (by rw [List.length_range]; omega), List.getElem?_eq_none (by omega)]; rfl
      rw [e4]
      try walk_at "tl"
      have so : SeenOk m bf Rs L := ⟨m1, m9, by rw [bl, lR], by omega, bd, fun r' hr' => by
        obtain ⟨k, hk⟩ := List.mem_iff_getElem?.mp hr'
        rw [rs.l_ k r' hk, if_neg (Nat.not_lt_zero k)], rs.d_, by omega⟩
      have sT := (sA.trans s7).trans sg_
      refine ⟨by decide, .inr ⟨g, sT.to.pop (cellsS Rs) ?_, r m bf Rs L g so (by omega) L1 L2 (sT.mono (by omega))⟩⟩
      have cc : ∀ k, T.clos k [T.tup [T.int (m : Int), tupN bf, T.tup (Rs.map tupN)]] = true := fun k => by
        have c2 : T.clos k (Rs.map tupN) = true := clos_of fun t ht => by
          obtain ⟨l, _, rfl⟩ := List.mem_map.mp ht
          exact clo_tupN
        simp only [T.clos, T.clo, clo_tupN, c2, Bool.and_true]
      exact cc _
  case step =>
    subst eh eρ
    obtain ⟨hi, rfl⟩ := rangeS_at hx
    have lg : g.length = h6.length := by rw [sg_.len, l7]
    have ijg := sg_.jar _ ij7
    try walk_at "tl"
    refine ⟨bound.1, bound.2, ?_⟩
    rw [e0]
    refine loop_inv (fun j ρ hh => ∃ (g2 : AH) (Rs : List (List Nat)) (a9 a10 a11 a12 a13 a14 a15 : Option T), hh = g2 ++ cellsS Rs ∧ JarTo b (j * 2) g g2 ∧ RowsS m c i j Rs ∧ ρ = [some (T.ref b), some (T.int ↑long), some (T.int ↑m), some (T.int ↑c), some (tupN bf), some (T.lst ways), some (T.int sg), some (T.lst (refsS h6.length c)), some (.int (i : Int)), a9, a10, a11, a12, a13, a14, a15]) _ (fun _ _ _ _ => trivial)
      (fun j x ρ hh hx ⟨g2, Rs, a9, a10, a11, a12, a13, a14, a15, eh, sg2_, rs, eρ⟩ N3 hN3 => ?step2) ⟨g, Rs, _, _, _, _, _, _, _, rfl, (JarTo.refl ijg.bag).mono (by omega), rs, rfl⟩ (fun ρ hh ⟨g2, Rs, a9, a10, a11, a12, a13, a14, a15, eh, sg2_, rs, eρ⟩ => ?post2)
    case post2 =>
      subst eh eρ
      rw [l0] at sg2_ rs
      exact hN2 _ _ ⟨g2, Rs, _, _, _, _, _, _, _, _, rfl, (sg_.trans sg2_).mono (by omega), rs.next, rfl⟩
    case step2 =>
      subst eh eρ
      obtain ⟨hj, rfl⟩ := rangeS_at hx
      have lg2 : g2.length = h6.length := by rw [sg2_.len, lg]
      have ijg2 := sg2_.jar _ ijg
      obtain ⟨y, hy⟩ : ∃ y, ways[j]? = some y := ⟨_, List.getElem?_eq_getElem (by omega)⟩
      obtain ⟨o, a, tr, rfl, ho, a1, a12, ht⟩ := wq y (List.mem_of_getElem? hy)
      have ey : atI ways (j : Int) = some (.tup [.int (o : Int), .int (a : Int), tupN tr]) := atI_nat hy
      have rget : ∀ k, k < c → ∃ r, Rs[k]? = some r := fun k hk => ⟨_, List.getElem?_eq_getElem (by rw [rs.c_]; exact hk)⟩
      obtain ⟨rj, hrj⟩ := rget j hj
      obtain ⟨ro, hro⟩ := rget o ho
      have lrj := rs.l_ j rj hrj
      rw [if_neg (Nat.lt_irrefl j)] at lrj
      have lro := rs.l_ o ro hro
      have cell : ∀ g' : AH, g'.length = h6.length → ∀ k r, Rs[k]? = some r → (g' ++ cellsS Rs)[h6.length + k]? = some (.lst (r.map fun (n : Nat) => T.int (n : Int))) := fun g' lg' k r hr => by
        have := cellsS_at (g := g') hr
        rwa [lg'] at this
      have fin : ∀ (g' : AH) (d : Nat), d < m → JarTo b 2 g2 g' → ∀ (a10 a11 a12 a14 a15 : Option T), N3 [some (T.ref b), some (T.int ↑long), some (T.int ↑m), some (T.int ↑c), some (tupN bf), some (T.lst ways), some (T.int sg), some (T.lst (refsS h6.length c)), some (.int (i : Int)), some (.int (j : Int)), a10, a11, a12, some (.int (d : Int)), a14, a15] ((g' ++ cellsS Rs).set (h6.length + j) (.lst (rj.map (fun (n : Nat) => T.int (n : Int)) ++ [.int (d : Int)]))) := fun g' d hd sj a10 a11 a12 a14 a15 => by
        refine hN3 _ _ ⟨g', Rs.set j (rj ++ [d]), _, _, _, _, _, _, _, ?_, (sg2_.trans sj).mono (by omega), rs.more hrj hd, rfl⟩
        have lg' : g'.length = h6.length := by rw [sj.len, lg2]
        have e5 : Cell.lst (rj.map (fun (n : Nat) => T.int (n : Int)) ++ [.int (d : Int)]) = cellS (rj ++ [d]) := by unfold cellS; rw [List.map_append]; rfl
        rw [e5, ← lg', cellsS_set]
      have lrj3 : (rj.map fun (n : Nat) => T.int (n : Int)).length < 1000000 := by rw [List.length_map, lrj]; omega
      try walk_at "tl"
      simp only [ey]
      try walk_at "tl"
      refine ⟨fun q => ?A, fun q => ?B⟩
      case' A =>
        have q := of_decide_eq_true q
        obtain ⟨n, en⟩ : ∃ n : Nat, (i : Int) - (a : Int) = n := ⟨((i : Int) - (a : Int)).toNat, by omega⟩
        have hn : n < ro.length := by rw [lro]; split <;> omega
        have hx : ro.getD n 0 < m := getD_mem_lt (rs.d_ ro (List.mem_of_getElem? hro)) hn
        have ex : atI (ro.map fun (n : Nat) => T.int (n : Int)) (n : Int) = some (.int ((ro.getD n 0 : Nat) : Int)) := by
          rw [atI_map hn, getD_get hn]
        simp only [refsS_at ho, en]
        try walk_at "tl"
        simp only [ix_r (cell g2 lg2 o ro hro), ex]
        generalize ro.getD n 0 = xv at hx ⊢
      case' B =>
        have hx : bf.getD o 0 < m := getD_mem_lt bd (by rw [bl]; exact ho)
        rw [ix_tupN (by rw [bl]; exact ho)]
        generalize bf.getD o 0 = xv at hx ⊢
      all_goals
        try walk_at "tl"
        rw [ix_tupN (by rw [ht.1]; exact hx)]
        have hd : tr.getD xv 0 < m := getD_mem_lt ht.2 (by rw [ht.1]; exact hx)
        generalize tr.getD xv 0 = d at hd ⊢
        try walk_at "tl"
        refine ⟨b, _, sg, rfl, ijg2.app _, by omega, sg1, sg2, fun y g3' y0 y1 t1' => ?_⟩
        obtain ⟨g3, rfl, t1⟩ := t1'.app ijg2.lt
        have ijg3 := t1.jar _ ijg2
        have lg3 : g3.length = h6.length := by rw [t1.len, lg2]
        try walk_at "tl"
        refine ⟨fun q2 => ?_, fun q2 => ?_⟩
        · refine ⟨b, _, (m : Int), rfl, ijg3.app _, by omega, by omega, by omega, fun z g4' z0 z1 t2' => ?_⟩
          obtain ⟨g4, rfl, t2⟩ := t2'.app ijg3.lt
          have lg4 : g4.length = h6.length := by rw [t2.len, lg3]
          obtain ⟨z, rfl⟩ := Int.eq_ofNat_of_zero_le z0
          try walk_at "tl"
          simp only [refsS_at hj]
          try walk_at "tl"
          simp only [isLst_r (cell g4 lg4 j rj hrj), lcell_r (cell g4 lg4 j rj hrj)]
          exact ⟨trivial, lrj3, fin g4 z (by omega) (t1.trans t2) _ _ _ _ _⟩
        · simp only [refsS_at hj]
          try walk_at "tl"
          simp only [isLst_r (cell g3 lg3 j rj hrj), lcell_r (cell g3 lg3 j rj hrj)]
          exact ⟨trivial, lrj3, fin g3 d hd (t1.mono (by decide)) _ _ _ _ _⟩
end TL

namespace TL
open PySem PySem.Spec PyProof.Rows L2
/-- a set that holds nothing yet -/
abbrev bareSet (w : World) : Obj := { cls := .type "set", dict := none, data := .set #[] 0 (.fresh 0 0 (!w.params.followText "set-order")) }
section
variable {P : Program} {w : World} {A : Around} {E : Value → Shared → Prop} {s : Shared}
set_option maxHeartbeats 3200000 in
theorem set_of_list {l : Addr} {its : Array Value} (ns : List Int) {Q : Value → Shared → Prop} (calm : A.handled = none) (isl : s.heap.IsList l its) (whole : IntsAre its.toList ns) (few : ns.length + 1 < scanBound)
    (fin : ∀ (hp : Heap) (tk c : Nat), SetR w hp s.heap.objs.size (fun j => decide (j ∈ ns)) c → c ≤ ns.length → (∀ b u, s.heap.get? b = some u → hp.get? b = some u) → Q (.ref s.heap.objs.size) { s with heap := hp, toks := tk }) :
    wpAny (model P w) A (call (.type "set") [.ref l]) Q E s := by
  have sz : its.size = ns.length := by have z := IntsAre.length whole; rwa [Array.length_toList] at z
  obtain ⟨c0, tl0, m0⟩ := F.called_set.mro
  have i1 := F.called_set.made; have i2 := F.called_set.sub
  refine wpAny_call (codeAny_of_tree ?_); show wpAny _ _ (callAny (.type "set") _) _ _ s
  refine wpAny_pure ⟨Code.quiet_builtin _ (by decide +kernel), codeAny_builtin F.entry_type_call ?_⟩; rw [Around.under_plain (weight_type_call_type "set" [.ref l] []) rfl]
  have i3 := F.called_set.notType; have i4 := F.called_set.canCreate; have i5 := F.typeCall_set_1 (.ref l)
  repeat any_goals first | assumption | wp_step
  refine codeAny_mono (code_set_led1 (.ref l) (E := E) (Q₁ := fun ob t => ob = .ref s.heap.objs.size ∧ t = { s with heap := s.heap.push (bareSet w) }) ⟨rfl, rfl⟩) fun r t hr => ?_
  cases r with
  | error e => exact hr
  | ok fl =>
    cases fl with
    | ret ob =>
      obtain ⟨rfl, rfl⟩ := hr
      have at0 : (s.heap.push (bareSet w)).get? s.heap.objs.size = some (bareSet w) := Heap.get?_push_size _ rfl
      have ty0 : Shared.TypeIs { s with heap := s.heap.push (bareSet w) } (.ref s.heap.objs.size) "set" := ⟨_, at0, rfl⟩
      have i6 := F.called_set.init.lookup; have i7 := F.called_set.init.bind (.ref s.heap.objs.size)
      repeat any_goals first | assumption | wp_step
      refine codeAny_mono (codeAny_call_builtin (R := wants (fun r t => r = .none ∧ ∃ hp tk c, t = { s with heap := hp, toks := tk } ∧ SetR w hp s.heap.objs.size (fun j => decide (j ∈ ns)) c ∧ c ≤ ns.length ∧ ∀ b u, s.heap.get? b = some u → hp.get? b = some u) E)
        F.called_set.init.plain F.entry_set_init (check_set_init_1 ty0 ?_)) fun r t hr => ?_
      · obtain ⟨⟨lc, ld, lx, ls⟩, atl, hc, nl, hd⟩ := isl
        simp only at hc hd; subst hc hd
        have atl2 : (s.heap.push (bareSet w)).get? l = some { cls := .type "list", dict := ld, data := .seq its nl, slots := ls } := Heap.get?_push_of_some _ atl
        have i8 := F.sub_list_set; have i9 := F.sub_list_frozenset; have ia : (Value.type "list" == Value.type "dict") = false := by decide
        have isl2 : (s.heap.push (bareSet w)).IsList l its := ⟨_, atl2, rfl, nl, rfl⟩
        unfold Builtin.«set.__init__» noKeywords Builtin.Frozenset.updateFrom
        generalize hit : pyIter = it0
        wp_walk
        subst hit
        refine wpAny_pyIter_list isl2 (wpAny_bind (wpAny_runValue ?_))
        have lt0 : l < s.heap.objs.size := Heap.lt_size atl
        have ps : (s.heap.push (bareSet w)).objs.size = s.heap.objs.size + 1 := Heap.size_push ..
        have n1 : l ≠ (s.heap.push (bareSet w)).objs.size := by rw [ps]; exact Nat.ne_of_lt (Nat.lt_succ_of_lt lt0)
        have n2 : s.heap.objs.size ∉ [(s.heap.push (bareSet w)).objs.size, l] := by
          rw [ps]; simp only [List.mem_cons, List.not_mem_nil, or_false, not_or]; exact ⟨Nat.ne_of_lt (Nat.lt_succ_self _), (Nat.ne_of_lt lt0).symm⟩
        have vals : ∀ (i : Nat) (v : Value), its[i]? = some v → ∃ k t, ns[i]? = some k ∧ v = .int k t := fun i v hv => by
          have hi : i < ns.length := by rw [← sz]; exact (Array.getElem?_eq_some_iff.mp hv).1
          obtain ⟨t, e⟩ := IntsAre.int_at whole i v (by rw [Array.getElem?_toList]; exact hv)
          exact ⟨ns[i], t, List.getElem?_eq_getElem hi, by rw [e, List.getD_eq_getElem?_getD, List.getElem?_eq_getElem hi]; rfl⟩
        refine set_update_ints ((Walks.list (by simp [calm]) _ l n1 its).toS) s.heap.objs.size n2 ns sz few vals (its.size - 0) 0 _ (by omega) (Nat.zero_le _) ⟨⟨_, Heap.get?_push_size _ rfl, rfl, rfl⟩, (isl2.push _)⟩ ⟨0, Nat.le_refl 0, setR_new_at (Heap.get?_push_of_some _ at0)⟩ ?_
        rintro ⟨hp, g2, d2, tk, o2⟩ c mv hc sr
        obtain rfl : g2 = s.gens := mv.gens
        obtain rfl : d2 = s.drawn := mv.drawn
        obtain rfl : o2 = s.os := mv.os
        show wpAny _ _ _ _ _ _
        refine wpAny_pure ?_
        show wpAny _ _ (ret Value.none) _ _ _
        refine wpAny_pure ⟨rfl, hp, tk, c, rfl, sr, by omega, fun b u e => ?_⟩
        have lb : b < s.heap.objs.size := Heap.lt_size e
        exact mv.heap b u (by rw [ps]; simp only [List.mem_cons, List.not_mem_nil, or_false, not_or]; exact ⟨Nat.ne_of_lt lb, Nat.ne_of_lt (Nat.lt_succ_of_lt lb)⟩) (Heap.get?_push_of_some _ (Heap.get?_push_of_some _ e))
      · cases r with
        | error e => exact hr
        | ok fl =>
          cases fl with
          | ret r =>
            obtain ⟨rfl, hp, tk, c, rfl, sr, hc, hk⟩ := hr
            repeat any_goals first | assumption | wp_step
            exact fin _ _ _ sr hc hk
          | _ => exact hr.elim
    | _ => exact hr.elim
end
/-- the members of a set of numbers below sixty are few -/
theorem few_below {ks : List Int} (nd : ks.Nodup) (h : ∀ k ∈ ks, 0 ≤ k ∧ k < 60) : ks.length < 64 := by
  have key : ∀ (n : Nat) (ks : List Int), ks.Nodup → (∀ k ∈ ks, 0 ≤ k ∧ k < (n : Int)) → ks.length ≤ n := by
    intro n
    induction n with
    | zero =>
      intro ks _ h
      cases ks with
      | nil => exact Nat.le_refl _
      | cons k ks => have := h k List.mem_cons_self; omega
    | succ n ih =>
      intro ks nd h
      have h1 : (ks.erase (n : Int)).length ≤ n := ih _ (nd.erase _) fun k hk => by
        have a := h k (List.mem_of_mem_erase hk)
        have b : k ≠ (n : Int) := fun z => by rw [z] at hk; exact (nd.not_mem_erase) hk
        omega
      have h2 := List.length_erase (a := (n : Int)) (l := ks)
      split at h2 <;> omega
  have := key 60 ks nd (fun k hk => by have := h k hk; omega)
  omega
def tSortedSet (K : PySem.W.Frag) (ta : TE) : TE := fun σ H Q => ta σ H fun x H1 => ∃ (l : Addr) (ns : List Int), x = .ref l ∧ SqL K H1 l (ns.map V.int) ∧ ns.length ≤ 4000 ∧ (∀ k ∈ ns, 0 ≤ k ∧ k < 60) ∧
  ∀ (ks : List Int) (p : Addr), ks.Pairwise (· < ·) → (∀ k, k ∈ ks ↔ k ∈ ns) → H1 p = none → Q (.ref p) (upd H1 p (.lst (ks.map V.int)))
theorem pe_sortedSet {X : Cx} {a : Expr} {ta : TE} {p p2 q pos : Pos} (hg : Gl X "sorted") (hm : X.mg "sorted" = none) (hg2 : Gl X "set") (hm2 : X.mg "set" = none) (ha : PE X a ta) (hc : X.calm = true := by rfl)
    (na : starEach [a] X.env = (false, eval a X.env) :: starEach [] X.env := by rfl) : PE X (.Call (.Name "sorted" p) [.Call (.Name "set" p2) [a] [] q] [] pos) (tSortedSet X.K ta) := by
  refine ⟨fun pins s σ H Q I h => ?_⟩
  refine Call_ (ld_blt I hg hm boot_sorted (PyProof.Rows.callWith_builtin1 (PyProof.Rows.args_cons ?_ rfl) rfl rfl))
  refine Call_ (ld_blt I hg2 hm2 boot_set (PyProof.Rows.callWith_type1 (PyProof.Rows.args_cons (thn (ha.run pins s σ H _ I h) fun v s1 ⟨x, H1, I1, r1, q1⟩ => PyProof.Rows.args_nil ?_) na) na rfl))
  obtain ⟨l, ns, rfl, hq, hl, hb, q1⟩ := q1
  cases r1
  obtain ⟨its, r, pl, hz⟩ := I1.list hq
  have hi : IntsAre its.toArray.toList ns := ints_of_vals r
  refine set_of_list ns (I1.ok.hd hc) pl.isList hi (by unfold scanBound; omega) fun hp tk c sr hcn hk => PyProof.Rows.args_nil ?_
  obtain ⟨t1, et⟩ : ∃ t1, t1 = ({ s1 with heap := hp, toks := tk } : Shared) := ⟨_, rfl⟩
  have I2 : Inv X pins σ H1 t1 := by rw [et]; exact I1.kept fun b o e => hk b o e
  have sr : SetR X.w t1.heap s1.heap.objs.size (fun j => decide (j ∈ ns)) c := by rw [et]; exact sr
  rw [← et]
  have small : c < 64 := by
    obtain ⟨o, es, ep, t, _, _, _, _, nd, hm, _, _, hn, _⟩ := sr
    have := few_below nd fun k hk => hb k (of_decide_eq_true ((hm k).mpr hk))
    rw [List.length_map, Array.length_toList] at this; omega
  refine sorted_set sr (I2.ok.hd hc) small fun s2 p out c2 ks k g o hp2 hgp hi2 hs hmem hl2 => ?_
  have fresh : H1 p = none := I2.hok.fresh hp2
  have J : Inv X pins σ (upd H1 p (.lst (ks.map V.int))) { t1 with heap := s2.heap, gens := s2.gens, drawn := s2.drawn, toks := s2.toks } :=
    I2.call (ch := []) (Un.laid k hp2 fresh) (I2.hok.laid k hp2 ⟨by rw [List.length_map, hl2]; exact small64 small, out.toList, c2, vals_of_ints hi2, hgp⟩) (by rw [g]; exact I2.bare) fun _ z => nomatch z
  have e : s2 = { t1 with heap := s2.heap, gens := s2.gens, drawn := s2.drawn, toks := s2.toks } := by clear et; cases s2; cases t1; cases o; rfl
  rw [e]
  exact ⟨.ref p, _, J, rfl, q1 ks p hs (fun j => by rw [hmem j, decide_eq_true_eq]) fresh⟩
def wSortedSet (w : WEx) : WEx := fun ρ h R RX => w ρ h (fun x h1 => ∃ ns : List Int, asL h1 x = some (ns.map T.int) ∧ ns.length ≤ 4000 ∧ (∀ k ∈ ns, 0 ≤ k ∧ k < 60) ∧ ∀ ks : List Int, ks.Pairwise (· < ·) → (∀ k, k ∈ ks ↔ k ∈ ns) → R (.lst (ks.map T.int)) h1) RX
section
variable {X : Cx} {W : WX} {a : Expr} {w : WEx} {p p2 q pos : Pos}
theorem se_sortedSet (hm : X.mg "sorted" = none) (hm2 : X.mg "set" = none) (ha : SE X W a w) (hg : Gl X "sorted" := by rfl) (hg2 : Gl X "set" := by rfl) (hc : X.calm = true := by rfl)
    (na : starEach [a] X.env = (false, eval a X.env) :: starEach [] X.env := by rfl) : SE X W (.Call (.Name "sorted" p) [.Call (.Name "set" p2) [a] [] q] [] pos) (wSortedSet w) :=
  PE.imp (pe_sortedSet hg hm hg2 hm2 ha hc na) fun σ H Q ⟨S, ρ, h, R, RX, ar, hr, hw, hR, hX⟩ => by
    refine ⟨S, ρ, h, _, RX, ar, hr, hw, fun x h1 q1 S1 u H1 E1 R1 rx => ?_, hX⟩
    obtain ⟨ns, e, hl, hb, q1⟩ := q1
    obtain ⟨l, us, rfl, hs, rs⟩ := asL_rel R1 rx e
    have := rels_ints rs
    subst this
    exact ⟨l, ns, rfl, hs, hl, hb, fun ks p hs hm hn => new_lst R1 (relTs_ints ks) (fun S' v H' E2 R2 rv => hR _ _ (q1 ks hs hm) S' v H' (E1.trans E2) R2 rv) p hn⟩
end
end TL

namespace TL
open PySem PySem.Spec PyProof.Rows L2
local macro_rules | `(tactic| walk_at "tl") => `(tactic| simp only [got_some, got_if, slot_0, slot_s, br_t, br_f, br_n, asB_b, asI_i, asI1_i, asI2_i, two_2, one_1, head_c, x_indexT, x_tupRgF, tupF_l, asT_f, asQ_f, isi_ftp, len_f, ix_f, walks_ftp, gtL_i, x_var, x_c, x_bin, x_nil, x_cons, x_tup, x_lstF, x_lstC, x_tru, x_tb, x_notT, x_andT, x_orT, x_not, x_and, x_or, x_if, x_chain, x_neg, x_callN, x_isi, x_po0, x_po, x_sl, x_rev, x_frz, x_listC, x_r1, x_tupRg, x_lstRgC, x_dict0, x_dictII, x_bm, x_app, x_popAt, eq_i, ne_i, eq_s, ne_s, len_tupN, walks_tupN, x_call, x_compF, x_compC, x_yes, x_rg1, x_rg2, x_itS, walks_tup, walks_lst, walks_scr, x_seq, x_skip, x_break, x_cont, x_expr, x_ret, x_retN, x_ifS, x_asg, x_nm, x_gnils, x_gcons, x_gtu, x_gsub, mulT_i, mulU_i, x_fld, x_fldPut, x_fldAug, x_meth, x_make, x_callD, x_callK, x_countD, x_indexD, x_lenSet, powB_i, min3_i, x_raise, x_rg3, asI3_i, x_sorted, x_sortedUp, x_enumZ, x_minD, x_minP, x_frzD, x_pre, x_dict3, x_dget2, eqNil_f, neNilL_f, eqNilL_f, x_setI, notInI_f, x_itemsT, isF_f, x_try, x_tryAs, x_isE, x_par3, three_3, mulL_l, x_mulC, asR_l, x_rg2B, isB_b, x_gtuL, x_gsta, sta_c, x_zip,  x_index,  x_enum, enums_tup, enums_lst, enums_scr, mulS_i,  x_com2F, x_gsubD, x_dict0T, x_dict0N, int_i, int_b, keysOf_tupN, x_par, x_aug, x_for, x_never, x_wipe0, x_wipe, add_i, add_t, add_l, add_scr, add_s, sub_i, mul_i, div_i, mod_i, pow_i, cmp_i, asQ_t, asQ_l, asQ_s, asL_l, asL_s, asL_t, asT_t, ix_t, ix_l, ix_s, len_t, len_l, len_s, tupleOf_l, tupleOf_t, listOf_t, listOf_l, max2_i, min2_i, sl_t, sl_l, sl_s, rev_t, rev_l, tru_b, tru_i, ty_non, ty_bl, ty_int, ty_str, ty_tup, ty_lst, List.map_cons, List.map_nil, List.cons_append, List.nil_append, List.append_nil, List.set_cons_zero, List.set_cons_succ, List.length_cons, List.length_nil, List.replicate_succ, List.replicate_zero, Nat.sub_self, Nat.zero_add, Nat.reduceAdd, Nat.reduceSub, Nat.reduceLeDiff, Bool.not_true, Bool.not_false, true_and, and_true, if_true, decide_true, decide_false, EndsT.xe, List.reduceReplicate, Nat.le_refl, Nat.zero_le])
theorem atI_zero_cons {x : T} {xs : List T} : atI (x :: xs) 0 = some x := atI_nat (j := 0) rfl
def sp__law_did : ASp := fun ts h R _ => ∃ (m L o : Nat) (before : List Nat) (rows : List (List Nat)) (b : Int), ts = [seenT m before rows, .int (o : Int), .int b] ∧ SeenOk m before rows L ∧ o < rows.length ∧ b < (L : Int) ∧ R (.int ((seenN before rows o b : Nat) : Int)) h
def w__law_did : WSt :=
  (wRet (wIf (wTB (wBin opGe (wVar 2) (wC (.int 0)))) (wBin opIx (wBin opIx (wBin opIx (wVar 0) (wC (.int 2))) (wVar 1)) (wVar 2)) (wBin opIx (wBin opIx (wVar 0) (wC (.int 1))) (wVar 1))))
theorem hlen__law_did : ∀ ts h R RX, sp__law_did ts h R RX → ts.length = 3 := fun ts h R RX ⟨m, _, _, _, _, _, e, _⟩ => by subst e; rfl
theorem hsp__law_did : ∀ ts h R RX, sp__law_did ts h R RX → wBody 3 w__law_did ts h R RX := by
  rintro ts h R RX ⟨m, L, o, before, rows, b, rfl, so, ho, hb, r⟩
  have e1 : ∀ hh, opIx hh (seenT m before rows) (.int 1) = some (tupN before) := fun _ => rfl
  have e2 : ∀ hh, opIx hh (seenT m before rows) (.int 2) = some (.tup (rows.map tupN)) := fun _ => rfl
  simp only [wBody, w__law_did]
  try walk_at "tl"
  unfold seenN at r
  refine ⟨fun q => ?_, fun q => ?_⟩
  · have q := of_decide_eq_true q
    rw [if_neg (by omega)] at r
    obtain ⟨n, rfl⟩ := Int.eq_ofNat_of_zero_le q
    simp only [e2]
    try walk_at "tl"
    have ra : atI (rows.map tupN) (o : Int) = some (tupN (rows.getD o [])) := row_ix (h := h) ho
    simp only [ra]
    try walk_at "tl"
    rw [ix_tupN (by rw [so.rl _ (so.row ho)]; omega)]
    try walk_at "tl"
    exact .inl r
  · have q := of_decide_eq_false q
    rw [if_pos (by omega)] at r
    simp only [e1]
    try walk_at "tl"
    rw [ix_tupN (by rw [so.bl]; exact ho)]
    try walk_at "tl"
    exact .inl r
theorem num_row {rows : List (List Nat)} {k L : Nat} (rl : (rows.getD k []).length = L) : numT ((rows.getD k []).map fun (n : Nat) => T.int (n : Int)) = (List.range L).map fun (b : Nat) => T.tup [.int (b : Int), .int (((rows.getD k []).getD b 0 : Nat) : Int)] := by
  rw [numT_map]
  apply List.ext_getElem?
  intro i
  rw [List.getElem?_map, List.getElem?_map]
  by_cases hi : i < L
  · rw [List.getElem?_range hi, List.getElem?_zipIdx, List.getElem?_eq_getElem (by omega)]
    simp only [Option.map_some, Nat.zero_add]
    rw [getD_get]
  · rw [List.getElem?_eq_none (by rw [List.length_zipIdx]; omega), List.getElem?_eq_none (by rw [List.length_range]; omega)]; rfl
def secs (ps : List (Nat × Nat)) (c : Nat) : List Int := (ps.filter fun p => decide (p.1 = c)).map fun p => (p.2 : Int)
theorem secs_mem {ps : List (Nat × Nat)} {c : Nat} {k : Int} : k ∈ secs ps c ↔ ∃ d : Nat, (c, d) ∈ ps ∧ k = (d : Int) := by
  unfold secs
  rw [List.mem_map]
  constructor
  · rintro ⟨p, hp, e⟩
    obtain ⟨h1, h2⟩ := List.mem_filter.mp hp
    have h2 : p.1 = c := of_decide_eq_true h2
    exact ⟨p.2, by rw [← h2]; exact h1, e.symm⟩
  · rintro ⟨d, h, rfl⟩
    exact ⟨(c, d), List.mem_filter.mpr ⟨h, decide_eq_true rfl⟩, rfl⟩
/-- up to i like ones lead to like ones -/
def okTo (ps : List (Nat × Nat)) (i : Nat) : Prop := ∀ p ∈ ps, ∀ q ∈ ps, p.1 = q.1 → p.1 < i → p.2 = q.2
theorem up_one {ks : List Int} {k : Int} (p : ks.Pairwise (· < ·)) (h : ∀ x ∈ ks, x = k) (h2 : ∃ x, x ∈ ks) : ks = [k] := by
  match ks, p, h, h2 with
  | [], _, _, h2 => obtain ⟨x, hx⟩ := h2; exact nomatch hx
  | [x], _, h, _ => rw [h x List.mem_cons_self]
  | x :: y :: r, p, h, _ =>
    have a := (List.pairwise_cons.mp p).1 y List.mem_cons_self
    have b := h x List.mem_cons_self
    have c := h y (List.mem_cons_of_mem _ List.mem_cons_self)
    omega
/-- what stands in the sorted ones: none, one, or two that are unlike -/
theorem secs_ways {ps : List (Nat × Nat)} {i : Nat} {ks : List Int} (hs : ks.Pairwise (· < ·)) (hm : ∀ k, k ∈ ks ↔ k ∈ secs ps i) :
    (ks = [] ∧ tabF ps i = none) ∨ (∃ d : Nat, ks = [(d : Int)] ∧ tabF ps i = some d ∧ ∀ p ∈ ps, p.1 = i → p.2 = d) ∨ (1 < ks.length ∧ ¬ okF ps) := by
  match ks, hs, hm with
  | [], _, hm =>
    refine .inl ⟨rfl, ?_⟩
    cases e : tabF ps i with
    | none => rfl
    | some d => exact absurd ((hm _).mpr (secs_mem.mpr ⟨d, tabF_mem e, rfl⟩)) (by simp)
  | [k], _, hm =>
    obtain ⟨d, hd, rfl⟩ := secs_mem.mp ((hm k).mp List.mem_cons_self)
    have only : ∀ p ∈ ps, p.1 = i → p.2 = d := fun p hp e => by
      have := (hm (p.2 : Int)).mpr (secs_mem.mpr ⟨p.2, by rw [← e]; exact hp, rfl⟩)
      have := List.mem_singleton.mp this
      omega
    refine .inr (.inl ⟨d, rfl, ?_, only⟩)
    cases e : tabF ps i with
    | none => exact absurd rfl (tabF_none e _ hd)
    | some d' => exact congrArg some (only _ (tabF_mem e) rfl)
  | x :: y :: r, hs, hm =>
    refine .inr (.inr ⟨by simp, fun ok => ?_⟩)
    obtain ⟨d, hd, rfl⟩ := secs_mem.mp ((hm x).mp List.mem_cons_self)
    obtain ⟨d', hd', rfl⟩ := secs_mem.mp ((hm y).mp (List.mem_cons_of_mem _ List.mem_cons_self))
    have a := (List.pairwise_cons.mp hs).1 _ List.mem_cons_self
    have := ok _ hd _ hd' rfl
    simp only at this
    omega
theorem x_sortedSet {w : WEx} {ρ : Rho} {h : AH} {R : T → AH → Prop} {X : XC} : wSortedSet w ρ h R X = w ρ h (fun x h1 => ∃ ns : List Int, asL h1 x = some (ns.map T.int) ∧ ns.length ≤ 4000 ∧ (∀ k ∈ ns, 0 ≤ k ∧ k < 60) ∧ ∀ ks : List Int, ks.Pairwise (· < ·) → (∀ k, k ∈ ks ↔ k ∈ ns) → R (.lst (ks.map T.int)) h1) X := rfl
/-- the beats at which the copied one did c -/
def beatsT (ps : List (Nat × Nat)) (L c : Nat) : List Nat := (List.range L).filter fun b => decide ((ps.getD b (0, 0)).1 = c)
theorem beats_secs {ps : List (Nat × Nat)} {L c : Nat} (hl : ps.length = L) : (beatsT ps L c).map (fun b => ((ps.getD b (0, 0)).2 : Int)) = secs ps c := by
  unfold beatsT secs
  have e : ps = (List.range L).map fun b => ps.getD b (0, 0) := by
    apply List.ext_getElem?
    intro b
    rw [List.getElem?_map]
    by_cases hb : b < L
    · rw [List.getElem?_range hb, Option.map_some, List.getD_eq_getElem?_getD, List.getElem?_eq_getElem (by omega)]; rfl
    · rw [List.getElem?_eq_none (by omega), List.getElem?_eq_none (by rw [List.length_range]; omega)]; rfl
  conv => rhs; rw [e]
  rw [List.filter_map, List.map_map]
  rfl
def sp__law_turn_due : ASp := fun ts h R _ => ∃ (m L k o a : Nat) (before : List Nat) (rows : List (List Nat)), ts = [seenT m before rows, .int (k : Int), .int (o : Int), .int (a : Int)] ∧ SeenOk m before rows L ∧ L ≤ 300 ∧ k < rows.length ∧ o < rows.length ∧ R (turnT m (seenP before rows L k o a)) h
def w__law_turn_due : WSt :=
  (wSeq (wAsg (wLstC wNil) (gNm 4))
  (wSeq (wFor (wRg1 (wCons (wBin opIx (wVar 0) (wC (.int 0))) wNil)) (gNm 5)
  (wSeq (wAsg (wCompF (wRg1 (wCons (wCallN opLen (wCons (wBin opIx (wBin opIx (wVar 0) (wC (.int 2))) (wVar 1)) wNil)) wNil)) (gNm 8) (wTB (wBin (opEq false) (wCall sp__law_did (wCons (wVar 0) (wCons (wVar 2) (wCons (wBin opSub (wVar 8) (wVar 3)) wNil)))) (wVar 5))) (wVar 8) [8]) (gNm 6))
  (wSeq (wAsg (wSortedSet (wCompF (wItS (wVar 6)) (gNm 8) wYes (wBin opIx (wBin opIx (wBin opIx (wVar 0) (wC (.int 2))) (wVar 1)) (wVar 8)) [8])) (gNm 7))
  (wSeq (wIfS (wTB (wBin opGt (wCallN opLen (wCons (wVar 7) wNil)) (wC (.int 1)))) (wRet (wC .non)) wSkip)
  (wExpr (wBM mAppend (wVar 4) (wCons (wBin opIx (wBin opAdd (wVar 7) (wC (.lst [.non]))) (wC (.int 0))) wNil)))))))
  (wRet (wCallN opTupleOf (wCons (wVar 4) wNil)))))
theorem hlen__law_turn_due : ∀ ts h R RX, sp__law_turn_due ts h R RX → ts.length = 4 := fun ts h R RX ⟨m, _, _, _, _, _, _, e, _⟩ => by subst e; rfl
theorem hsp__law_turn_due : ∀ ts h R RX, sp__law_turn_due ts h R RX → wBody 9 w__law_turn_due ts h R RX := by
  rintro ts h R RX ⟨m, L, k, o, a, bf, rows, rfl, so, L3, hk, ho, r⟩
  have m1 := so.m1
  have m9 := so.m9
  have rl := so.rl _ (so.row hk)
  have e0 : ∀ hh, opIx hh (seenT m bf rows) (.int 0) = some (.int (m : Int)) := fun _ => rfl
  have e2 : ∀ hh, opIx hh (seenT m bf rows) (.int 2) = some (.tup (rows.map tupN)) := fun _ => rfl
  have ra : atI (rows.map tupN) (k : Int) = some (tupN (rows.getD k [])) := row_ix (h := h) hk
  obtain ⟨ps, eps⟩ : ∃ ps, ps = seenP bf rows L k o a := ⟨_, rfl⟩
  have lps : ps.length = L := by rw [eps]; simp [seenP]
  have psat : ∀ b, b < L → ps.getD b (0, 0) = (seenN bf rows o ((b : Int) - (a : Int)), (rows.getD k []).getD b 0) := fun b hb => by
    rw [eps]; unfold seenP
    rw [List.getD_eq_getElem?_getD, List.getElem?_map, List.getElem?_range hb]; rfl
  have snd : ∀ b, b < L → (rows.getD k []).getD b 0 < m := fun b hb => getD_mem_lt (so.rd _ (so.row hk)) (by rw [rl]; exact hb)
  rw [← eps] at r
  simp only [wBody, w__law_turn_due]
  try walk_at "tl"
  simp only [e0]
  try walk_at "tl"
  refine ⟨by omega, by omega, ?_⟩
  rw [range_map (m := m) rfl]
  refine loop_inv (fun i ρ h' => h' = h ++ [.lst ((List.range i).map fun c => optT (tabF ps c))] ∧ okTo ps i ∧ ∃ a5 a6 a7 a8, ρ = [some (seenT m bf rows), some (.int (k : Int)), some (.int (o : Int)), some (.int (a : Int)), some (.ref h.length), a5, a6, a7, a8]) _ (fun _ _ _ _ => trivial)
    (fun i x ρ h' hx ⟨eh, okp, a5, a6, a7, a8, eρ⟩ N hN => ?step) ⟨rfl, fun p _ q _ _ z => absurd z (Nat.not_lt_zero _), _, _, _, _, rfl⟩ (fun ρ h' ⟨eh, okp, a5, a6, a7, a8, eρ⟩ => ?post)
  case step =>
    subst eh eρ
    obtain ⟨hi, rfl⟩ := range_at hx
    have cell : (h ++ [Cell.lst ((List.range i).map fun c => optT (tabF ps c))])[h.length]? = some (.lst ((List.range i).map fun c => optT (tabF ps c))) := List.getElem?_concat_length
    try walk_at "tl"
    rw [e2]
    try walk_at "tl"
    rw [ra]
    try walk_at "tl"
    rw [rl]
    refine ⟨by omega, by omega, ?_⟩
    rw [range_map (m := L) rfl]
    refine compL_filt (fun (b : Nat) => T.int (b : Int)) (fun b => if (ps.getD b (0, 0)).1 = i then some (.int (b : Int)) else none) (List.range L) trivial (fun b hb Ky Kn kk => ?f1) (by rw [List.length_range]; show _ ≤ 1000000; omega) ?f2
    case f1 =>
      have hb := List.mem_range.mp hb
      rw [psat b hb] at kk
      try walk_at "tl"
      refine ⟨m, L, o, bf, rows, _, rfl, so, ho, by omega, ?_⟩
      try walk_at "tl"
      generalize seenN bf rows o ((b : Int) - (a : Int)) = c at kk
      by_cases hc : c = i
      · subst hc
        simp only [if_true] at kk
        try walk_at "tl"
        exact kk
      · rw [if_neg hc] at kk
        have : decide ((c : Int) = (i : Int)) = false := decide_eq_false (by omega)
        simp only [this]
        exact kk
    case f2 =>
      have eb : (List.range L).filterMap (fun b => if (ps.getD b (0, 0)).1 = i then some (T.int (b : Int)) else none) = (beatsT ps L i).map fun (b : Nat) => T.int (b : Int) := by
        unfold beatsT
        rw [← List.filterMap_eq_map, List.filterMap_filter]
        congr 1
        funext b
        by_cases hc : (ps.getD b (0, 0)).1 = i <;> simp [hc]
      rw [eb]
      try walk_at "tl"
      simp only [x_sortedSet]
      try walk_at "tl"
      refine compL_map (fun (b : Nat) => T.int (b : Int)) (fun (b : Nat) => T.int (((ps.getD b (0, 0)).2 : Nat) : Int)) (beatsT ps L i) trivial (fun b hb Ky Kn kk => ?g1) (Nat.le_trans (List.length_filter_le _ _) (by rw [List.length_range]; show _ ≤ 1000000; omega)) ?g2
      case g1 =>
        have hb := List.mem_range.mp (List.mem_filter.mp hb).1
        rw [psat b hb] at kk
        try walk_at "tl"
        rw [e2]
        try walk_at "tl"
        rw [ra]
        try walk_at "tl"
        rw [ix_tupN (by rw [rl]; exact hb)]
        try walk_at "tl"
        exact kk
      case g2 =>
        have es : (beatsT ps L i).map (fun (b : Nat) => T.int (((ps.getD b (0, 0)).2 : Nat) : Int)) = (secs ps i).map T.int := by
          rw [← beats_secs lps, List.map_map]; rfl
        rw [es]
        refine ⟨secs ps i, rfl, ?_, ?_, fun ks hs hm => ?_⟩
        · unfold secs; rw [List.length_map]; exact Nat.le_trans (List.length_filter_le _ _) (by omega)
        · intro z hz
          obtain ⟨d, hd, rfl⟩ := secs_mem.mp hz
          obtain ⟨j, hj⟩ := List.mem_iff_getElem?.mp hd
          have hjl := (List.getElem?_eq_some_iff.mp hj).1
          have := psat j (by omega)
          rw [List.getD_eq_getElem?_getD, hj] at this
          have e2 := congrArg Prod.snd this
          have := snd j (by omega)
          simp only [Option.getD_some] at e2
          omega
        · have fin : ∀ (y : T), y = optT (tabF ps i) → (∀ p ∈ ps, ∀ q ∈ ps, p.1 = q.1 → p.1 = i → p.2 = q.2) → ∀ a5 a6 a7 a8, N [some (seenT m bf rows), some (.int (k : Int)), some (.int (o : Int)), some (.int (a : Int)), some (.ref h.length), a5, a6, a7, a8] ((h ++ [Cell.lst ((List.range i).map fun c => optT (tabF ps c))]).set h.length (.lst (((List.range i).map fun c => optT (tabF ps c)) ++ [y]))) := fun y ey hq a5 a6 a7 a8 => by
            refine hN _ _ ⟨?_, fun p hp q hq2 e hlt => ?_, _, _, _, _, rfl⟩
            · rw [List.set_append_right _ _ (Nat.le_refl _), Nat.sub_self, ey, List.range_succ, List.map_append]; rfl
            · rcases Nat.lt_succ_iff_lt_or_eq.mp hlt with z | z
              · exact okp p hp q hq2 e z
              · exact hq p hp q hq2 e z
          have room : ((List.range i).map fun c => optT (tabF ps c)).length < 1000000 := by rw [List.length_map, List.length_range]; omega
          rcases secs_ways hs hm with ⟨rfl, et⟩ | ⟨d, rfl, et, hall⟩ | ⟨hlen, nok⟩
          · try walk_at "tl"
            simp only [atI_zero_cons]
            try walk_at "tl"
            simp only [isLst_r cell, lcell_r cell]
            try walk_at "tl"
            refine ⟨fun z => absurd z (by decide), fun _ => ⟨by decide, room, fin _ (by rw [et]; rfl) (fun p hp q _ _ z => absurd z (tabF_none et p hp)) _ _ _ _⟩⟩
          · try walk_at "tl"
            simp only [atI_zero_cons]
            try walk_at "tl"
            simp only [isLst_r cell, lcell_r cell]
            try walk_at "tl"
            refine ⟨fun z => absurd z (by decide), fun _ => ⟨by decide, room, fin _ (by rw [et]; rfl) (fun p hp q hq e z => by rw [hall p hp z, hall q hq (e ▸ z)]) _ _ _ _⟩⟩
          · try walk_at "tl"
            have : decide ((1 : Int) < ((ks.map T.int).length : Int)) = true := decide_eq_true (by rw [List.length_map]; omega)
            simp only [this]
            try walk_at "tl"
            unfold turnT at r
            rw [if_neg nok] at r
            exact .inr ⟨h, ⟨rfl, ⟨_, rfl⟩, fun _ _ q => .inl q, rfl⟩, r⟩
  case post =>
    subst eh eρ
    rw [List.length_map, List.length_range] at okp ⊢
    have cell : (h ++ [Cell.lst ((List.range m).map fun c => optT (tabF ps c))])[h.length]? = some (.lst ((List.range m).map fun c => optT (tabF ps c))) := List.getElem?_concat_length
    have ok : okF ps := fun p hp q hq e => okp p hp q hq e (by
      obtain ⟨j, hj⟩ := List.mem_iff_getElem?.mp hp
      have hjl := (List.getElem?_eq_some_iff.mp hj).1
      have := psat j (by omega)
      rw [List.getD_eq_getElem?_getD, hj] at this
      have e1 := congrArg Prod.fst this
      simp only [Option.getD_some] at e1
      rw [e1]
      exact so.lt ho (by omega))
    try walk_at "tl"
    simp only [tupleOf_r cell]
    try walk_at "tl"
    unfold turnT at r
    rw [if_pos ok] at r
    have er : tabT (tabL m ps) = .tup ((List.range m).map fun c => optT (tabF ps c)) := by
      unfold tabT tabL
      rw [List.map_map]; rfl
    rw [er] at r
    exact .inr ⟨h, ⟨rfl, ⟨_, rfl⟩, fun _ _ q => .inl q, clos_of fun t ht => by rw [List.mem_singleton.mp ht, ← er]; exact clo_tabT _⟩, r⟩
def sp__law_due_now : ASp := fun ts h R _ => ∃ (m L k most : Nat) (before : List Nat) (rows : List (List Nat)), ts = [seenT m before rows, .int (k : Int), .int (most : Int)] ∧ SeenOk m before rows L ∧ L ≤ 300 ∧ k < rows.length ∧ most ≤ 12 ∧ R (.lst ((fitsL m (seenP before rows L k) rows.length most).map cpyT)) h
def w__law_due_now : WSt :=
  (wSeq (wAsg (wLstC wNil) (gNm 3))
  (wSeq (wFor (wRg1 (wCons (wCallN opLen (wCons (wBin opIx (wVar 0) (wC (.int 1))) wNil)) wNil)) (gNm 4)
  (wFor (wRg2 (wCons (wC (.int 1)) (wCons (wBin opAdd (wVar 2) (wC (.int 1))) wNil))) (gNm 5)
  (wSeq (wAsg (wCall sp__law_turn_due (wCons (wVar 0) (wCons (wVar 1) (wCons (wVar 4) (wCons (wVar 5) wNil))))) (gNm 6))
  (wIfS (wTB (wBin (opIsN true) (wVar 6) (wC .non))) (wExpr (wBM mAppend (wVar 3) (wCons (wTup (wCons (wVar 4) (wCons (wVar 5) (wCons (wVar 6) wNil)))) wNil))) wSkip))))
  (wRet (wFrz (wVar 3)))))
theorem hlen__law_due_now : ∀ ts h R RX, sp__law_due_now ts h R RX → ts.length = 3 := fun ts h R RX ⟨m, _, _, _, _, _, e, _⟩ => by subst e; rfl
theorem hsp__law_due_now : ∀ ts h R RX, sp__law_due_now ts h R RX → wBody 7 w__law_due_now ts h R RX := by
  rintro ts h R RX ⟨m, L, k, most, before, rows, rfl, so, L3, hk, h12, r⟩
  have bl := so.bl
  have r6 := so.r6
  have e1 : opIx h (seenT m before rows) (.int 1) = some (tupN before) := rfl
  have e1' : ∀ hh, opIx hh (seenT m before rows) (.int 1) = some (tupN before) := fun _ => rfl
  have e0' : ∀ hh, opIx hh (seenT m before rows) (.int 0) = some (.int (m : Int)) := fun _ => rfl
  have eb : ∀ hh, opLen hh [tupN before] = some (.int (rows.length : Int)) := fun hh => by rw [len_tupN, bl]
  simp only [wBody, w__law_due_now]
  try walk_at "tl"
  simp only [e1']
  try walk_at "tl"
  refine ⟨by omega, by omega, ?_⟩
  rw [range_map (m := rows.length) (by rw [bl])]
  refine loop_inv (fun i ρ h' => h' = h ++ [.lst ((fitsL m (seenP before rows L k) i most).map cpyT)] ∧ ∃ a4 a5 a6, ρ = [some (seenT m before rows), some (.int (k : Int)), some (.int (most : Int)), some (.ref h.length), a4, a5, a6]) _ (fun _ _ _ _ => trivial)
    (fun i x ρ h' hx ⟨eh, a4, a5, a6, eρ⟩ N hN => ?step) ⟨rfl, _, _, _, rfl⟩ (fun ρ h' ⟨eh, a4, a5, a6, eρ⟩ => ?post)
  case step =>
    subst eh eρ
    obtain ⟨hi, rfl⟩ := range_at hx
    try walk_at "tl"
    refine ⟨by omega, ?_⟩
    have er : rangeT 1 ((most : Int) + 1 - 1).toNat = (List.range most).map fun (j : Nat) => T.int ((1 : Int) + (j : Int)) := by
      have : ((most : Int) + 1 - 1).toNat = most := by omega
      rw [this]; rfl
    rw [er]
    have nxt : ∀ j, j < most → ((List.range (j + 1)).filterMap fun q => fitO m (seenP before rows L k i (q + 1)) i (q + 1)) = ((List.range j).filterMap fun q => fitO m (seenP before rows L k i (q + 1)) i (q + 1)) ++ (fitO m (seenP before rows L k i (j + 1)) i (j + 1)).toList := fun j _ => by
      rw [List.range_succ, List.filterMap_append]
      congr 1
    have base := fits_len (m := m) (P := seenP before rows L k) (n := i) (most := most)
    have base2 : (fitsL m (seenP before rows L k) i most).length ≤ 72 := Nat.le_trans base (Nat.mul_le_mul (show i ≤ 6 by omega) h12)
    refine loop_inv (fun j ρ h' => h' = h ++ [.lst ((fitsL m (seenP before rows L k) i most ++ (List.range j).filterMap fun q => fitO m (seenP before rows L k i (q + 1)) i (q + 1)).map cpyT)] ∧ ∃ a5 a6, ρ = [some (seenT m before rows), some (.int (k : Int)), some (.int (most : Int)), some (.ref h.length), some (.int (i : Int)), a5, a6]) _ (fun _ _ _ _ => trivial)
      (fun j x ρ h' hx ⟨eh, a5, a6, eρ⟩ N2 hN2 => ?step2) ⟨by simp, _, _, rfl⟩ (fun ρ h' ⟨eh, a5, a6, eρ⟩ => hN _ _ ⟨?iend, _, _, _, eρ⟩)
    case iend =>
      rw [eh, List.length_map, List.length_range]
      unfold fitsL
      rw [List.range_succ, List.flatMap_append, List.flatMap_cons, List.flatMap_nil, List.append_nil]
    subst eh eρ
    obtain ⟨hj, ex⟩ : j < most ∧ x = .int ((j + 1 : Nat) : Int) := by
      rw [List.getElem?_map] at hx
      obtain ⟨q, hq, e⟩ := Option.map_eq_some_iff.mp hx
      obtain ⟨hl, e2⟩ := List.getElem?_eq_some_iff.mp hq
      rw [List.length_range] at hl
      rw [List.getElem_range] at e2
      subst e2
      exact ⟨hl, by rw [← e]; congr 1; omega⟩
    subst ex
    generalize eacc : (fitsL m (seenP before rows L k) i most ++ (List.range j).filterMap fun q => fitO m (seenP before rows L k i (q + 1)) i (q + 1)) = acc at *
    have nx2 : (fitsL m (seenP before rows L k) i most ++ (List.range (j + 1)).filterMap fun q => fitO m (seenP before rows L k i (q + 1)) i (q + 1)) = acc ++ (fitO m (seenP before rows L k i (j + 1)) i (j + 1)).toList := by
      rw [nxt j hj, ← List.append_assoc, eacc]
    have la : acc.length ≤ 100 := by
      rw [← eacc, List.length_append]
      have : (List.filterMap (fun q => fitO m (seenP before rows L k i (q + 1)) i (q + 1)) (List.range j)).length ≤ j := Nat.le_trans (List.length_filterMap_le _ _) (by simp)
      omega
    have cell : (h ++ [Cell.lst (acc.map cpyT)])[h.length]? = some (.lst (acc.map cpyT)) := List.getElem?_concat_length
    try walk_at "tl"
    refine ⟨m, L, k, i, j + 1, before, rows, rfl, so, L3, hk, hi, ?_⟩
    try walk_at "tl"
    unfold turnT
    by_cases ok : okF (seenP before rows L k i (j + 1))
    · rw [if_pos ok]
      have isn : ∀ hh, opIsN true hh (tabT (tabL m (seenP before rows L k i (j + 1)))) .non = some (.bl true) := fun _ => rfl
      simp only [isn]
      try walk_at "tl"
      simp only [isLst_r cell]
      try walk_at "tl"
      simp only [lcell_r cell]
      refine ⟨by decide, by rw [List.length_map]; show _ < 1000000; omega, hN2 _ _ ⟨?_, _, _, rfl⟩⟩
      rw [List.set_append_right _ _ (Nat.le_refl _), Nat.sub_self, nx2]
      unfold fitO
      rw [if_pos ok]
      simp [cpyT]
    · rw [if_neg ok]
      simp only [isN_n]
      try walk_at "tl"
      refine hN2 _ _ ⟨?_, _, _, rfl⟩
      rw [nx2]
      unfold fitO
      rw [if_neg ok]
      simp
  case post =>
    subst eh eρ
    rw [List.length_map, List.length_range]
    have cell : (h ++ [Cell.lst ((fitsL m (seenP before rows L k) rows.length most).map cpyT)])[h.length]? = some (.lst ((fitsL m (seenP before rows L k) rows.length most).map cpyT)) := List.getElem?_concat_length
    try walk_at "tl"
    simp only [lcell_r cell, set_lastW]
    refine .inr ⟨h, ⟨rfl, ⟨_, rfl⟩, fun _ _ q => .inl q, ?_⟩, r⟩
    refine clos_of fun t ht => ?_
    rw [List.mem_singleton.mp ht]
    simp only [T.clo]
    exact clos_of fun t ht => by
      obtain ⟨c, _, rfl⟩ := List.mem_map.mp ht
      exact clo_cpy c
def sp_fits : ASp := fun ts h R _ => ∃ (m L k most : Nat) (before : List Nat) (rows : List (List Nat)), ts = [seenT m before rows, .int (k : Int), .int (most : Int)] ∧ SeenOk m before rows L ∧ k < rows.length ∧ most ≤ 12 ∧ R (.ref h.length) (h ++ [.lst ((fitsL m (seenP before rows L k) rows.length most).map cpyT)])
def w_fits : WSt :=
  (wSeq (wAsg (wLstC wNil) (gNm 3))
  (wSeq (wFor (wRg1 (wCons (wCallN opLen (wCons (wBin opIx (wVar 0) (wC (.int 1))) wNil)) wNil)) (gNm 4)
  (wFor (wRg2 (wCons (wC (.int 1)) (wCons (wBin opAdd (wVar 2) (wC (.int 1))) wNil))) (gNm 5)
  (wSeq (wAsg (wCall sp_turn_that_fits (wCons (wBin opIx (wVar 0) (wC (.int 0))) (wCons (wCall sp_pairs_of (wCons (wVar 0) (wCons (wVar 1) (wCons (wVar 4) (wCons (wVar 5) wNil))))) wNil))) (gNm 6))
  (wIfS (wTB (wBin (opIsN true) (wVar 6) (wC .non))) (wExpr (wBM mAppend (wVar 3) (wCons (wTup (wCons (wVar 4) (wCons (wVar 5) (wCons (wVar 6) wNil)))) wNil))) wSkip))))
  (wRet (wVar 3))))
theorem hlen_fits : ∀ ts h R RX, sp_fits ts h R RX → ts.length = 3 := fun ts h R RX ⟨m, _, _, _, _, _, e, _⟩ => by subst e; rfl
theorem hsp_fits : ∀ ts h R RX, sp_fits ts h R RX → wBody 7 w_fits ts h R RX := by
  rintro ts h R RX ⟨m, L, k, most, before, rows, rfl, so, hk, h12, r⟩
  have bl := so.bl
  have r6 := so.r6
  have e1 : opIx h (seenT m before rows) (.int 1) = some (tupN before) := rfl
  have e1' : ∀ hh, opIx hh (seenT m before rows) (.int 1) = some (tupN before) := fun _ => rfl
  have e0' : ∀ hh, opIx hh (seenT m before rows) (.int 0) = some (.int (m : Int)) := fun _ => rfl
  have eb : ∀ hh, opLen hh [tupN before] = some (.int (rows.length : Int)) := fun hh => by rw [len_tupN, bl]
  simp only [wBody, w_fits]
  try walk_at "tl"
  simp only [e1']
  try walk_at "tl"
  refine ⟨by omega, by omega, ?_⟩
  rw [range_map (m := rows.length) (by rw [bl])]
  refine loop_inv (fun i ρ h' => h' = h ++ [.lst ((fitsL m (seenP before rows L k) i most).map cpyT)] ∧ ∃ a4 a5 a6, ρ = [some (seenT m before rows), some (.int (k : Int)), some (.int (most : Int)), some (.ref h.length), a4, a5, a6]) _ (fun _ _ _ _ => trivial)
    (fun i x ρ h' hx ⟨eh, a4, a5, a6, eρ⟩ N hN => ?step) ⟨rfl, _, _, _, rfl⟩ (fun ρ h' ⟨eh, a4, a5, a6, eρ⟩ => ?post)
  case step =>
    subst eh eρ
    obtain ⟨hi, rfl⟩ := range_at hx
    try walk_at "tl"
    refine ⟨by omega, ?_⟩
    have er : rangeT 1 ((most : Int) + 1 - 1).toNat = (List.range most).map fun (j : Nat) => T.int ((1 : Int) + (j : Int)) := by
      have : ((most : Int) + 1 - 1).toNat = most := by omega
      rw [this]; rfl
    rw [er]
    have nxt : ∀ j, j < most → ((List.range (j + 1)).filterMap fun q => fitO m (seenP before rows L k i (q + 1)) i (q + 1)) = ((List.range j).filterMap fun q => fitO m (seenP before rows L k i (q + 1)) i (q + 1)) ++ (fitO m (seenP before rows L k i (j + 1)) i (j + 1)).toList := fun j _ => by
      rw [List.range_succ, List.filterMap_append]
      congr 1
    have base := fits_len (m := m) (P := seenP before rows L k) (n := i) (most := most)
    have base2 : (fitsL m (seenP before rows L k) i most).length ≤ 72 := Nat.le_trans base (Nat.mul_le_mul (show i ≤ 6 by omega) h12)
    refine loop_inv (fun j ρ h' => h' = h ++ [.lst ((fitsL m (seenP before rows L k) i most ++ (List.range j).filterMap fun q => fitO m (seenP before rows L k i (q + 1)) i (q + 1)).map cpyT)] ∧ ∃ a5 a6, ρ = [some (seenT m before rows), some (.int (k : Int)), some (.int (most : Int)), some (.ref h.length), some (.int (i : Int)), a5, a6]) _ (fun _ _ _ _ => trivial)
      (fun j x ρ h' hx ⟨eh, a5, a6, eρ⟩ N2 hN2 => ?step2) ⟨by simp, _, _, rfl⟩ (fun ρ h' ⟨eh, a5, a6, eρ⟩ => hN _ _ ⟨?iend, _, _, _, eρ⟩)
    case iend =>
      rw [eh, List.length_map, List.length_range]
      unfold fitsL
      rw [List.range_succ, List.flatMap_append, List.flatMap_cons, List.flatMap_nil, List.append_nil]
    subst eh eρ
    obtain ⟨hj, ex⟩ : j < most ∧ x = .int ((j + 1 : Nat) : Int) := by
      rw [List.getElem?_map] at hx
      obtain ⟨q, hq, e⟩ := Option.map_eq_some_iff.mp hx
      obtain ⟨hl, e2⟩ := List.getElem?_eq_some_iff.mp hq
      rw [List.length_range] at hl
      rw [List.getElem_range] at e2
      subst e2
      exact ⟨hl, by rw [← e]; congr 1; omega⟩
    subst ex
    generalize eacc : (fitsL m (seenP before rows L k) i most ++ (List.range j).filterMap fun q => fitO m (seenP before rows L k i (q + 1)) i (q + 1)) = acc at *
    have nx2 : (fitsL m (seenP before rows L k) i most ++ (List.range (j + 1)).filterMap fun q => fitO m (seenP before rows L k i (q + 1)) i (q + 1)) = acc ++ (fitO m (seenP before rows L k i (j + 1)) i (j + 1)).toList := by
      rw [nxt j hj, ← List.append_assoc, eacc]
    have la : acc.length ≤ 100 := by
      rw [← eacc, List.length_append]
      have : (List.filterMap (fun q => fitO m (seenP before rows L k i (q + 1)) i (q + 1)) (List.range j)).length ≤ j := Nat.le_trans (List.length_filterMap_le _ _) (by simp)
      omega
    have cell : (h ++ [Cell.lst (acc.map cpyT)])[h.length]? = some (.lst (acc.map cpyT)) := List.getElem?_concat_length
    try walk_at "tl"
    simp only [e0']
    try walk_at "tl"
    refine ⟨m, L, k, i, j + 1, before, rows, rfl, so, hk, hi, ?_⟩
    try walk_at "tl"
    refine ⟨m, _, rfl, so.m1, so.m9, fun p hp => ?_, ?_⟩
    · unfold seenP at hp
      obtain ⟨b, hb, rfl⟩ := List.mem_map.mp hp
      have hb := List.mem_range.mp hb
      exact so.lt hi (by omega)
    try walk_at "tl"
    unfold turnT
    by_cases ok : okF (seenP before rows L k i (j + 1))
    · rw [if_pos ok]
      have isn : ∀ hh, opIsN true hh (tabT (tabL m (seenP before rows L k i (j + 1)))) .non = some (.bl true) := fun _ => rfl
      simp only [isn]
      try walk_at "tl"
      simp only [isLst_r cell]
      try walk_at "tl"
      simp only [lcell_r cell]
      refine ⟨by decide, by rw [List.length_map]; show _ < 1000000; omega, hN2 _ _ ⟨?_, _, _, rfl⟩⟩
      rw [List.set_append_right _ _ (Nat.le_refl _), Nat.sub_self, nx2]
      unfold fitO
      rw [if_pos ok]
      simp [cpyT]
    · rw [if_neg ok]
      simp only [isN_n]
      try walk_at "tl"
      refine hN2 _ _ ⟨?_, _, _, rfl⟩
      rw [nx2]
      unfold fitO
      rw [if_neg ok]
      simp
  case post =>
    subst eh eρ
    rw [List.length_map, List.length_range]
    have cell : (h ++ [Cell.lst ((fitsL m (seenP before rows L k) rows.length most).map cpyT)])[h.length]? = some (.lst ((fitsL m (seenP before rows L k) rows.length most).map cpyT)) := List.getElem?_concat_length
    try walk_at "tl"
    exact .inl r
end TL

namespace TL
open PySem PySem.Spec PyProof.Rows L2
local macro_rules | `(tactic| walk_at "tl") => `(tactic| simp only [got_some, got_if, slot_0, slot_s, br_t, br_f, br_n, asB_b, asI_i, asI1_i, asI2_i, two_2, one_1, head_c, x_indexT, x_tupRgF, tupF_l, asT_f, asQ_f, isi_ftp, len_f, ix_f, walks_ftp, gtL_i, x_var, x_c, x_bin, x_nil, x_cons, x_tup, x_lstF, x_lstC, x_tru, x_tb, x_notT, x_andT, x_orT, x_not, x_and, x_or, x_if, x_chain, x_neg, x_callN, x_isi, x_po0, x_po, x_sl, x_rev, x_frz, x_listC, x_r1, x_tupRg, x_lstRgC, x_dict0, x_dictII, x_bm, x_app, x_popAt, eq_i, ne_i, eq_s, ne_s, len_tupN, walks_tupN, x_call, x_compF, x_compC, x_yes, x_rg1, x_rg2, x_itS, walks_tup, walks_lst, walks_scr, x_seq, x_skip, x_break, x_cont, x_expr, x_ret, x_retN, x_ifS, x_asg, x_nm, x_gnils, x_gcons, x_gtu, x_gsub, mulT_i, mulU_i, x_fld, x_fldPut, x_fldAug, x_meth, x_make, x_callD, x_callK, x_countD, x_indexD, x_lenSet, powB_i, min3_i, x_raise, x_rg3, asI3_i, x_sorted, x_sortedUp, x_enumZ, x_minD, x_minP, x_frzD, x_pre, x_dict3, x_dget2, eqNil_f, neNilL_f, eqNilL_f, x_setI, notInI_f, x_itemsT, isF_f, x_try, x_tryAs, x_isE, x_par3, three_3, mulL_l, x_mulC, asR_l, x_rg2B, isB_b, x_gtuL, x_gsta, sta_c, x_zip,  x_index,  x_enum, enums_tup, enums_lst, enums_scr, mulS_i,  x_com2F, x_gsubD, x_dict0T, x_dict0N, int_i, int_b, keysOf_tupN, x_par, x_aug, x_for, x_never, x_wipe0, x_wipe, add_i, add_t, add_l, add_scr, add_s, sub_i, mul_i, div_i, mod_i, pow_i, cmp_i, asQ_t, asQ_l, asQ_s, asL_l, asL_s, asL_t, asT_t, ix_t, ix_l, ix_s, len_t, len_l, len_s, tupleOf_l, tupleOf_t, listOf_t, listOf_l, max2_i, min2_i, sl_t, sl_l, sl_s, rev_t, rev_l, tru_b, tru_i, ty_non, ty_bl, ty_int, ty_str, ty_tup, ty_lst, List.map_cons, List.map_nil, List.cons_append, List.nil_append, List.append_nil, List.set_cons_zero, List.set_cons_succ, List.length_cons, List.length_nil, List.replicate_succ, List.replicate_zero, Nat.sub_self, Nat.zero_add, Nat.reduceAdd, Nat.reduceSub, Nat.reduceLeDiff, Bool.not_true, Bool.not_false, true_and, and_true, if_true, decide_true, decide_false, EndsT.xe, List.reduceReplicate, Nat.le_refl, Nat.zero_le])
theorem lt100 {n : Nat} (h : n ≤ 10000) : (n : Int) < 2 ^ 100 := by
  have : (10000 : Int) < 2 ^ 100 := by decide
  omega
theorem slots11 {ρ : Rho} (h : ρ.length = 11) : ∃ a0 a1 a2 a3 a4 a5 a6 a7 a8 a9 a10, ρ = [a0, a1, a2, a3, a4, a5, a6, a7, a8, a9, a10] := match ρ, h with
  | [a0, a1, a2, a3, a4, a5, a6, a7, a8, a9, a10], _ => ⟨a0, a1, a2, a3, a4, a5, a6, a7, a8, a9, a10, rfl⟩
theorem dt_row {l : List Nat} (hl : l.length ≤ 300) (h : ∀ x ∈ l, x < 9) : Dt 2 13803 (tupN l) := (dt_tup (k := 1) (c := 44) (L := 300) (fun t ht => by
  obtain ⟨x, hx, rfl⟩ := List.mem_map.mp ht
  have := h x hx
  have p9 : (9 : Nat) < 10 ^ 40 := by decide
  exact (dt_int (by rw [Int.natAbs_natCast]; omega)).mono (by decide) (by decide)) (by rw [List.length_map]; exact hl))
theorem dt_seen {m L : Nat} {bf : List Nat} {rows : List (List Nat)} (so : SeenOk m bf rows L) (hL : L ≤ 300) : Dt 4 248538 (seenT m bf rows) := by
  have m9 := so.m9
  have r6 := so.r6
  have p9 : (9 : Nat) < 10 ^ 40 := by decide
  refine dt_tup (k := 3) (c := 82843) (L := 3) (fun t ht => ?_) (by show 3 ≤ 3; decide)
  simp only [List.mem_cons, List.not_mem_nil, or_false] at ht
  rcases ht with rfl | rfl | rfl
  · exact (dt_int (by rw [Int.natAbs_natCast]; omega)).mono (by decide) (by decide)
  · exact (dt_row (by rw [so.bl]; omega) fun x hx => by have := so.bd x hx; omega).mono (by decide) (by decide)
  · exact (dt_tup (k := 2) (c := 13803) (L := 6) (fun t ht => by
      obtain ⟨l, hl, rfl⟩ := List.mem_map.mp ht
      exact dt_row (by rw [so.rl l hl]; exact hL) fun x hx => by have := so.rd l hl x hx; omega) (by rw [List.length_map]; exact r6)).mono (by decide) (by decide)
/-- told copies, as data -/
theorem dt_fits {m L k most : Nat} {bf : List Nat} {rows : List (List Nat)} (so : SeenOk m bf rows L) (hk : k < rows.length) (h12 : most ≤ 12) : Dt 4 110000 (.lst ((fitsL m (seenP bf rows L k) rows.length most).map cpyT)) := by
  have m9 := so.m9
  have r6 := so.r6
  have p9 : (100 : Nat) < 10 ^ 40 := by decide
  have dtt : ∀ c ∈ fitsL m (seenP bf rows L k) rows.length most, Dt 3 1400 (cpyT c) := fun c hc => by
    unfold fitsL at hc
    obtain ⟨o, ho, hc⟩ := List.mem_flatMap.mp hc
    obtain ⟨q, hq, e⟩ := List.mem_filterMap.mp hc
    have ho := List.mem_range.mp ho
    have hq := List.mem_range.mp hq
    unfold fitO at e
    split at e
    · cases e
      refine (dt_tup (k := 2) (c := 450) (L := 3) (fun t ht => ?_) (by show 3 ≤ 3; decide)).mono (by decide) (by decide)
      simp only [List.mem_cons, List.not_mem_nil, or_false] at ht
      rcases ht with rfl | rfl | rfl
      · exact (dt_int (by rw [Int.natAbs_natCast]; omega)).mono (by decide) (by decide)
      · exact (dt_int (by rw [Int.natAbs_natCast]; omega)).mono (by decide) (by decide)
      · exact (dt_tup (k := 1) (c := 44) (L := 9) (fun t ht => by
          obtain ⟨z, hz, rfl⟩ := List.mem_map.mp ht
          obtain ⟨c, hc, rfl⟩ := List.mem_map.mp hz
          cases e : tabF (seenP bf rows L k o (q + 1)) c with
          | none => exact dt_non.mono (by decide) (by decide)
          | some d =>
            have hm := tabF_mem e
            unfold seenP at hm
            obtain ⟨b, hb, e2⟩ := List.mem_map.mp hm
            have hb := List.mem_range.mp hb
            have : (rows.getD k []).getD b 0 < m := getD_mem_lt (so.rd _ (so.row hk)) (by rw [so.rl _ (so.row hk)]; exact hb)
            have := congrArg Prod.snd e2
            simp only at this
            exact (dt_int (by rw [Int.natAbs_natCast]; omega)).mono (by decide) (by decide)) (by rw [List.length_map, tabL_len]; exact m9)).mono (by decide) (by decide)
    · cases e
  refine (dt_lst (k := 3) (c := 1400) (L := 72) (fun t ht => ?_) ?_).mono (by decide) (by decide)
  · obtain ⟨c, hc, rfl⟩ := List.mem_map.mp ht
    exact dtt c hc
  · rw [List.length_map]
    exact Nat.le_trans fits_len (Nat.mul_le_mul r6 h12)
theorem repr_ref {h : AH} {k c n : Nat} {xs : List T} (e : h[n]? = some (.lst xs)) (d : Dt k c (.lst xs)) (hk : k ≤ 40) (hc : c ≤ 10000000) : opRepr h [.ref n] = some (.str (sh (.lst xs))) := by
  have q := repr_dt (h := h) d hk hc
  have e2 : toD h deep (.ref n) = toD h deep (.lst xs) := by
    show (match asL h (.ref n) with | some xs => (xs.mapM (toD h 39)).map PyData.list | none => none) = (match asL h (.lst xs) with | some xs => (xs.mapM (toD h 39)).map PyData.list | none => none)
    rw [asL_r, asR_r e, asL_l]
  have f : ∀ t, opRepr h [t] = match toD h deep t with | some d => if d.showable = true ∧ d.shown.length ≤ sizeLine then some (.str d.shown) else none | none => none := fun _ => rfl
  rw [f] at q ⊢
  rw [e2]; exact q
def sp_law : ASp := fun ts h R _ => ∃ ns : List Int, ts = [.scr (ns.map T.int)] ∧ ns.length ≤ 63 ∧ ∀ h', R (.bl true) h'
def w_law : WSt :=
  (wSeq (wFor (wEnum (wCons (wSl (wBin opAdd (wVar 0) (wC (.lst [.int 0]))) wPo0 (wPo (wC (.int 3)))) wNil)) (gTu 2 (gConss (gNm 1) (gConss (gNm 2) gNils)))
  (wSeq (wAsg (wCall sp__law_hoard_of (wCons (wVar 2) (wCons (wVar 1) wNil))) (gNm 3))
  (wSeq (wAsg (wCall sp__law_some_seen (wCons (wVar 3) (wCons (wBin opIx (wC (.lst [.int 6, .int 30, .int 100, .int 300])) (wCall sp__law_draw (wCons (wVar 3) (wCons (wC (.int 4)) wNil)))) wNil))) (gNm 4))
  (wSeq (wAsg (wCallN opRepr (wCons (wVar 4) wNil)) (gNm 5))
  (wFor (wRg1 (wCons (wC (.int 2)) wNil)) (gNm 6)
  (wSeq (wPar 7 8 (wCons (wCall sp__law_draw (wCons (wVar 3) (wCons (wCallN opLen (wCons (wBin opIx (wVar 4) (wC (.int 1))) wNil)) wNil))) (wCons (wBin opAdd (wC (.int 1)) (wCall sp__law_draw (wCons (wVar 3) (wCons (wC (.int 12)) wNil)))) wNil)))
  (wSeq (wAsg (wCall sp__law_due_now (wCons (wVar 4) (wCons (wVar 7) (wCons (wVar 8) wNil)))) (gNm 9))
  (wSeq (wAsg (wCallK 2 1 sp_fits (wCons (wVar 4) (wCons (wVar 7) wNil)) (wCons (wVar 8) wNil)) (gNm 10))
  (wSeq (wIfS (wOrT (wTB (wBin (opEq true) (wCallN opRepr (wCons (wVar 10) wNil)) (wCallN opRepr (wCons (wVar 9) wNil)))) (wTB (wBin (opEq true) (wCallN opRepr (wCons (wVar 4) wNil)) (wVar 5)))) (wRet (wC (.bl false))) wSkip)
  (wSeq (wExpr (wBM mAppend (wVar 10) (wCons (wC .non) wNil)))
  (wSeq (wIfS (wTB (wBin (opEq true) (wCallN opRepr (wCons (wCallK 2 1 sp_fits (wCons (wVar 4) (wCons (wVar 7) wNil)) (wCons (wVar 8) wNil)) wNil)) (wCallN opRepr (wCons (wVar 9) wNil)))) (wRet (wC (.bl false))) wSkip)
  (wIfS (wTB (wBin (opEq true) (wCallN opRepr (wCons (wCallD [.int 12] sp_fits (wCons (wVar 4) (wCons (wVar 7) wNil))) wNil)) (wCallN opRepr (wCons (wCall sp__law_due_now (wCons (wVar 4) (wCons (wVar 7) (wCons (wC (.int 12)) wNil)))) wNil)))) (wRet (wC (.bl false))) wSkip))))))))))))
  (wRet (wBin (opEq false) (wC (.int 12)) (wC (.int 12)))))
theorem hlen_law : ∀ ts h R RX, sp_law ts h R RX → ts.length = 1 := fun ts h R RX ⟨m, e, _⟩ => by subst e; rfl
theorem num_cell62 {ns : List Int} {t : T} (h : t ∈ numT (cutT (ns.map T.int ++ [T.int 0]) none (some 3))) : ∃ i c : Int, t = .tup [.int i, .int c] := by
  obtain ⟨i, hi⟩ := List.mem_iff_getElem?.mp h
  obtain ⟨y, hy, rfl⟩ := numT_at hi
  have hm := cut_mem' (List.mem_of_getElem? hy)
  rcases List.mem_append.mp hm with q | q
  · obtain ⟨c, _, rfl⟩ := List.mem_map.mp q
    exact ⟨i, c, rfl⟩
  · rw [List.mem_singleton.mp q]; exact ⟨i, 0, rfl⟩
theorem hsp_law : ∀ ts h R RX, sp_law ts h R RX → wBody 11 w_law ts h R RX := by
  rintro ts h R RX ⟨ns, rfl, hl, r⟩
  simp only [wBody, w_law]
  walk_at "tl"
  refine ⟨by rw [List.length_map]; show _ ≤ 1000000; omega, ?_⟩
  refine loop_all (fun ρ _ => ρ.length = 11) _ (fun _ _ _ => trivial) (fun t ht ρ h1 hρ N hN => ?step) (by simp) (fun ρ h1 _ => ?last)
  case last =>
    try walk_at "tl"
    exact .inl (r _)
  case step =>
    obtain ⟨i, c, rfl⟩ := num_cell62 ht
    obtain ⟨r0, r1, r2, r3, r4, r5, r6, r7, r8, r9, r10, rfl⟩ := slots11 hρ
    try walk_at "tl"
    refine ⟨c, i, rfl, fun h2 x c' c0 c1 e2 => ?_⟩
    have ij : IsJar h2 h1.length 0 := ⟨_, c', 0, by rw [e2]; exact List.getElem?_concat_length, c0, c1, Nat.le_refl _⟩
    try walk_at "tl"
    refine ⟨_, 0, 4, rfl, ij, by decide, by decide, by decide, fun y h3 y0 y1 s3 => ?_⟩
    have ij3 := s3.jar _ ij
    obtain ⟨lo, elo, lo1, lo3⟩ : ∃ lo : Nat, atI [T.int 6, T.int 30, T.int 100, T.int 300] y = some (.int (lo : Int)) ∧ 1 ≤ lo ∧ lo ≤ 300 := by
      obtain rfl | rfl | rfl | rfl : y = 0 ∨ y = 1 ∨ y = 2 ∨ y = 3 := by omega
      · exact ⟨6, rfl, by decide, by decide⟩
      · exact ⟨30, rfl, by decide, by decide⟩
      · exact ⟨100, rfl, by decide, by decide⟩
      · exact ⟨300, rfl, by decide, by decide⟩
    try walk_at "tl"
    simp only [elo]
    try walk_at "tl"
    refine ⟨_, _, lo, rfl, ij3, by decide, lo1, lo3, fun m bf rows L h4 so n1 L1 L2 s4 => ?_⟩
    have hL : L ≤ 300 := by omega
    have ij4 := s4.jar _ ij3
    have rs : ∀ hh, opRepr hh [seenT m bf rows] = some (.str (sh (seenT m bf rows))) := fun hh => repr_dt (dt_seen so hL) (by decide) (by decide)
    have e1' : ∀ hh, opIx hh (seenT m bf rows) (.int 1) = some (tupN bf) := fun _ => rfl
    have eb : ∀ hh, opLen hh [tupN bf] = some (.int (rows.length : Int)) := fun hh => by rw [len_tupN, so.bl]
    have rR : ∀ {hh : AH} {n k q : Nat} {A : List T}, hh[n]? = some (.lst ((fitsL m (seenP bf rows L k) rows.length q).map cpyT)) → k < rows.length → q ≤ 12 → opRepr hh [.ref n] = some (.str (sh (.lst ((fitsL m (seenP bf rows L k) rows.length q).map cpyT)))) := fun e hk hq => repr_ref e (dt_fits so hk hq) (by decide) (by decide)
    have rL : ∀ {hh : AH} {k q : Nat}, k < rows.length → q ≤ 12 → opRepr hh [.lst ((fitsL m (seenP bf rows L k) rows.length q).map cpyT)] = some (.str (sh (.lst ((fitsL m (seenP bf rows L k) rows.length q).map cpyT)))) := fun hk hq => repr_dt (dt_fits so hk hq) (by decide) (by decide)
    try walk_at "tl"
    simp only [rs]
    try walk_at "tl"
    refine ⟨by decide, by decide, ?_⟩
    rw [range_map (n := 2) (m := 2) rfl]
    refine loop_inv (fun j ρ hh => IsJar hh h1.length (100000 + 2 * j) ∧ ∃ (a6 a7 a8 a9 a10 : Option T), ρ = [r0, some (T.int i), some (T.int c), some (T.ref h1.length), some (seenT m bf rows), some (T.str (sh (seenT m bf rows))), a6, a7, a8, a9, a10]) _ (fun _ _ _ _ => trivial)
      (fun j z ρ hh hz ⟨ij5, a6, a7, a8, a9, a10, eρ⟩ NN hN2 => ?step2) ⟨ij4.mono (by omega), _, _, _, _, _, rfl⟩ (fun ρ hh ⟨ij5, a6, a7, a8, a9, a10, eρ⟩ => ?post2)
    case post2 =>
      subst eρ
      exact hN _ _ rfl
    case step2 =>
      subst eρ
      obtain ⟨hj, rfl⟩ := range_at hz
      try walk_at "tl"
      rw [e1']
      try walk_at "tl"
      rw [so.bl]
      refine ⟨_, _, _, rfl, ij5, by omega, by omega, lt100 (by have := so.r6; omega), fun y1 h6 y10 y11 s6 => ?_⟩
      have ij6 := s6.jar _ ij5
      obtain ⟨k, rfl⟩ := Int.eq_ofNat_of_zero_le y10
      have hk : k < rows.length := by omega
      try walk_at "tl"
      refine ⟨_, _, 12, rfl, ij6, by omega, by decide, by decide, fun y2 h7 y20 y21 s7 => ?_⟩
      have ij7 := s7.jar _ ij6
      obtain ⟨q, eq, q1, q12⟩ : ∃ q : Nat, (1 : Int) + y2 = q ∧ 1 ≤ q ∧ q ≤ 12 := ⟨(1 + y2).toNat, by omega, by omega, by omega⟩
      try walk_at "tl"
      simp only [eq]
      have dF := fun (z : Nat) (hz : z ≤ 12) => dt_fits (most := z) so hk hz
      have dL := fun (z : Nat) (hz : z ≤ 12) => show ((fitsL m (seenP bf rows L k) rows.length z).map cpyT).length ≤ 72 by rw [List.length_map]; exact Nat.le_trans fits_len (Nat.mul_le_mul so.r6 hz)
      obtain ⟨D, eD⟩ : ∃ D, D = (fitsL m (seenP bf rows L k) rows.length q).map cpyT := ⟨_, rfl⟩
      obtain ⟨D2, eD2⟩ : ∃ D, D = (fitsL m (seenP bf rows L k) rows.length 12).map cpyT := ⟨_, rfl⟩
      have d1 := dF q q12
      have l1 := dL q q12
      have d2 := dF 12 (by decide)
      rw [← eD] at d1 l1
      rw [← eD2] at d2
      have rA : ∀ hh : AH, opRepr hh [.lst D] = some (.str (sh (.lst D))) := fun hh => repr_dt d1 (by decide) (by decide)
      have rB : ∀ hh : AH, opRepr hh [.lst D2] = some (.str (sh (.lst D2))) := fun hh => repr_dt d2 (by decide) (by decide)
      have rC : ∀ hh : AH, opRepr (hh ++ [.lst D]) [.ref hh.length] = some (.str (sh (.lst D))) := fun hh => repr_ref List.getElem?_concat_length d1 (by decide) (by decide)
      have rE : ∀ hh : AH, opRepr (hh ++ [.lst D2]) [.ref hh.length] = some (.str (sh (.lst D2))) := fun hh => repr_ref List.getElem?_concat_length d2 (by decide) (by decide)
      have cl : ∀ hh : AH, (hh ++ [Cell.lst D])[hh.length]? = some (.lst D) := fun hh => List.getElem?_concat_length
      try walk_at "tl"
      refine ⟨m, L, k, q, bf, rows, rfl, so, hL, hk, q12, ?_⟩
      try walk_at "tl"
      refine ⟨m, L, k, q, bf, rows, rfl, so, hk, q12, ?_⟩
      rw [← eD]
      try walk_at "tl"
      simp only [rC, rA]
      try walk_at "tl"
      try simp only [decide_true, Bool.not_true]
      try walk_at "tl"
      simp only [rs]
      try walk_at "tl"
      try simp only [decide_true, Bool.not_true]
      try walk_at "tl"
      simp only [isLst_r (cl _), lcell_r (cl _)]
      try walk_at "tl"
      refine ⟨by show _ < 1000000; omega, ?_⟩
      refine ⟨m, L, k, q, bf, rows, rfl, so, hk, q12, ?_⟩
      rw [← eD]
      try walk_at "tl"
      simp only [rC, rA]
      try walk_at "tl"
      try simp only [decide_true, Bool.not_true]
      try walk_at "tl"
      refine ⟨m, L, k, 12, bf, rows, rfl, so, hk, by decide, ?_⟩
      rw [← eD2]
      try walk_at "tl"
      simp only [rE]
      try walk_at "tl"
      refine ⟨m, L, k, 12, bf, rows, rfl, so, hL, hk, by decide, ?_⟩
      rw [← eD2]
      try walk_at "tl"
      simp only [rB]
      try walk_at "tl"
      try simp only [decide_true, Bool.not_true]
      try walk_at "tl"
      refine hN2 _ _ ⟨?_, _, _, _, _, _, rfl⟩
      rw [List.set_append_right _ _ (Nat.le_refl _), Nat.sub_self]
      exact ((((ij7.app _).app _).app _)).mono (by omega)
theorem truth : Truth sp_law 63 := fun ns hl _ => ⟨ns, rfl, hl, fun _ => rfl⟩
end TL

namespace TL
open PySem PySem.Spec PyProof.Rows L2
def topS (i : Nat) : Stmt := PySem.Challenge.pw_agohands_k62_copies_that_fit.main.body.getD i (.Pass ⟨0, 0, 0, 0⟩)
abbrev s__law_draw : Stmt := topS 9
theorem sc__law_draw : FnScope ["hoard", "many", "stirred", "found"] ["hoard", "many"] (defScope s__law_draw) := ⟨rfl, rfl, rfl, by decide +kernel, rfl, by decide +kernel, by decide +kernel⟩
abbrev s__law_did : Stmt := topS 12
theorem sc__law_did : FnScope ["seen", "hand", "beat"] ["seen", "hand", "beat"] (defScope s__law_did) := ⟨rfl, rfl, rfl, by decide +kernel, rfl, by decide +kernel, by decide +kernel⟩
abbrev s__law_turn_due : Stmt := topS 13
theorem sc__law_turn_due : FnScope ["seen", "hand", "other", "ago", "turn", "doing", "beats", "some", "beat"] ["seen", "hand", "other", "ago"] (defScope s__law_turn_due) := ⟨rfl, rfl, rfl, by decide +kernel, rfl, by decide +kernel, by decide +kernel⟩
abbrev s__law_due_now : Stmt := topS 14
theorem sc__law_due_now : FnScope ["seen", "hand", "reach", "found", "other", "ago", "turn"] ["seen", "hand", "reach"] (defScope s__law_due_now) := ⟨rfl, rfl, rfl, by decide +kernel, rfl, by decide +kernel, by decide +kernel⟩
abbrev s__law_hoard_of : Stmt := topS 8
theorem sc__law_hoard_of : FnScope ["cell", "nth"] ["cell", "nth"] (defScope s__law_hoard_of) := ⟨rfl, rfl, rfl, by decide +kernel, rfl, by decide +kernel, by decide +kernel⟩
abbrev s__law_shift : Stmt := topS 10
theorem sc__law_shift : FnScope ["hoard", "many", "way", "by", "one", "row", "doing"] ["hoard", "many"] (defScope s__law_shift) := ⟨rfl, rfl, rfl, by decide +kernel, rfl, by decide +kernel, by decide +kernel⟩
abbrev s__law_some_seen : Stmt := topS 11
theorem sc__law_some_seen : FnScope ["hoard", "long", "many", "count", "before", "ways", "strange", "rows", "beat", "hand", "other", "ago", "turn", "doing", "k", "row"] ["hoard", "long"] (defScope s__law_some_seen) := ⟨rfl, rfl, rfl, by decide +kernel, rfl, by decide +kernel, by decide +kernel⟩
abbrev s_seen_at : Stmt := topS 3
theorem sc_seen_at : FnScope ["seen", "hand", "beat", "many", "before", "rows"] ["seen", "hand", "beat"] (defScope s_seen_at) := ⟨rfl, rfl, rfl, by decide +kernel, rfl, by decide +kernel, by decide +kernel⟩
abbrev s_pairs_of : Stmt := topS 4
theorem sc_pairs_of : FnScope ["seen", "hand", "other", "ago", "beat", "doing"] ["seen", "hand", "other", "ago"] (defScope s_pairs_of) := ⟨rfl, rfl, rfl, by decide +kernel, rfl, by decide +kernel, by decide +kernel⟩
abbrev s_turn_that_fits : Stmt := topS 5
theorem sc_turn_that_fits : FnScope ["many", "pairs", "turn", "copied", "doing"] ["many", "pairs"] (defScope s_turn_that_fits) := ⟨rfl, rfl, rfl, by decide +kernel, rfl, by decide +kernel, by decide +kernel⟩
abbrev s_fits : Stmt := topS 6
theorem sc_fits : FnScope ["seen", "hand", "most", "found", "other", "ago", "turn"] ["seen", "hand", "most"] (defScope s_fits) := ⟨rfl, rfl, rfl, by decide +kernel, rfl, by decide +kernel, by decide +kernel⟩
abbrev s_law : Stmt := topS 15
theorem sc_law : FnScope ["script", "nth", "cell", "hoard", "seen", "kept", "turn", "hand", "reach", "due", "told"] ["script"] (defScope s_law) := ⟨rfl, rfl, rfl, by decide +kernel, rfl, by decide +kernel, by decide +kernel⟩
structure Globs (K : PySem.W.Frag) (mg : Str → Option Value) : Prop where
  b_enumerate : mg "enumerate" = none
  b_len : mg "len" = none
  b_list : mg "list" = none
  b_max : mg "max" = none
  b_range : mg "range" = none
  b_repr : mg "repr" = none
  b_set : mg "set" = none
  b_sorted : mg "sorted" = none
  b_tuple : mg "tuple" = none
  c_MOST_AGO : ∃ t, mg "MOST_AGO" = some (.int 12 t)
  c_MOST_PAST : ∃ t, mg "MOST_PAST" = some (.int 12 t)
section
variable {P : Program} {w : World} {K : PySem.W.Frag} {mg : Str → Option Value} {base : Heap} (gl : Globs K mg)
include gl
theorem fg__law_draw {f : Addr} {fd : FuncData} (F : Fun K "_law_draw" "_law_draw" s__law_draw f fd)  : FnG P w K mg base 1 f fd ["hoard", "many"] (spA K mg sp__law_draw) := by
  exact fnG_mk (u := w__law_draw) F sc__law_draw (fun cdv A outer s H E hh po =>
  (ss_cons (s_if (st_cmp o_gt (se_ix (se_var 0) se_int) se_int) (ss_cons (s_set 3 sc__law_draw.nd (se_bin o_mod (se_ix (se_var 0) se_int) (se_var 1)))
  (ss_cons (s_asg (se_bin o_div (se_ix (se_var 0) se_int) (se_var 1)) (sg_sub (se_var 0) se_int))
  (ss_one (s_ret (se_var 3))))) ss_nil)
  (ss_cons (s_asg (se_bin o_add (se_ix (se_var 0) se_int) se_int) (sg_sub (se_var 0) se_int))
  (ss_cons (s_set 2 sc__law_draw.nd (se_bin o_powB (se_bin o_add (se_bin o_add (se_ix (se_var 0) se_int) (se_bin o_mul se_int (se_ix (se_var 0) se_int))) se_int) se_int))
  (ss_cons (s_set 2 sc__law_draw.nd (se_bin o_mod (se_var 2) se_int))
  (ss_cons (s_set 2 sc__law_draw.nd (se_bin o_mod (se_bin o_powB (se_bin o_add (se_var 2) (se_bin o_mul se_int (se_ix (se_var 0) se_int))) se_int) (se_bin o_add (se_bin o_pow se_int se_int) se_int)))
  (ss_one (s_ret (se_bin o_mod (se_bin o_div (se_var 2) se_int) (se_var 1))))))))))
    hlen__law_draw hsp__law_draw
theorem fg__law_did {f : Addr} {fd : FuncData} (F : Fun K "_law_did" "_law_did" s__law_did f fd)  : FnG P w K mg base 1 f fd ["seen", "hand", "beat"] (spA K mg sp__law_did) := by
  exact fnG_mk (u := w__law_did) F sc__law_did (fun cdv A outer s H E hh po =>
  (ss_one (s_ret (se_if (st_cmp o_ge (se_var 2) se_int) (se_ix (se_ix (se_ix (se_var 0) se_int) (se_var 1)) (se_var 2)) (se_ix (se_ix (se_var 0) se_int) (se_var 1))))))
    hlen__law_did hsp__law_did
theorem fg__law_turn_due {f : Addr} {fd : FuncData} (F : Fun K "_law_turn_due" "_law_turn_due" s__law_turn_due f fd) (C0__law_did : Callee P w K mg base "_law_did" 1 ["seen", "hand", "beat"] sp__law_did) : FnG P w K mg base 2 f fd ["seen", "hand", "other", "ago"] (spA K mg sp__law_turn_due) := by
  have C__law_did := C0__law_did.mono (show 1 ≤ 1 by decide)
  exact fnG_mk (u := w__law_turn_due) F sc__law_turn_due (fun cdv A outer s H E hh po =>
  (ss_cons (s_set 4 sc__law_turn_due.nd (se_lstC sa_nil))
  (ss_cons (s_for po (si_range1 gl.b_range (sa_cons (se_ix (se_var 0) se_int) sa_nil)) (sg_name 5 sc__law_turn_due.nd)
  (ss_cons (s_setCompF 6 [("beat", 8)] sc__law_turn_due.nd (si_range1 gl.b_range (sa_cons (se_bi c_len gl.b_len (sa_cons (se_ix (se_ix (se_var 0) se_int) (se_var 1)) sa_nil)) sa_nil)) (fun _ _ _ _ _ => (sgc_name 8 sc__law_turn_due.nd)) (fun _ _ _ _ _ => (sc_one (st_cmp (o_eq hh.blk.room.units) (se_call C__law_did hh.blk (sa_cons (se_var 0) (sa_cons (se_var 2) (sa_cons (se_bin o_sub (se_var 8) (se_var 3)) sa_nil)))) (se_var 5)))) (fun _ _ _ _ _ => (se_var 8)))
  (ss_cons (s_set 7 sc__law_turn_due.nd (se_sortedSet gl.b_sorted gl.b_set (se_compF [("beat", 8)] sc__law_turn_due.nd (si_seq (se_var 6)) (fun _ _ _ _ _ => (sgc_name 8 sc__law_turn_due.nd)) (fun _ _ _ _ _ => sc_nil) (fun _ _ _ _ _ => (se_ix (se_ix (se_ix (se_var 0) se_int) (se_var 1)) (se_var 8))))))
  (ss_cons (s_if (st_cmp o_gt (se_bi c_len gl.b_len (sa_cons (se_var 7) sa_nil)) se_int) (ss_one (s_ret se_non)) ss_nil)
  (ss_one (s_expr (se_append (se_var 4) (sa_cons (se_ix (se_bin o_add (se_var 7) (se_lstK [.non] (sa_cons se_non sa_nil))) se_int) sa_nil))))))))
  (ss_one (s_ret (se_ty c_tuple gl.b_tuple (sa_cons (se_var 4) sa_nil)))))))
    hlen__law_turn_due hsp__law_turn_due
theorem fg__law_due_now {f : Addr} {fd : FuncData} (F : Fun K "_law_due_now" "_law_due_now" s__law_due_now f fd) (C0__law_turn_due : Callee P w K mg base "_law_turn_due" 2 ["seen", "hand", "other", "ago"] sp__law_turn_due) : FnG P w K mg base 3 f fd ["seen", "hand", "reach"] (spA K mg sp__law_due_now) := by
  have C__law_turn_due := C0__law_turn_due.mono (show 2 ≤ 2 by decide)
  exact fnG_mk (u := w__law_due_now) F sc__law_due_now (fun cdv A outer s H E hh po =>
  (ss_cons (s_set 3 sc__law_due_now.nd (se_lstC sa_nil))
  (ss_cons (s_for po (si_range1 gl.b_range (sa_cons (se_bi c_len gl.b_len (sa_cons (se_ix (se_var 0) se_int) sa_nil)) sa_nil)) (sg_name 4 sc__law_due_now.nd)
  (ss_one (s_for po (si_range2 gl.b_range (sa_cons se_int (sa_cons (se_bin o_add (se_var 2) se_int) sa_nil))) (sg_name 5 sc__law_due_now.nd)
  (ss_cons (s_set 6 sc__law_due_now.nd (se_call C__law_turn_due hh (sa_cons (se_var 0) (sa_cons (se_var 1) (sa_cons (se_var 4) (sa_cons (se_var 5) sa_nil))))))
  (ss_one (s_if (st_cmp o_notN (se_var 6) se_non) (ss_one (s_expr (se_append (se_var 3) (sa_cons (se_tup (sa_cons (se_var 4) (sa_cons (se_var 5) (sa_cons (se_var 6) sa_nil)))) sa_nil)))) ss_nil))))))
  (ss_one (s_ret (se_frz (se_var 3)))))))
    hlen__law_due_now hsp__law_due_now
theorem fg__law_hoard_of {f : Addr} {fd : FuncData} (F : Fun K "_law_hoard_of" "_law_hoard_of" s__law_hoard_of f fd)  : FnG P w K mg base 1 f fd ["cell", "nth"] (spA K mg sp__law_hoard_of) := by
  exact fnG_mk (u := w__law_hoard_of) F sc__law_hoard_of (fun cdv A outer s H E hh po =>
  (ss_one (s_ret (se_lstC (sa_cons (se_bi (c_max2 rfl) gl.b_max (sa_cons se_int (sa_cons (se_bin o_sub (se_var 0) (se_bin o_pow se_int se_int)) sa_nil))) (sa_cons (se_bin o_add (se_bin o_mul (se_bin o_mod (se_var 0) (se_bin o_pow se_int se_int)) se_int) (se_bin o_mod (se_var 1) se_int)) (sa_cons se_int sa_nil)))))))
    hlen__law_hoard_of hsp__law_hoard_of
theorem fg__law_shift {f : Addr} {fd : FuncData} (F : Fun K "_law_shift" "_law_shift" s__law_shift f fd) (C0__law_draw : Callee P w K mg base "_law_draw" 1 ["hoard", "many"] sp__law_draw) : FnG P w K mg base 2 f fd ["hoard", "many"] (spA K mg sp__law_shift) := by
  have C__law_draw := C0__law_draw.mono (show 1 ≤ 1 by decide)
  exact fnG_mk (u := w__law_shift) F sc__law_shift (fun cdv A outer s H E hh po =>
  (ss_cons (s_set 2 sc__law_shift.nd (se_call C__law_draw hh (sa_cons (se_var 0) (sa_cons se_int sa_nil))))
  (ss_cons (s_asg (se_tup (sa_cons (se_call C__law_draw hh (sa_cons (se_var 0) (sa_cons (se_var 1) sa_nil))) (sa_cons (se_call C__law_draw hh (sa_cons (se_var 0) (sa_cons (se_var 1) sa_nil))) sa_nil))) (sg_tup (sgs_cons (sg_name 3 sc__law_shift.nd) (sgs_cons (sg_name 4 sc__law_shift.nd) sgs_nil))))
  (ss_cons (s_if (st_cmp (o_eq hh.room.units) (se_var 2) se_int) (ss_one (s_ret (se_ty c_tuple gl.b_tuple (sa_cons (se_compF [("doing", 6)] sc__law_shift.nd (si_range1 gl.b_range (sa_cons (se_var 1) sa_nil)) (fun _ _ _ _ _ => (sgc_name 6 sc__law_shift.nd)) (fun _ _ _ _ _ => sc_nil) (fun _ _ _ _ _ => (se_bin o_mod (se_bin o_add (se_var 6) (se_var 3)) (se_var 1)))) sa_nil)))) ss_nil)
  (ss_cons (s_if (st_cmp (o_eq hh.room.units) (se_var 2) se_int) (ss_cons (s_set 5 sc__law_shift.nd (se_lstRgC gl.b_list (srg_1 gl.b_range (se_var 1))))
  (ss_cons (s_asg (se_var 4) (sg_sub (se_var 5) (se_var 3)))
  (ss_cons (s_asg (se_var 3) (sg_sub (se_var 5) (se_var 4)))
  (ss_one (s_ret (se_ty c_tuple gl.b_tuple (sa_cons (se_var 5) sa_nil))))))) ss_nil)
  (ss_one (s_ret (se_ty c_tuple gl.b_tuple (sa_cons (se_compF [("doing", 6)] sc__law_shift.nd (si_range1 gl.b_range (sa_cons (se_var 1) sa_nil)) (fun _ _ _ _ _ => (sgc_name 6 sc__law_shift.nd)) (fun _ _ _ _ _ => sc_nil) (fun _ _ _ _ _ => (se_if (st_cmp (o_eq hh.blk.room.units) (se_var 2) se_int) (se_call C__law_draw hh.blk (sa_cons (se_var 0) (sa_cons (se_var 1) sa_nil))) (se_var 4)))) sa_nil)))))))))
    hlen__law_shift hsp__law_shift
theorem fg__law_some_seen {f : Addr} {fd : FuncData} (F : Fun K "_law_some_seen" "_law_some_seen" s__law_some_seen f fd) (C0__law_draw : Callee P w K mg base "_law_draw" 1 ["hoard", "many"] sp__law_draw) (C0__law_shift : Callee P w K mg base "_law_shift" 2 ["hoard", "many"] sp__law_shift) : FnG P w K mg base 3 f fd ["hoard", "long"] (spA K mg sp__law_some_seen) := by
  have C__law_draw := C0__law_draw.mono (show 1 ≤ 2 by decide)
  have C__law_shift := C0__law_shift.mono (show 2 ≤ 2 by decide)
  exact fnG_mk (u := w__law_some_seen) F sc__law_some_seen (fun cdv A outer s H E hh po =>
  (ss_cons (s_set 2 sc__law_some_seen.nd (se_ix (se_lstF (sa_cons (se_bin o_add se_int (se_call C__law_draw hh (sa_cons (se_var 0) (sa_cons se_int sa_nil)))) (sa_cons se_int (sa_cons se_int sa_nil)))) (se_call C__law_draw hh (sa_cons (se_var 0) (sa_cons se_int sa_nil)))))
  (ss_cons (s_set 3 sc__law_some_seen.nd (se_bin o_add se_int (se_call C__law_draw hh (sa_cons (se_var 0) (sa_cons se_int sa_nil)))))
  (ss_cons (s_set 4 sc__law_some_seen.nd (se_ty c_tuple gl.b_tuple (sa_cons (se_compF [("k", 14)] sc__law_some_seen.nd (si_range1 gl.b_range (sa_cons (se_var 3) sa_nil)) (fun _ _ _ _ _ => (sgc_name 14 sc__law_some_seen.nd)) (fun _ _ _ _ _ => sc_nil) (fun _ _ _ _ _ => (se_call C__law_draw hh.blk (sa_cons (se_var 0) (sa_cons (se_var 2) sa_nil))))) sa_nil)))
  (ss_cons (s_setCompF 5 [("k", 14)] sc__law_some_seen.nd (si_range1 gl.b_range (sa_cons (se_var 3) sa_nil)) (fun _ _ _ _ _ => (sgc_name 14 sc__law_some_seen.nd)) (fun _ _ _ _ _ => sc_nil) (fun _ _ _ _ _ => (se_tup (sa_cons (se_call C__law_draw hh.blk (sa_cons (se_var 0) (sa_cons (se_var 3) sa_nil))) (sa_cons (se_bin o_add se_int (se_call C__law_draw hh.blk (sa_cons (se_var 0) (sa_cons se_int sa_nil)))) (sa_cons (se_call C__law_shift hh.blk (sa_cons (se_var 0) (sa_cons (se_var 2) sa_nil))) sa_nil))))))
  (ss_cons (s_set 6 sc__law_some_seen.nd (se_ix (se_lstF (sa_cons se_int (sa_cons se_int (sa_cons se_int (sa_cons (se_bin o_pow se_int se_int) sa_nil))))) (se_call C__law_draw hh (sa_cons (se_var 0) (sa_cons se_int sa_nil)))))
  (ss_cons (s_setCompF 7 [("k", 14)] sc__law_some_seen.nd (si_range1 gl.b_range (sa_cons (se_var 3) sa_nil)) (fun _ _ _ _ _ => (sgc_name 14 sc__law_some_seen.nd)) (fun _ _ _ _ _ => sc_nil) (fun _ _ _ _ _ => (se_lstC sa_nil)))
  (ss_cons (s_for po (si_range1 gl.b_range (sa_cons (se_bin o_add se_int (se_call C__law_draw hh (sa_cons (se_var 0) (sa_cons (se_var 1) sa_nil)))) sa_nil)) (sg_name 8 sc__law_some_seen.nd)
  (ss_one (s_for po (si_range1 gl.b_range (sa_cons (se_var 3) sa_nil)) (sg_name 9 sc__law_some_seen.nd)
  (ss_cons (s_asg (se_ix (se_var 5) (se_var 9)) (sg_tup (sgs_cons (sg_name 10 sc__law_some_seen.nd) (sgs_cons (sg_name 11 sc__law_some_seen.nd) (sgs_cons (sg_name 12 sc__law_some_seen.nd) sgs_nil)))))
  (ss_cons (s_set 13 sc__law_some_seen.nd (se_ix (se_var 12) (se_if (st_cmp o_ge (se_var 8) (se_var 11)) (se_ix (se_ix (se_var 7) (se_var 10)) (se_bin o_sub (se_var 8) (se_var 11))) (se_ix (se_var 4) (se_var 10)))))
  (ss_cons (s_if (st_cmp (o_eq hh.room.units) (se_call C__law_draw hh (sa_cons (se_var 0) (sa_cons (se_var 6) sa_nil))) se_int) (ss_one (s_set 13 sc__law_some_seen.nd (se_call C__law_draw hh (sa_cons (se_var 0) (sa_cons (se_var 2) sa_nil))))) ss_nil)
  (ss_one (s_expr (se_append (se_ix (se_var 7) (se_var 9)) (sa_cons (se_var 13) sa_nil))))))))))
  (ss_one (s_ret (se_tup (sa_cons (se_var 2) (sa_cons (se_var 4) (sa_cons (se_ty c_tuple gl.b_tuple (sa_cons (se_compF [("row", 15)] sc__law_some_seen.nd (si_seq (se_var 7)) (fun _ _ _ _ _ => (sgc_name 15 sc__law_some_seen.nd)) (fun _ _ _ _ _ => sc_nil) (fun _ _ _ _ _ => (se_ty c_tuple gl.b_tuple (sa_cons (se_var 15) sa_nil)))) sa_nil)) sa_nil))))))))))))))
    hlen__law_some_seen hsp__law_some_seen
theorem fg_seen_at {f : Addr} {fd : FuncData} (F : Fun K "seen_at" "seen_at" s_seen_at f fd)  : FnG P w K mg base 1 f fd ["seen", "hand", "beat"] (spA K mg sp_seen_at) := by
  exact fnG_mk (u := w_seen_at) F sc_seen_at (fun cdv A outer s H E hh po =>
  (ss_cons (s_asg (se_var 0) (sg_tup (sgs_cons (sg_name 3 sc_seen_at.nd) (sgs_cons (sg_name 4 sc_seen_at.nd) (sgs_cons (sg_name 5 sc_seen_at.nd) sgs_nil)))))
  (ss_one (s_ret (se_if (st_cmp o_lt (se_var 2) se_int) (se_ix (se_var 4) (se_var 1)) (se_ix (se_ix (se_var 5) (se_var 1)) (se_var 2)))))))
    hlen_seen_at hsp_seen_at
theorem fg_pairs_of {f : Addr} {fd : FuncData} (F : Fun K "pairs_of" "pairs_of" s_pairs_of f fd) (C0_seen_at : Callee P w K mg base "seen_at" 1 ["seen", "hand", "beat"] sp_seen_at) : FnG P w K mg base 2 f fd ["seen", "hand", "other", "ago"] (spA K mg sp_pairs_of) := by
  have C_seen_at := C0_seen_at.mono (show 1 ≤ 1 by decide)
  exact fnG_mk (u := w_pairs_of) F sc_pairs_of (fun cdv A outer s H E hh po =>
  (ss_one (s_ret (se_compF [("beat", 4), ("doing", 5)] sc_pairs_of.nd (si_enum gl.b_enumerate (sa_cons (se_ix (se_ix (se_var 0) se_int) (se_var 1)) sa_nil)) (fun _ _ _ _ _ => (sgc_tup (sgcs_cons (sgc_name 4 sc_pairs_of.nd) (sgcs_cons (sgc_name 5 sc_pairs_of.nd) sgcs_nil)))) (fun _ _ _ _ _ => sc_nil) (fun _ _ _ _ _ => (se_tup (sa_cons (se_call C_seen_at hh.blk (sa_cons (se_var 0) (sa_cons (se_var 2) (sa_cons (se_bin o_sub (se_var 4) (se_var 3)) sa_nil)))) (sa_cons (se_var 5) sa_nil))))))))
    hlen_pairs_of hsp_pairs_of
theorem fg_turn_that_fits {f : Addr} {fd : FuncData} (F : Fun K "turn_that_fits" "turn_that_fits" s_turn_that_fits f fd)  : FnG P w K mg base 1 f fd ["many", "pairs"] (spA K mg sp_turn_that_fits) := by
  exact fnG_mk (u := w_turn_that_fits) F sc_turn_that_fits (fun cdv A outer s H E hh po =>
  (ss_cons (s_set 2 sc_turn_that_fits.nd (se_mulC (se_lstK [.non] (sa_cons se_non sa_nil)) (se_var 0)))
  (ss_cons (s_for po (si_seq (se_var 1)) (sg_tup (sgs_cons (sg_name 3 sc_turn_that_fits.nd) (sgs_cons (sg_name 4 sc_turn_that_fits.nd) sgs_nil)))
  (ss_cons (s_if (PW.pt (sw_and (st_cmp o_notN (se_ix (se_var 2) (se_var 3)) se_non) (sw_and1 (st_cmp (o_ne hh.room.units) (se_ix (se_var 2) (se_var 3)) (se_var 4))))) (ss_one (s_ret se_non)) ss_nil)
  (ss_one (s_asg (se_var 4) (sg_sub (se_var 2) (se_var 3))))))
  (ss_one (s_ret (se_ty c_tuple gl.b_tuple (sa_cons (se_var 2) sa_nil)))))))
    hlen_turn_that_fits hsp_turn_that_fits
set_option maxHeartbeats 0 in
theorem fg_fits {f : Addr} {fd : FuncData} (F : FunD K "fits" "fits" (defArgs s_fits) (defBody s_fits) (defScope s_fits) [] [("most", .int 12)] f fd) (C0_pairs_of : Callee P w K mg base "pairs_of" 2 ["seen", "hand", "other", "ago"] sp_pairs_of) (C0_turn_that_fits : Callee P w K mg base "turn_that_fits" 1 ["many", "pairs"] sp_turn_that_fits) : FnG P w K mg base 3 f fd ["seen", "hand", "most"] (spA K mg sp_fits) := by
  have C_pairs_of := C0_pairs_of.mono (show 2 ≤ 2 by decide)
  have C_turn_that_fits := C0_turn_that_fits.mono (show 1 ≤ 2 by decide)
  exact fnG_mkX (u := w_fits) F.x sc_fits (fun cdv A outer s H E hh po =>
  (ss_cons (s_set 3 sc_fits.nd (se_lstC sa_nil))
  (ss_cons (s_for po (si_range1 gl.b_range (sa_cons (se_bi c_len gl.b_len (sa_cons (se_ix (se_var 0) se_int) sa_nil)) sa_nil)) (sg_name 4 sc_fits.nd)
  (ss_one (s_for po (si_range2 gl.b_range (sa_cons se_int (sa_cons (se_bin o_add (se_var 2) se_int) sa_nil))) (sg_name 5 sc_fits.nd)
  (ss_cons (s_set 6 sc_fits.nd (se_call C_turn_that_fits hh (sa_cons (se_ix (se_var 0) se_int) (sa_cons (se_call C_pairs_of hh (sa_cons (se_var 0) (sa_cons (se_var 1) (sa_cons (se_var 4) (sa_cons (se_var 5) sa_nil))))) sa_nil))))
  (ss_one (s_if (st_cmp o_notN (se_var 6) se_non) (ss_one (s_expr (se_append (se_var 3) (sa_cons (se_tup (sa_cons (se_var 4) (sa_cons (se_var 5) (sa_cons (se_var 6) sa_nil)))) sa_nil)))) ss_nil))))))
  (ss_one (s_ret (se_var 3))))))
    hlen_fits hsp_fits
theorem fg_law {f : Addr} {fd : FuncData} (F : Fun K "law" "law" s_law f fd) (C0__law_draw : Callee P w K mg base "_law_draw" 1 ["hoard", "many"] sp__law_draw) (C0__law_due_now : Callee P w K mg base "_law_due_now" 3 ["seen", "hand", "reach"] sp__law_due_now) (C0__law_hoard_of : Callee P w K mg base "_law_hoard_of" 1 ["cell", "nth"] sp__law_hoard_of) (C0__law_some_seen : Callee P w K mg base "_law_some_seen" 3 ["hoard", "long"] sp__law_some_seen) (D0_fits : DCallee P w K mg base "fits" 3 ["seen", "hand", "most"] [.int 12] sp_fits) (K0_fits : KCallee P w K mg base "fits" 3 ["seen", "hand", "most"] 2 ["most"] sp_fits) : FnG P w K mg base 4 f fd ["script"] (spA K mg sp_law) := by
  have C__law_draw := C0__law_draw.mono (show 1 ≤ 3 by decide)
  have C__law_due_now := C0__law_due_now.mono (show 3 ≤ 3 by decide)
  have C__law_hoard_of := C0__law_hoard_of.mono (show 1 ≤ 3 by decide)
  have C__law_some_seen := C0__law_some_seen.mono (show 3 ≤ 3 by decide)
  have D_fits := D0_fits.mono (show 3 ≤ 3 by decide)
  have K_fits := K0_fits.mono (show 3 ≤ 3 by decide)
  exact fnG_mk (u := w_law) F sc_law (fun cdv A outer s H E hh po =>
  (ss_cons (s_for po (si_enum gl.b_enumerate (sa_cons (se_sl (se_bin o_add (se_var 0) (se_lstK [.int 0] (sa_cons se_int sa_nil))) so_none (so_some se_int)) sa_nil)) (sg_tup (sgs_cons (sg_name 1 sc_law.nd) (sgs_cons (sg_name 2 sc_law.nd) sgs_nil)))
  (ss_cons (s_set 3 sc_law.nd (se_call C__law_hoard_of hh (sa_cons (se_var 2) (sa_cons (se_var 1) sa_nil))))
  (ss_cons (s_set 4 sc_law.nd (se_call C__law_some_seen hh (sa_cons (se_var 3) (sa_cons (se_ix (se_lstK [.int 6, .int 30, .int 100, .int 300] (sa_cons se_int (sa_cons se_int (sa_cons se_int (sa_cons se_int sa_nil))))) (se_call C__law_draw hh (sa_cons (se_var 3) (sa_cons se_int sa_nil)))) sa_nil))))
  (ss_cons (s_set 5 sc_law.nd (se_bi (c_repr hh.guards hh.room.units) gl.b_repr (sa_cons (se_var 4) sa_nil)))
  (ss_one (s_for po (si_range1 gl.b_range (sa_cons se_int sa_nil)) (sg_name 6 sc_law.nd)
  (ss_cons (s_par 7 8 sc_law.nd (sa_cons (se_call C__law_draw hh (sa_cons (se_var 3) (sa_cons (se_bi c_len gl.b_len (sa_cons (se_ix (se_var 4) se_int) sa_nil)) sa_nil))) (sa_cons (se_bin o_add se_int (se_call C__law_draw hh (sa_cons (se_var 3) (sa_cons se_int sa_nil)))) sa_nil)))
  (ss_cons (s_set 9 sc_law.nd (se_call C__law_due_now hh (sa_cons (se_var 4) (sa_cons (se_var 7) (sa_cons (se_var 8) sa_nil)))))
  (ss_cons (s_set 10 sc_law.nd (se_callK K_fits hh (sa_cons (se_var 4) (sa_cons (se_var 7) sa_nil)) (sk_cons (se_var 8) sk_nil)))
  (ss_cons (s_if (PW.pt (sw_or (st_cmp (o_ne hh.room.units) (se_bi (c_repr hh.guards hh.room.units) gl.b_repr (sa_cons (se_var 10) sa_nil)) (se_bi (c_repr hh.guards hh.room.units) gl.b_repr (sa_cons (se_var 9) sa_nil))) (sw_or1 (st_cmp (o_ne hh.room.units) (se_bi (c_repr hh.guards hh.room.units) gl.b_repr (sa_cons (se_var 4) sa_nil)) (se_var 5))))) (ss_one (s_ret se_bl)) ss_nil)
  (ss_cons (s_expr (se_append (se_var 10) (sa_cons se_non sa_nil)))
  (ss_cons (s_if (st_cmp (o_ne hh.room.units) (se_bi (c_repr hh.guards hh.room.units) gl.b_repr (sa_cons (se_callK K_fits hh (sa_cons (se_var 4) (sa_cons (se_var 7) sa_nil)) (sk_cons (se_var 8) sk_nil)) sa_nil)) (se_bi (c_repr hh.guards hh.room.units) gl.b_repr (sa_cons (se_var 9) sa_nil))) (ss_one (s_ret se_bl)) ss_nil)
  (ss_one (s_if (st_cmp (o_ne hh.room.units) (se_bi (c_repr hh.guards hh.room.units) gl.b_repr (sa_cons (se_callD D_fits hh (sa_cons (se_var 4) (sa_cons (se_var 7) sa_nil))) sa_nil)) (se_bi (c_repr hh.guards hh.room.units) gl.b_repr (sa_cons (se_call C__law_due_now hh (sa_cons (se_var 4) (sa_cons (se_var 7) (sa_cons se_int sa_nil)))) sa_nil))) (ss_one (s_ret se_bl)) ss_nil))))))))))))))
  (ss_one (s_ret (se_cmp (o_eq hh.room.units) (se_glI gl.c_MOST_AGO.choose_spec) se_int)))))
    hlen_law hsp_law
end
set_option maxHeartbeats 0 in
theorem all_mk {l : PySem.W.OpenLaw} {w : World} {K : PySem.W.Frag} {h : Heap} {mg : Str → Option Value} {fa : Addr} (X : K.In h) (G : h.Ns mainGlobals mg) (hfa : mg "law" = some (.ref fa))
    {f0 : Addr} {od0 an0 : Option Addr} {sl0 : Array (Option Value)} {oc0 kV0 dc0 pm0 cd0 ct0 : Value}
    (a0 : PySem.W.nsIn K mainGlobals "_law_draw" = some (some (.ref f0))) (l0 : K.lookup f0 = some ⟨oc0, od0, .func (PySem.W.fnOf "_law_draw" "_law_draw" (defArgs s__law_draw) (defBody s__law_draw) (defScope s__law_draw) .none kV0 dc0 pm0 an0 cd0 ct0), sl0⟩) (c0 : PySem.W.codeIn K cd0 "_law_draw" = true) (k0 : PySem.W.keepIn K (.ref f0) = true)
    {f1 : Addr} {od1 an1 : Option Addr} {sl1 : Array (Option Value)} {oc1 kV1 dc1 pm1 cd1 ct1 : Value}
    (a1 : PySem.W.nsIn K mainGlobals "_law_did" = some (some (.ref f1))) (l1 : K.lookup f1 = some ⟨oc1, od1, .func (PySem.W.fnOf "_law_did" "_law_did" (defArgs s__law_did) (defBody s__law_did) (defScope s__law_did) .none kV1 dc1 pm1 an1 cd1 ct1), sl1⟩) (c1 : PySem.W.codeIn K cd1 "_law_did" = true) (k1 : PySem.W.keepIn K (.ref f1) = true)
    {f2 : Addr} {od2 an2 : Option Addr} {sl2 : Array (Option Value)} {oc2 kV2 dc2 pm2 cd2 ct2 : Value}
    (a2 : PySem.W.nsIn K mainGlobals "_law_turn_due" = some (some (.ref f2))) (l2 : K.lookup f2 = some ⟨oc2, od2, .func (PySem.W.fnOf "_law_turn_due" "_law_turn_due" (defArgs s__law_turn_due) (defBody s__law_turn_due) (defScope s__law_turn_due) .none kV2 dc2 pm2 an2 cd2 ct2), sl2⟩) (c2 : PySem.W.codeIn K cd2 "_law_turn_due" = true) (k2 : PySem.W.keepIn K (.ref f2) = true)
    {f3 : Addr} {od3 an3 : Option Addr} {sl3 : Array (Option Value)} {oc3 kV3 dc3 pm3 cd3 ct3 : Value}
    (a3 : PySem.W.nsIn K mainGlobals "_law_due_now" = some (some (.ref f3))) (l3 : K.lookup f3 = some ⟨oc3, od3, .func (PySem.W.fnOf "_law_due_now" "_law_due_now" (defArgs s__law_due_now) (defBody s__law_due_now) (defScope s__law_due_now) .none kV3 dc3 pm3 an3 cd3 ct3), sl3⟩) (c3 : PySem.W.codeIn K cd3 "_law_due_now" = true) (k3 : PySem.W.keepIn K (.ref f3) = true)
    {f4 : Addr} {od4 an4 : Option Addr} {sl4 : Array (Option Value)} {oc4 kV4 dc4 pm4 cd4 ct4 : Value}
    (a4 : PySem.W.nsIn K mainGlobals "_law_hoard_of" = some (some (.ref f4))) (l4 : K.lookup f4 = some ⟨oc4, od4, .func (PySem.W.fnOf "_law_hoard_of" "_law_hoard_of" (defArgs s__law_hoard_of) (defBody s__law_hoard_of) (defScope s__law_hoard_of) .none kV4 dc4 pm4 an4 cd4 ct4), sl4⟩) (c4 : PySem.W.codeIn K cd4 "_law_hoard_of" = true) (k4 : PySem.W.keepIn K (.ref f4) = true)
    {f5 : Addr} {od5 an5 : Option Addr} {sl5 : Array (Option Value)} {oc5 kV5 dc5 pm5 cd5 ct5 : Value}
    (a5 : PySem.W.nsIn K mainGlobals "_law_shift" = some (some (.ref f5))) (l5 : K.lookup f5 = some ⟨oc5, od5, .func (PySem.W.fnOf "_law_shift" "_law_shift" (defArgs s__law_shift) (defBody s__law_shift) (defScope s__law_shift) .none kV5 dc5 pm5 an5 cd5 ct5), sl5⟩) (c5 : PySem.W.codeIn K cd5 "_law_shift" = true) (k5 : PySem.W.keepIn K (.ref f5) = true)
    {f6 : Addr} {od6 an6 : Option Addr} {sl6 : Array (Option Value)} {oc6 kV6 dc6 pm6 cd6 ct6 : Value}
    (a6 : PySem.W.nsIn K mainGlobals "_law_some_seen" = some (some (.ref f6))) (l6 : K.lookup f6 = some ⟨oc6, od6, .func (PySem.W.fnOf "_law_some_seen" "_law_some_seen" (defArgs s__law_some_seen) (defBody s__law_some_seen) (defScope s__law_some_seen) .none kV6 dc6 pm6 an6 cd6 ct6), sl6⟩) (c6 : PySem.W.codeIn K cd6 "_law_some_seen" = true) (k6 : PySem.W.keepIn K (.ref f6) = true)
    {f7 : Addr} {od7 an7 : Option Addr} {sl7 : Array (Option Value)} {oc7 kV7 dc7 pm7 cd7 ct7 : Value}
    (a7 : PySem.W.nsIn K mainGlobals "seen_at" = some (some (.ref f7))) (l7 : K.lookup f7 = some ⟨oc7, od7, .func (PySem.W.fnOf "seen_at" "seen_at" (defArgs s_seen_at) (defBody s_seen_at) (defScope s_seen_at) .none kV7 dc7 pm7 an7 cd7 ct7), sl7⟩) (c7 : PySem.W.codeIn K cd7 "seen_at" = true) (k7 : PySem.W.keepIn K (.ref f7) = true)
    {f8 : Addr} {od8 an8 : Option Addr} {sl8 : Array (Option Value)} {oc8 kV8 dc8 pm8 cd8 ct8 : Value}
    (a8 : PySem.W.nsIn K mainGlobals "pairs_of" = some (some (.ref f8))) (l8 : K.lookup f8 = some ⟨oc8, od8, .func (PySem.W.fnOf "pairs_of" "pairs_of" (defArgs s_pairs_of) (defBody s_pairs_of) (defScope s_pairs_of) .none kV8 dc8 pm8 an8 cd8 ct8), sl8⟩) (c8 : PySem.W.codeIn K cd8 "pairs_of" = true) (k8 : PySem.W.keepIn K (.ref f8) = true)
    {f9 : Addr} {od9 an9 : Option Addr} {sl9 : Array (Option Value)} {oc9 kV9 dc9 pm9 cd9 ct9 : Value}
    (a9 : PySem.W.nsIn K mainGlobals "turn_that_fits" = some (some (.ref f9))) (l9 : K.lookup f9 = some ⟨oc9, od9, .func (PySem.W.fnOf "turn_that_fits" "turn_that_fits" (defArgs s_turn_that_fits) (defBody s_turn_that_fits) (defScope s_turn_that_fits) .none kV9 dc9 pm9 an9 cd9 ct9), sl9⟩) (c9 : PySem.W.codeIn K cd9 "turn_that_fits" = true) (k9 : PySem.W.keepIn K (.ref f9) = true)
    {f10 : Addr} {od10 an10 : Option Addr} {sl10 : Array (Option Value)} {oc10 dc10 pm10 cd10 ct10 : Value}
    {D10 : Addr} {t10_most : Tok} (d10_most : PySem.W.nsIn K D10 "most" = some (some (.int 12 t10_most)))
    (a10 : PySem.W.nsIn K mainGlobals "fits" = some (some (.ref f10))) (l10 : K.lookup f10 = some ⟨oc10, od10, .func (PySem.W.fnOf "fits" "fits" (defArgs s_fits) (defBody s_fits) (defScope s_fits) .none (.ref D10) dc10 pm10 an10 cd10 ct10), sl10⟩) (c10 : PySem.W.codeIn K cd10 "fits" = true) (k10 : PySem.W.keepIn K (.ref f10) = true)
    {f11 : Addr} {od11 an11 : Option Addr} {sl11 : Array (Option Value)} {oc11 kV11 dc11 pm11 cd11 ct11 : Value}
    (a11 : PySem.W.nsIn K mainGlobals "law" = some (some (.ref f11))) (l11 : K.lookup f11 = some ⟨oc11, od11, .func (PySem.W.fnOf "law" "law" (defArgs s_law) (defBody s_law) (defScope s_law) .none kV11 dc11 pm11 an11 cd11 ct11), sl11⟩) (c11 : PySem.W.codeIn K cd11 "law" = true) (k11 : PySem.W.keepIn K (.ref f11) = true)
    (z_enumerate : PySem.W.nsIn K mainGlobals "enumerate" = some none)
    (z_len : PySem.W.nsIn K mainGlobals "len" = some none)
    (z_list : PySem.W.nsIn K mainGlobals "list" = some none)
    (z_max : PySem.W.nsIn K mainGlobals "max" = some none)
    (z_range : PySem.W.nsIn K mainGlobals "range" = some none)
    (z_repr : PySem.W.nsIn K mainGlobals "repr" = some none)
    (z_set : PySem.W.nsIn K mainGlobals "set" = some none)
    (z_sorted : PySem.W.nsIn K mainGlobals "sorted" = some none)
    (z_tuple : PySem.W.nsIn K mainGlobals "tuple" = some none)
    {t_MOST_AGO : Tok} (z_MOST_AGO : PySem.W.nsIn K mainGlobals "MOST_AGO" = some (some (.int 12 t_MOST_AGO)))
    {t_MOST_PAST : Tok} (z_MOST_PAST : PySem.W.nsIn K mainGlobals "MOST_PAST" = some (some (.int 12 t_MOST_PAST)))
    : ∃ fd : FuncData, (∀ (s : Shared) (v : Value), BindsTo s fd ⟨[v], []⟩ [("script", v)]) ∧ ∀ base : Heap, K.In base → base.Ns mainGlobals mg → FnG l.prog w K mg base 4 fa fd ["script"] (spA K mg sp_law) := by
  have e := hfa.symm.trans (PySem.W.mg_of X G a11)
  cases e
  have gl : Globs K mg := ⟨PySem.W.mg_none_of X G z_enumerate, PySem.W.mg_none_of X G z_len, PySem.W.mg_none_of X G z_list, PySem.W.mg_none_of X G z_max, PySem.W.mg_none_of X G z_range, PySem.W.mg_none_of X G z_repr, PySem.W.mg_none_of X G z_set, PySem.W.mg_none_of X G z_sorted, PySem.W.mg_none_of X G z_tuple, ⟨_, PySem.W.mg_of X G z_MOST_AGO⟩, ⟨_, PySem.W.mg_of X G z_MOST_PAST⟩⟩
  have F__law_draw := fun_mk (st := s__law_draw) l0 c0 k0
  have F__law_did := fun_mk (st := s__law_did) l1 c1 k1
  have F__law_turn_due := fun_mk (st := s__law_turn_due) l2 c2 k2
  have F__law_due_now := fun_mk (st := s__law_due_now) l3 c3 k3
  have F__law_hoard_of := fun_mk (st := s__law_hoard_of) l4 c4 k4
  have F__law_shift := fun_mk (st := s__law_shift) l5 c5 k5
  have F__law_some_seen := fun_mk (st := s__law_some_seen) l6 c6 k6
  have F_seen_at := fun_mk (st := s_seen_at) l7 c7 k7
  have F_pairs_of := fun_mk (st := s_pairs_of) l8 c8 k8
  have F_turn_that_fits := fun_mk (st := s_turn_that_fits) l9 c9 k9
  have F_fits : FunD K "fits" "fits" (defArgs s_fits) (defBody s_fits) (defScope s_fits) [] [("most", .int 12)] f10 _ := ⟨⟨_, _, _, _, _, _, _, _, _, _, rfl, l10, c10, .inl ⟨rfl, rfl⟩, .inr ⟨D10, rfl, fun q hq => by obtain rfl := List.mem_singleton.mp hq; exact ⟨_, d10_most, ⟨_, rfl⟩⟩⟩⟩, k10⟩
  have F_law := fun_mk (st := s_law) l11 c11 k11
  refine ⟨PySem.W.fnOf "law" "law" (defArgs s_law) (defBody s_law) (defScope s_law) .none kV11 dc11 pm11 an11 cd11 ct11, fun s v => .of_eq rfl, fun base _ _ => ?_⟩
  have C__law_draw : Callee l.prog w K mg base "_law_draw" 1 ["hoard", "many"] sp__law_draw := ⟨_, _, fg__law_draw gl F__law_draw , PySem.W.mg_of X G a0, F__law_draw.kp, F__law_draw.binds (ps := ["hoard", "many"]) fun _ _ _ _ _ _ us hl => match us, hl with | [_, _], _ => rfl⟩
  have C__law_did : Callee l.prog w K mg base "_law_did" 1 ["seen", "hand", "beat"] sp__law_did := ⟨_, _, fg__law_did gl F__law_did , PySem.W.mg_of X G a1, F__law_did.kp, F__law_did.binds (ps := ["seen", "hand", "beat"]) fun _ _ _ _ _ _ us hl => match us, hl with | [_, _, _], _ => rfl⟩
  have C__law_turn_due : Callee l.prog w K mg base "_law_turn_due" 2 ["seen", "hand", "other", "ago"] sp__law_turn_due := ⟨_, _, fg__law_turn_due gl F__law_turn_due C__law_did, PySem.W.mg_of X G a2, F__law_turn_due.kp, F__law_turn_due.binds (ps := ["seen", "hand", "other", "ago"]) fun _ _ _ _ _ _ us hl => match us, hl with | [_, _, _, _], _ => rfl⟩
  have C__law_due_now : Callee l.prog w K mg base "_law_due_now" 3 ["seen", "hand", "reach"] sp__law_due_now := ⟨_, _, fg__law_due_now gl F__law_due_now C__law_turn_due, PySem.W.mg_of X G a3, F__law_due_now.kp, F__law_due_now.binds (ps := ["seen", "hand", "reach"]) fun _ _ _ _ _ _ us hl => match us, hl with | [_, _, _], _ => rfl⟩
  have C__law_hoard_of : Callee l.prog w K mg base "_law_hoard_of" 1 ["cell", "nth"] sp__law_hoard_of := ⟨_, _, fg__law_hoard_of gl F__law_hoard_of , PySem.W.mg_of X G a4, F__law_hoard_of.kp, F__law_hoard_of.binds (ps := ["cell", "nth"]) fun _ _ _ _ _ _ us hl => match us, hl with | [_, _], _ => rfl⟩
  have C__law_shift : Callee l.prog w K mg base "_law_shift" 2 ["hoard", "many"] sp__law_shift := ⟨_, _, fg__law_shift gl F__law_shift C__law_draw, PySem.W.mg_of X G a5, F__law_shift.kp, F__law_shift.binds (ps := ["hoard", "many"]) fun _ _ _ _ _ _ us hl => match us, hl with | [_, _], _ => rfl⟩
  have C__law_some_seen : Callee l.prog w K mg base "_law_some_seen" 3 ["hoard", "long"] sp__law_some_seen := ⟨_, _, fg__law_some_seen gl F__law_some_seen C__law_draw C__law_shift, PySem.W.mg_of X G a6, F__law_some_seen.kp, F__law_some_seen.binds (ps := ["hoard", "long"]) fun _ _ _ _ _ _ us hl => match us, hl with | [_, _], _ => rfl⟩
  have C_seen_at : Callee l.prog w K mg base "seen_at" 1 ["seen", "hand", "beat"] sp_seen_at := ⟨_, _, fg_seen_at gl F_seen_at , PySem.W.mg_of X G a7, F_seen_at.kp, F_seen_at.binds (ps := ["seen", "hand", "beat"]) fun _ _ _ _ _ _ us hl => match us, hl with | [_, _, _], _ => rfl⟩
  have C_pairs_of : Callee l.prog w K mg base "pairs_of" 2 ["seen", "hand", "other", "ago"] sp_pairs_of := ⟨_, _, fg_pairs_of gl F_pairs_of C_seen_at, PySem.W.mg_of X G a8, F_pairs_of.kp, F_pairs_of.binds (ps := ["seen", "hand", "other", "ago"]) fun _ _ _ _ _ _ us hl => match us, hl with | [_, _, _, _], _ => rfl⟩
  have C_turn_that_fits : Callee l.prog w K mg base "turn_that_fits" 1 ["many", "pairs"] sp_turn_that_fits := ⟨_, _, fg_turn_that_fits gl F_turn_that_fits , PySem.W.mg_of X G a9, F_turn_that_fits.kp, F_turn_that_fits.binds (ps := ["many", "pairs"]) fun _ _ _ _ _ _ us hl => match us, hl with | [_, _], _ => rfl⟩
  have D_fits : DCallee l.prog w K mg base "fits" 3 ["seen", "hand", "most"] [.int 12] sp_fits := by
    obtain ⟨ds, rd, hb⟩ := F_fits.binds0 (ps := ["seen", "hand", "most"]) 2 (by simp) rfl fun D doc pm an cdv ct us ks hu hk => match us, ks, hu, hk with | [_, _], [_], _, _ => ⟨_, _, _, _, _, _, rfl, rfl, rfl⟩
    exact ⟨_, _, ds, _, fg_fits gl F_fits C_pairs_of C_turn_that_fits, PySem.W.mg_of X G a10, F_fits.kp, hb, rd, fun S => .cons (by simp [RelT]) .nil⟩
  have K_fits : KCallee l.prog w K mg base "fits" 3 ["seen", "hand", "most"] 2 ["most"] sp_fits := ⟨_, _, fg_fits gl F_fits C_pairs_of C_turn_that_fits, PySem.W.mg_of X G a10, F_fits.kp, F_fits.kbn fun _ _ _ _ _ _ us ws hu hw => match us, ws, hu, hw with | [_, _], [_], _, _ => rfl⟩
  exact fg_law gl F_law C__law_draw C__law_due_now C__law_hoard_of C__law_some_seen D_fits K_fits
end TL
open PySem PySem.W PyProof.Rows
set_option maxHeartbeats 0 in
theorem PySem.Challenge.cw_agohands_k62_copies_that_fit_holds : PySem.Challenge.rw_agohands_k62_copies_that_fit.Holds := by
  w_on; o_law; k_head; (case hw => w_witness2)
  k_fill
  refine TL.walk_tl (l := PySem.Challenge.rw_agohands_k62_copies_that_fit) (n := 63) (k := 4) (x := "script") (sp := TL.sp_law) rfl (by decide) rfl ⟨rfl, by decide, by decide⟩ (fun w h Y => PySem.W.kIn_of Y) TL.truth ?F
  case F =>
    intro w mg fa h KX G hmg
    refine' TL.all_mk KX G hmg ?a0 ?l0 ?c0 ?k0 ?a1 ?l1 ?c1 ?k1 ?a2 ?l2 ?c2 ?k2 ?a3 ?l3 ?c3 ?k3 ?a4 ?l4 ?c4 ?k4 ?a5 ?l5 ?c5 ?k5 ?a6 ?l6 ?c6 ?k6 ?a7 ?l7 ?c7 ?k7 ?a8 ?l8 ?c8 ?k8 ?a9 ?l9 ?c9 ?k9 ?d10_most ?a10 ?l10 ?c10 ?k10 ?a11 ?l11 ?c11 ?k11 ?z_enumerate ?z_len ?z_list ?z_max ?z_range ?z_repr ?z_set ?z_sorted ?z_tuple ?z_MOST_AGO ?z_MOST_PAST
    (case a0 => k_is); (case l0 => k_is); (case c0 => k_is); (case k0 => k_is); (case a1 => k_is); (case l1 => k_is); (case c1 => k_is); (case k1 => k_is); (case a2 => k_is); (case l2 => k_is); (case c2 => k_is); (case k2 => k_is); (case a3 => k_is); (case l3 => k_is); (case c3 => k_is); (case k3 => k_is); (case a4 => k_is); (case l4 => k_is); (case c4 => k_is); (case k4 => k_is); (case a5 => k_is); (case l5 => k_is); (case c5 => k_is); (case k5 => k_is); (case a6 => k_is); (case l6 => k_is); (case c6 => k_is); (case k6 => k_is); (case a7 => k_is); (case l7 => k_is); (case c7 => k_is); (case k7 => k_is); (case a8 => k_is); (case l8 => k_is); (case c8 => k_is); (case k8 => k_is); (case a9 => k_is); (case l9 => k_is); (case c9 => k_is); (case k9 => k_is); (case a10 => k_is); (case l10 => k_is); (case c10 => k_is); (case k10 => k_is); (case a11 => k_is); (case l11 => k_is); (case c11 => k_is); (case k11 => k_is); (case d10_most => k_is); (case z_enumerate => k_is); (case z_len => k_is); (case z_list => k_is); (case z_max => k_is); (case z_range => k_is); (case z_repr => k_is); (case z_set => k_is); (case z_sorted => k_is); (case z_tuple => k_is); (case z_MOST_AGO => k_is); (case z_MOST_PAST => k_is)
