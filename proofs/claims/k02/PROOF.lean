import PyProof.Rows.All
import Wide.All
import OpenK.AllK
import Wide.FinOn
import KE.KStateDown
import KE.KExcInit
import HandS.ForMost
import HandS.ForExc
import HandS.Defaults
import HandS.More
import HandS.Conv
import HandS.IsInst
import HandS.DictComp
import HandS.DictEq
import HandS.DeepEq
import HandS.Zip
import HandS.Style
import HandS.Steps
import HandS.FStr
import HandS.ListItems
import HandS.RaiseMore
import HandS.ExcInit
import HandS.ExcField
import HandS.OwnEq
import HandS.SlotsOwn
import HandS.Star
import HandS.MakeKw
import HandS.ClsMeth
import HandS.Property
import HandS.TryMany
import HandS.Lambda
import HandS.EndTab
import HandS.WideBits
import HandS.Wide
import HandS.Codes
import HandS.Small
import PySem.Challenge.RW_skipahead_k02_whole_books_as_values
import PyProof.Rows.ReprR
import PyProof.ReprBulk
import HandS.DictTup
import HandS.SortOrd
import HandS.Walk
import PyProof.TupleOfGen
import HandS.WordsDict
import HandS.HeadWalk
import HandS.Head0
import HandS.Head1
import HandS.Head2
import HandS.HeadEnd
import HandS.HeadHook1
import HandS.HeadHook2
import HandS.HeadHook3
import HandS.HeadHook4
import Lean
section
set_option Elab.async false
set_option linter.all false
set_option maxRecDepth 100000
set_option maxHeartbeats 4000000
/-! The base: the text by places, frames between heaps, a book's data and how the heap bears it. -/
namespace Bk
open PySem PySem.Spec PyProof.Rows L2
/-! ### the text -/
def top (i : Nat) : Stmt := PySem.Challenge.pw_skipahead_k02_whole_books_as_values.main.body.getD i (.Pass ⟨0, 0, 0, 0⟩)
abbrev meth (j : Nat) : Stmt := inClass (top 20) j
/-- a def of the module's top, as K has it -/
abbrev FD (K : PySem.W.Frag) (x q : Str) (st : Stmt) (f : Addr) (fd : FuncData) : Prop := FunD K x q (defArgs st) (defBody st) (defScope st) [] [] f fd

/-! ### heaps -/
/-- all tuples stay -/
def Tps (H H' : Hp) : Prop := ∀ b xs, H b = some (.tup xs) → H' b = some (.tup xs)
/-- all but p stays -/
def But (p : Addr) (H H' : Hp) : Prop := ∀ b o, H b = some o → b ≠ p → H' b = some o
theorem _root_.L2.Same.tps {H H' : Hp} (s : Same H H') : Tps H H' := fun b xs h => s b _ h
theorem _root_.L2.Same.but {H H' : Hp} {p : Addr} (s : Same H H') : But p H H' := fun b o h _ => s b o h
theorem _root_.L2.Same.new {H : Hp} {p : Addr} {o : HO} (h : H p = none) : Same H (upd H p o) := fun b u e => by
  rw [upd_ne (ne_of_none e h)]
  exact e
theorem _root_.L2.Same.put {H H1 : Hp} {p : Addr} {o : HO} (s : Same H H1) (h : H1 p = none) : Same H (upd H1 p o) := s.trans (Same.new h)
/-- a new object of ours is changed -/
theorem _root_.L2.Same.chg {H H1 : Hp} {p : Addr} {o : HO} (s : Same H H1) (h : H p = none) : Same H (upd H1 p o) := fun b u e => by
  rw [upd_ne (ne_of_none e h)]
  exact s b u e
theorem But.refl (p : Addr) (H : Hp) : But p H H := fun _ _ h _ => h
theorem But.trans {p : Addr} {H H1 H2 : Hp} (a : But p H H1) (b : But p H1 H2) : But p H H2 := fun c o h n => b c o (a c o h n) n
theorem But.put {p q : Addr} {H H1 : Hp} {o : HO} (s : But p H H1) (h : H1 q = none) : But p H (upd H1 q o) := s.trans (Same.new h).but
theorem But.own {p : Addr} {H H1 : Hp} {o : HO} (s : But p H H1) : But p H (upd H1 p o) := fun b u e n => by
  rw [upd_ne n]
  exact s b u e n
theorem But.chg {p q : Addr} {H H1 : Hp} {o : HO} (s : But p H H1) (h : H q = none) : But p H (upd H1 q o) := fun b u e n => by
  rw [upd_ne (ne_of_none e h)]
  exact s b u e n
theorem But.free {p q : Addr} {H H1 : Hp} (s : But p H H1) (h : H1 q = none) (n : q ≠ p) : H q = none := by
  cases e : H q with
  | none => rfl
  | some o =>
    rw [s q o e n] at h
    cases h
theorem But.tps {p : Addr} {H H1 : Hp} {xs : List V} (s : But p H H1) (h : H p = some (.lst xs)) : Tps H H1 := fun b ys e => s b _ e fun z => by
  rw [z, h] at e
  cases e
theorem Tps.trans {H H1 H2 : Hp} (a : Tps H H1) (b : Tps H1 H2) : Tps H H2 := fun c xs h => b c xs (a c xs h)

/-! ### a book's data -/
/-- a command's pair: how many arguments, the answers -/
abbrev Pr := Int × List Str
/-- commands with their pairs -/
abbrev Bd := List (Str × Pr)
def lts (a b : Str) : Prop := a.cps.toList < b.cps.toList
/-- one of the small letters -/
def isLet (c : Nat) : Bool := decide (97 ≤ c) && decide (c ≤ 122)
def nameB (x : Str) : Bool := decide (1 ≤ x.length) && (decide (x.length ≤ 8) && x.cps.toList.all isLet)
def resv : List Str := ["failed", "kept", "skipped", "undone"]
/-- a name that is not reserved -/
structure Ans (x : Str) : Prop where
  nm : nameB x = true
  nr : x ∉ resv
def Asc (xs : List Str) : Prop := xs.Pairwise lts
structure PrOk (p : Pr) : Prop where
  t0 : 0 ≤ p.1
  t2 : p.1 ≤ 2
  l1 : 1 ≤ p.2.length
  l3 : p.2.length ≤ 3
  an : ∀ x ∈ p.2, Ans x
  asc : Asc p.2
abbrev keys (bd : Bd) : List Str := bd.map (·.1)
structure BdOk (bd : Bd) : Prop where
  l1 : 1 ≤ bd.length
  l6 : bd.length ≤ 6
  ok : ∀ e ∈ bd, Ans e.1 ∧ PrOk e.2
  nd : (keys bd).Nodup
/-- the heap bears a pair at v -/
def PrAt (H : Hp) (v : V) (p : Pr) : Prop := ∃ a b, v = .ref a ∧ H a = some (.tup [.int p.1, .ref b]) ∧ H b = some (.tup (p.2.map V.str))
theorem PrAt.tps {H H' : Hp} {v : V} {p : Pr} (h : PrAt H v p) (t : Tps H H') : PrAt H' v p := by
  obtain ⟨a, b, e, h1, h2⟩ := h
  exact ⟨a, b, e, t _ _ h1, t _ _ h2⟩
abbrev KvR (H : Hp) (kv : Key × V) (e : Str × Pr) : Prop := kv.1 = Sum.inr e.1 ∧ PrAt H kv.2 e.2
abbrev KvAt (H : Hp) (kvs : List (Key × V)) (bd : Bd) : Prop := Paired (KvR H) kvs bd
theorem KvAt.tps {H H' : Hp} {kvs : List (Key × V)} {bd : Bd} (h : KvAt H kvs bd) (t : Tps H H') : KvAt H' kvs bd := Paired.mapP h fun _ _ r => ⟨r.1, r.2.tps t⟩
/-- a dict of these commands stands at d -/
def DictAt (H : Hp) (d : Addr) (bd : Bd) : Prop := ∃ kvs, H d = some (.dK kvs) ∧ KvAt H kvs bd
theorem DictAt.same {H H' : Hp} {d : Addr} {bd : Bd} (h : DictAt H d bd) (s : Same H H') : DictAt H' d bd := by
  obtain ⟨kvs, h1, h2⟩ := h
  exact ⟨kvs, s _ _ h1, h2.tps s.tps⟩
theorem DictAt.but {H H' : Hp} {d p : Addr} {bd : Bd} {xs : List V} (h : DictAt H d bd) (s : But p H H') (hp : H p = some (.lst xs)) : DictAt H' d bd := by
  obtain ⟨kvs, h1, h2⟩ := h
  exact ⟨kvs, s _ _ h1 (fun z => by rw [z, hp] at h1; cases h1), h2.tps (s.tps hp)⟩
def oF : Str := "own_pairs"
/-- a book of these commands stands at b -/
def BookAt (C : Addr) (H : Hp) (b : Addr) (bd : Bd) : Prop := ∃ dx d, H b = some (.ins C dx [(oF, .ref d)]) ∧ DictAt H d bd
theorem BookAt.same {C : Addr} {H H' : Hp} {b : Addr} {bd : Bd} (h : BookAt C H b bd) (s : Same H H') : BookAt C H' b bd := by
  obtain ⟨dx, d, h1, h2⟩ := h
  exact ⟨dx, d, s _ _ h1, h2.same s⟩
theorem BookAt.but {C : Addr} {H H' : Hp} {b p : Addr} {bd : Bd} {xs : List V} (h : BookAt C H b bd) (s : But p H H') (hp : H p = some (.lst xs)) : BookAt C H' b bd := by
  obtain ⟨dx, d, h1, h2⟩ := h
  exact ⟨dx, d, s _ _ h1 (fun z => by rw [z, hp] at h1; cases h1), h2.but s hp⟩
/-- the dice: three ints, the first two bounded -/
def DiceAt (H : Hp) (p : Addr) : Prop := ∃ x y z : Int, H p = some (.lst [.int x, .int y, .int z]) ∧ 0 ≤ x ∧ x < 2 ^ 4000 ∧ 0 ≤ y ∧ y < 2 ^ 62 ∧ 0 ≤ z
theorem DiceAt.same {H H' : Hp} {p : Addr} (h : DiceAt H p) (s : Same H H') : DiceAt H' p := by
  obtain ⟨x, y, z, h1, h2⟩ := h
  exact ⟨x, y, z, s _ _ h1, h2⟩

/-! ### look-up in a book's data -/
theorem KvAt.length {H : Hp} {kvs : List (Key × V)} {bd : Bd} (h : KvAt H kvs bd) : kvs.length = bd.length := Paired.length h
theorem valV_cons (k k' : Key) (v : V) (kvs : List (Key × V)) : valV ((k', v) :: kvs) k = if k' = k then some v else valV kvs k := by
  unfold valV
  by_cases h : k' = k
  · rw [List.find?_cons_of_pos (by simpa using h), if_pos h] <;> rfl
  · rw [List.find?_cons_of_neg (by simpa using h), if_neg h]
theorem valV_nil (k : Key) : valV [] k = none := rfl
theorem lookup_cons' (x y : Str) (p : Pr) (bd : Bd) : List.lookup x ((y, p) :: bd) = if y = x then some p else List.lookup x bd := by
  by_cases h : y = x
  · subst h
    rw [if_pos rfl, List.lookup_cons_self]
  · rw [if_neg h, List.lookup_cons, show (x == y) = false from by simpa using fun e : x = y => h e.symm]
/-- what a key's look-up gives -/
theorem KvAt.look {H : Hp} (x : Str) : ∀ {kvs : List (Key × V)} {bd : Bd}, KvAt H kvs bd →
    (∃ v p, valV kvs (Sum.inr x) = some v ∧ bd.lookup x = some p ∧ PrAt H v p) ∨ (valV kvs (Sum.inr x) = none ∧ bd.lookup x = none)
  | _, _, .nil => .inr ⟨rfl, rfl⟩
  | (k, v) :: kvs, (y, p) :: bd, .cons r t => by
    obtain ⟨rk, rp⟩ := r
    have rk : k = Sum.inr y := rk
    subst rk
    rw [valV_cons, lookup_cons']
    by_cases h : y = x
    · subst h
      rw [if_pos rfl, if_pos rfl]
      exact .inl ⟨v, p, rfl, rfl, rp⟩
    · rw [if_neg (fun e => h (Sum.inr.inj e)), if_neg h]
      exact KvAt.look x t
theorem mem_of_lookup' {x : Str} {p : Pr} : ∀ {bd : Bd}, bd.lookup x = some p → (x, p) ∈ bd
  | (y, q) :: bd, h => by
    rw [lookup_cons'] at h
    by_cases e : y = x
    · rw [if_pos e] at h
      cases h
      rw [e]
      exact List.mem_cons_self
    · rw [if_neg e] at h
      exact List.mem_cons_of_mem _ (mem_of_lookup' h)
theorem lookup_of_mem' {x : Str} {p : Pr} : ∀ {bd : Bd}, (keys bd).Nodup → (x, p) ∈ bd → bd.lookup x = some p
  | (y, q) :: bd, nd, h => by
    rw [lookup_cons']
    obtain ⟨n1, n2⟩ := List.nodup_cons.mp (show (y :: keys bd).Nodup from nd)
    rcases List.mem_cons.mp h with e | e
    · cases e
      rw [if_pos rfl]
    · have ne : y ≠ x := fun z => n1 (by rw [z]; exact List.mem_map.mpr ⟨_, e, rfl⟩)
      rw [if_neg ne]
      exact lookup_of_mem' n2 e
theorem lookup_isSome_mem {x : Str} : ∀ {bd : Bd}, (bd.lookup x).isSome = true ↔ x ∈ keys bd
  | [] => by simp
  | (y, q) :: bd => by
    rw [lookup_cons']
    by_cases e : y = x
    · subst e
      simp
    · rw [if_neg e, lookup_isSome_mem]
      simp [Ne.symm e]
end Bk
end
section
set_option Elab.async false
set_option linter.all false
set_option maxRecDepth 100000
set_option maxHeartbeats 4000000
/-! Dicts merged into a dict; `**d` in a display and in a call. -/
namespace Bk
open PySem PySem.Spec PyProof.Rows L2
section
variable {prog : Program} {w : World} {K : Type} [DecidableEq K] {knd : KeyKind prog w K} {A : Around} {E : Value → Shared → Prop} {s : Shared}
theorem dput_pairs {d : Addr} {kvs : List (K × Value)} {k : K} {key v : Value} {Q : Unit → Shared → Prop} (hkey : knd.is k key = true) (hm : s.heap.DictOf knd d kvs)
    (hQ : ∀ h', h'.DictOf knd d (stored kvs k v) → Heap.SameBut d s.heap h' → Q () { s with heap := h' }) (hsz : kvs.length ≤ sizeLine) :
    wpAny (model prog w) A (dictPut d (knd.hash k) key v) Q E s := by
  obtain ⟨o, es, ep, ho, hc, hd, hk, hp, hn⟩ := hm
  have hes : es.size ≤ sizeLine := by
    have e1 := hp.length
    rw [Array.length_toList] at e1
    omega
  have hidx : (es.findIdx? fun e => knd.is k e.key) = kvs.findIdx? fun kv => decide (kv.1 = k) := by
    rw [← hp.findIdx k]
    obtain ⟨l⟩ := es
    simp
  unfold dictPut
  refine wpAny_bind (wpAny_dictFind_of hkey ho hd hk ?_)
  cases hi : es.findIdx? fun e => knd.is k e.key with
  | some i =>
    have hany := any_of_findIdx_some (hidx ▸ hi)
    refine wpAny_updateDict ho hd (hQ _ ⟨_, _, ep, Heap.get?_update_self _ ho (Obj.isFreed_of_dict (Obj.data_mapDict hd _)), hc.mapDict _, Obj.data_mapDict hd _, hk.modify _ _, ?_, ?_⟩ (Heap.SameBut.update ..))
    · rw [stored, if_pos hany]
      have hl : (es.toList.findIdx? fun e => knd.is k e.key) = some i := by
        rw [← hi]
        obtain ⟨l⟩ := es
        simp
      have z := hp.modify hn hl v
      obtain ⟨l⟩ := es
      simpa using z
    · rw [stored, if_pos hany, keys_map_store]
      exact hn
  | none =>
    have hnot : k ∉ kvs.map (·.1) := not_mem_of_findIdx_none (hidx ▸ hi)
    have hany : ¬ (kvs.any fun kv => decide (kv.1 = k)) = true := fun z => by
      obtain ⟨kv, h1, h2⟩ := List.any_eq_true.mp z
      exact hnot (List.mem_map.mpr ⟨kv, h1, of_decide_eq_true h2⟩)
    refine wpAny_updateDictKeys (hz := hes) ho hd (hQ _ ⟨_, _, ep + 1, Heap.get?_update_self _ ho (Obj.isFreed_of_dict (Obj.data_mapDictKeys hd _)), hc.mapDictKeys _, Obj.data_mapDictKeys hd _, hk.push hkey _, ?_, ?_⟩ (Heap.SameBut.update ..))
    · rw [stored, if_neg hany]
      have z := hp.append hkey (knd.hash k) v
      obtain ⟨l⟩ := es
      simpa using z
    · rw [stored, if_neg hany, List.map_append, List.nodup_append]
      refine ⟨hn, by simp, fun a ha b hb => ?_⟩
      simp only [List.map_cons, List.map_nil, List.mem_singleton] at hb
      subst hb
      exact fun e => hnot (e ▸ ha)
theorem merge_map {d a : Addr} {kd ka : List (K × Value)} {Q : Unit → Shared → Prop} (hs : (a == sysModules) = false) (hne : d ≠ a) (dd : s.heap.DictOf knd d kd) (da : s.heap.DictOf knd a ka) (u : Bool)
    (hk : ∀ k v, knd.is k v = true → ∀ b, v ≠ .ref b) (hQ : ∀ h', h'.DictOf knd d (merged kd ka) → Heap.SameBut d s.heap h' → Q () { s with heap := h' }) (hsz : kd.length + ka.length ≤ sizeLine)
    (hu : u = true → kd = []) : wpAny (model prog w) A (mergeMapping d (.ref a) u) Q E s := by
  obtain ⟨od, esd, epd, hod, hcd, hdd, hkd, hpd, hnd⟩ := id dd
  obtain ⟨oa, esa, epa, hoa, hca, hda, hka, hpa, hna⟩ := id da
  have hlen : ka.length = esa.size := by
    rw [← hpa.length, Array.length_toList]
  unfold mergeMapping
  refine wpAny_bind (wpAny_isInstance (T := "dict") da.typeIs PySem.F.sub_dict_dict ?_)
  dsimp only
  rw [if_pos rfl]
  refine wpAny_bind (wpAny_specialOf da.typeIs F.slot_dict_iter.lookup (wpAny_bind (wpAny_pure ?_)))
  rw [show ((some (Value.builtin "dict.__iter__") : Option Value) == some (Value.builtin "dict.__iter__")) = true from by decide]
  dsimp only
  rw [if_neg (by rw [hs]; exact Bool.false_ne_true)]
  refine wpAny_bind (wpAny_dictEntries hod hdd ?_)
  have loop : wpAny (model prog w) A (do
      let l ← dictEntries a
      let epoch ← dictEpoch a
      forIn (List.range l.size) PUnit.unit fun i (_ : PUnit) => (do
        let l' ← dictEntries a
        match l'[i]? with
          | some e => do
            holding [e.key, e.val] (have jp := fun (_ : PUnit) => dictPut d e.hash e.key e.val
              if u = true then do
                let r ← dictFind d e.key e.hash
                if r.isSome = true then do
                  rule "dict.merge.duplicate-key"
                  let x ← newExc (Value.type "KeyError") [e.key]
                  let y ← raiseNew x
                  jp y
                else jp ()
              else jp ())
            let ep' ← dictEpoch a
            if (ep' != epoch) = true then do
              (unsupported "dict.changed-during-merge" : Sem PUnit)
              pure (ForInStep.yield PUnit.unit)
            else pure (ForInStep.yield PUnit.unit)
          | _ => do
            (unsupported "dict.changed-during-merge" : Sem PUnit)
            pure (ForInStep.yield PUnit.unit) : Sem (ForInStep PUnit))
      pure ()) Q E s := by
    refine wpAny_bind (wpAny_dictEntries hoa hda ?_)
    refine wpAny_bind (wpAny_dictEpoch hoa hda ?_)
    refine wpAny_bind ?_
    rw [List.range_eq_range']
    refine wpAny_forIn_list _
      (fun rest _ s' => ∃ h' i, s' = { s with heap := h' } ∧ rest = List.range' i (esa.size - i) ∧ i ≤ esa.size ∧ h'.DictOf knd d (merged kd (ka.take i)) ∧ h'.get? a = some oa ∧ Heap.SameBut d s.heap h')
      _ ?_ ?_ _ _ ⟨s.heap, 0, rfl, by simp, Nat.zero_le _, by simpa [merged] using dd, hoa, Heap.SameBut.refl _ _⟩
    · rintro x rest b s' ⟨h', i, rfl, hr, hi, hd', hoa', hs'⟩
      have hlt : i < esa.size := by
        rcases Nat.lt_or_ge i esa.size with h | h
        · exact h
        · rw [Nat.sub_eq_zero_of_le h] at hr
          simp at hr
      obtain ⟨rfl, hrest⟩ : x = i ∧ rest = List.range' (i + 1) (esa.size - (i + 1)) := by
        have e : esa.size - i = (esa.size - (i + 1)) + 1 := by omega
        rw [e, List.range'_succ] at hr
        injection hr with h1 h2
        exact ⟨h1, h2⟩
      refine wpAny_bind (wpAny_dictEntries hoa' hda ?_)
      rw [Array.getElem?_eq_getElem hlt]
      obtain ⟨⟨k, v⟩, hkv⟩ : ∃ kv, ka[x]? = some kv := ⟨ka[x]'(by rw [hlen]; exact hlt), List.getElem?_eq_getElem _⟩
      obtain ⟨hkey, hval⟩ := hpa.get? (e := esa[x]) (by simp [hlt]) hkv
      obtain ⟨k', hkey', hhash⟩ := hka esa[x] (Array.getElem_mem hlt)
      obtain rfl : k' = k := knd.inj _ _ _ hkey' hkey
      have hmx : (merged kd (ka.take x)).length ≤ sizeLine := by
        have e1 := merged_length_le kd (ka.take x)
        have e2 : (ka.take x).length ≤ ka.length := by rw [List.length_take]; omega
        omega
      refine wpAny_bind (wpAny_holding ?_)
      rw [hhash, hval]
      have put : wpAny (model prog w) A (dictPut d (knd.hash k') esa[x].key v) (fun _ s2 => wpAny (model prog w) A (dictEpoch a >>= fun ep' => if (ep' != epa) = true then (do
              (unsupported "dict.changed-during-merge" : Sem PUnit)
              pure (ForInStep.yield PUnit.unit)) else pure (ForInStep.yield PUnit.unit)) (fun r s' => match r with
          | .yield b' => ∃ h' i, s' = { s with heap := h' } ∧ rest = List.range' i (esa.size - i) ∧ i ≤ esa.size ∧ h'.DictOf knd d (merged kd (ka.take i)) ∧ h'.get? a = some oa ∧ Heap.SameBut d s.heap h'
          | .done b' => wpAny (model prog w) A (pure ()) Q E s') E s2) E { s with heap := h' } := by
        refine dput_pairs hkey hd' (fun h'' hd'' hs'' => ?_) hmx
        have hoa'' : h''.get? a = some oa := (hs''.2 a (Ne.symm hne)).trans hoa'
        refine wpAny_bind (wpAny_dictEpoch hoa'' hda ?_)
        rw [if_neg (by simp)]
        exact wpAny_pure ⟨h'', x + 1, rfl, hrest, hlt, by rw [merged_take_succ kd ka x (k', v) hkv]; exact hd'', hoa'', hs'.trans hs''⟩
      cases u with
      | false =>
        dsimp only
        rw [if_neg Bool.false_ne_true]
        exact wpAny_mono put (fun _ s2 h2 => wpAny_mono h2 (fun r s3 h3 => by cases r <;> exact h3) fun _ _ z => z) fun _ _ z => z
      | true =>
        dsimp only
        rw [if_pos rfl]
        obtain ⟨o2, es2, ep2, ho2, hc2, hd2, hk2, hp2, hn2⟩ := id hd'
        refine wpAny_bind (wpAny_dictFind_of hkey ho2 hd2 hk2 ?_)
        have e0 := hu rfl
        have ndT : ((ka.take x).map (·.1)).Nodup := by
          rw [List.map_take]
          exact hna.sublist (List.take_sublist _ _)
        have em : merged kd (ka.take x) = ka.take x := by
          rw [e0]
          exact merged_nil_of_nodup _ ndT
        have hidx : (es2.findIdx? fun e => knd.is k' e.key) = none := by
          have z := hp2.findIdx k'
          have z2 : (es2.findIdx? fun e => knd.is k' e.key) = es2.toList.findIdx? fun e => knd.is k' e.key := by
            obtain ⟨l⟩ := es2
            simp
          rw [z2, z, em]
          refine List.findIdx?_eq_none_iff.mpr fun q hq => ?_
          refine decide_eq_false fun e => ?_
          obtain ⟨j, hj, eq⟩ := List.mem_iff_getElem.mp hq
          rw [List.length_take] at hj
          have hjx : j < x := by omega
          rw [List.getElem_take] at eq
          have h1 : (ka.map (·.1))[j]? = some k' := by
            rw [List.getElem?_map, List.getElem?_eq_getElem (by omega), eq, Option.map_some, e]
          have h2 : (ka.map (·.1))[x]? = some k' := by
            rw [List.getElem?_map, hkv] <;> rfl
          have h3 := (List.getElem?_inj (by rw [List.length_map]; omega) hna).mp (h1.trans h2.symm)
          omega
        rw [hidx]
        rw [if_neg (by simp)]
        exact wpAny_mono put (fun _ s2 h2 => wpAny_mono h2 (fun r s3 h3 => by cases r <;> exact h3) fun _ _ z => z) fun _ _ z => z
    · rintro b s' ⟨h', i, rfl, hr, hi, hd', hoa', hs'⟩
      have hin : i = esa.size := by
        rcases Nat.lt_or_ge i esa.size with h | h
        · have e : esa.size - i = (esa.size - (i + 1)) + 1 := by omega
          rw [e, List.range'_succ] at hr
          exact nomatch hr
        · exact Nat.le_antisymm hi h
      refine wpAny_pure (hQ h' ?_ hs')
      rw [hin, ← hlen, List.take_length] at hd'
      exact hd'
  split
  · refine wpAny_bind (wpAny_dictEntries hoa hda ?_)
    refine wpAny_bind ?_
    rw [← Array.forIn_toList]
    refine wpAny_forIn_list _ (fun rest _ s' => s' = s ∧ ∀ e ∈ rest, ∃ k, knd.is k e.key = true) _ ?_ ?_ _ _ ⟨rfl, fun e he => by
      obtain ⟨k, h1, _⟩ := hka e (Array.mem_toList_iff.mp he)
      exact ⟨k, h1⟩⟩
    · rintro e rest b s' ⟨rfl, hr⟩
      obtain ⟨k, h1⟩ := hr e List.mem_cons_self
      have h2 := hk k _ h1
      split
      · rename_i b' eb
        exact absurd eb (h2 b')
      · exact wpAny_pure ⟨rfl, fun e he => hr e (List.mem_cons_of_mem _ he)⟩
    · rintro b s' ⟨rfl, _⟩
      exact loop
  · exact loop
end
section
variable {prog : Program} {w : World} {A : Around} {E : Value → Shared → Prop} {s : Shared}
theorem mix_noref (k : Key) (v : Value) (h : (mixKind prog w).is k v = true) (b : Addr) : v ≠ .ref b := fun e => by
  subst e
  rcases keyIs_shape (show keyIs k (.ref b) = true from h) with ⟨_, _, _, z⟩ | ⟨_, _, _, z⟩ <;> cases z
theorem mix_is_str (x : Str) (v : Value) : (mixKind prog w).is (Sum.inr x) v = v.isStr x := (mixKind prog w).strs _ x 0 v (mixKind_str prog w x 0)
/-- a name put into a namespace that is a plain dict of texts and ints -/
theorem ns_put {d : Addr} {name : Str} {v : Value} {kvs : List (Key × Value)} {Q : Unit → Shared → Prop} (hm : s.heap.DictOf (mixKind prog w) d kvs)
    (hQ : ∀ h', h'.DictOf (mixKind prog w) d (stored kvs (Sum.inr name) v) → Heap.SameBut d s.heap h' → Q () { s with heap := h', toks := s.toks + 1 }) : wpAny (model prog w) A (nsSet d name v) Q E s := by
  obtain ⟨o, es, ep, ho, hc, hd, hk, hp, hn⟩ := hm
  have hfun : (fun e : DictEntry => e.key.isStr name) = fun e => (mixKind prog w).is (Sum.inr name) e.key := funext fun e => (mix_is_str name e.key).symm
  have hidx : (es.findIdx? fun e => (mixKind prog w).is (Sum.inr name) e.key) = kvs.findIdx? fun kv => decide (kv.1 = Sum.inr name) := by
    rw [← hp.findIdx (Sum.inr name)]
    obtain ⟨l⟩ := es
    simp
  have hany : es.any (·.refKey) = false := by
    rw [Array.any_eq_false']
    intro e he
    obtain ⟨k, h1, _⟩ := hk e he
    rcases keyIs_shape (show keyIs k e.key = true from h1) with ⟨_, _, _, z⟩ | ⟨_, _, _, z⟩ <;> simp [DictEntry.refKey, z]
  unfold nsSet strHash
  refine wpAny_bind (wpAny_bind (wpAny_askSetting (wpAny_pure (wpAny_bind (wpAny_mkText (wpAny_bind (wpAny_loadPart (s := { s with toks := s.toks + 1 }) ho ?_)))))))
  rw [hd]
  dsimp only
  rw [aRefKeyMayBeTheName_at, hany, Bool.and_false]
  rw [if_neg Bool.false_ne_true]
  refine wpAny_updatePart (s := { s with toks := s.toks + 1 }) ho ?_
  obtain ⟨oc, od, dt, sl⟩ := o
  obtain ⟨c1, c2, c3⟩ := hc
  simp only at c1 c2 c3 hd
  subst c1 c2 c3 hd
  cases hi : es.findIdx? (fun e => e.key.isStr name) with
  | some i =>
    have hi2 := hi
    rw [hfun] at hi2
    have hany2 := any_of_findIdx_some (hidx ▸ hi2)
    refine hQ _ ⟨_, _, ep, Heap.get?_update_self _ ho (by simp only [Obj.putName_eq, Obj.putNameByArray, hi]; rfl), (by simp only [Obj.putName_eq, Obj.putNameByArray, hi]; exact ⟨rfl, rfl, rfl⟩), (by simp only [Obj.putName_eq, Obj.putNameByArray, hi] <;> rfl), hk.modify i v, ?_, ?_⟩ (Heap.SameBut.update ..)
    · rw [stored, if_pos hany2]
      have hl : (es.toList.findIdx? fun e => (mixKind prog w).is (Sum.inr name) e.key) = some i := by
        rw [← hi2]
        obtain ⟨l⟩ := es
        simp
      have z := hp.modify hn hl v
      obtain ⟨l⟩ := es
      simpa using z
    · rw [stored, if_pos hany2, keys_map_store]
      exact hn
  | none =>
    have hi2 := hi
    rw [hfun] at hi2
    have hnot : (Sum.inr name : Key) ∉ kvs.map (·.1) := not_mem_of_findIdx_none (hidx ▸ hi2)
    have hany2 : ¬ (kvs.any fun kv => decide (kv.1 = Sum.inr name)) = true := fun z => by
      obtain ⟨kv, h1, h2⟩ := List.any_eq_true.mp z
      exact hnot (List.mem_map.mpr ⟨kv, h1, of_decide_eq_true h2⟩)
    refine hQ _ ⟨_, _, ep + 1, Heap.get?_update_self _ ho (by simp only [Obj.putName_eq, Obj.putNameByArray, hi]; rfl), (by simp only [Obj.putName_eq, Obj.putNameByArray, hi]; exact ⟨rfl, rfl, rfl⟩), (by simp only [Obj.putName_eq, Obj.putNameByArray, hi] <;> rfl),
      hk.push (k := Sum.inr name) (mixKind_str prog w name s.toks) v, ?_, ?_⟩ (Heap.SameBut.update ..)
    · rw [stored, if_neg hany2]
      have z := hp.append (mixKind_str prog w name s.toks) ((mixKind prog w).hash (Sum.inr name)) v
      obtain ⟨l⟩ := es
      simpa using z
    · rw [stored, if_neg hany2, List.map_append, List.nodup_append]
      refine ⟨hn, by simp, fun a ha b hb => ?_⟩
      simp only [List.map_cons, List.map_nil, List.mem_singleton] at hb
      subst hb
      exact fun e => hnot (e ▸ ha)
/-- text keys as keys of a dict -/
abbrev inrs {α : Type} (l : List (Str × α)) : List (Key × α) := l.map fun p => (Sum.inr p.1, p.2)
theorem kws_in {f : Value} {d : Addr} {kvs : List (Str × Value)} {Q : List (Str × Value) → Shared → Prop} (hm : s.heap.DictOf (mixKind prog w) d (inrs kvs)) (h : Q kvs s) : wpAny (model prog w) A (keywordsIn f d) Q E s := by
  obtain ⟨o, es, ep, ho, hc, hd, hk, hp, hn⟩ := hm
  unfold keywordsIn
  refine wpAny_bind (wpAny_dictEntries ho hd ?_)
  dsimp only
  refine wpAny_bind ?_
  rw [← Array.forIn_toList]
  refine wpAny_forIn_list _ (fun rest acc s' => s' = s ∧ ∃ done todo, kvs = done ++ todo ∧ acc = done ∧ Pairs (mixKind prog w) rest (inrs todo)) _ ?_ ?_ _ _ ⟨rfl, [], kvs, rfl, rfl, hp⟩
  · rintro e rest acc s' ⟨rfl, done, todo, e1, e2, e3⟩
    cases todo with
    | nil => cases e3
    | cons q todo =>
      have e3' : Pairs (mixKind prog w) (e :: rest) ((Sum.inr q.1, q.2) :: inrs todo) := e3
      cases e3' with
      | cons k1 k2 k3 =>
        rcases keyIs_shape (show keyIs (Sum.inr q.1) e.key = true from k1) with ⟨i, t, z, _⟩ | ⟨x, t, z, z2⟩
        · cases z
        · cases z
          rw [z2]
          dsimp only
          refine wpAny_pure ⟨rfl, done ++ [q], todo, by rw [e1, List.append_assoc] <;> rfl, ?_, k3⟩
          rw [e2, k2]
  · rintro acc s' ⟨rfl, done, todo, e1, e2, e3⟩
    cases todo with
    | nil =>
      rw [List.append_nil] at e1
      rw [e2, ← e1]
      exact wpAny_pure h
    | cons q todo => cases e3
theorem mkw_one {f : Value} {x : Sem Value} {Q : Addr → Shared → Prop}
    (h : wpAny (model prog w) A x (fun v s1 => ∃ (a : Addr) (ka : List (Key × Value)), v = .ref a ∧ (a == sysModules) = false ∧ s.heap.objs.size ≠ a ∧ s1.heap.DictOf (mixKind prog w) a ka ∧ s1.heap.DictOf (mixKind prog w) s.heap.objs.size [] ∧ ka.length ≤ sizeLine ∧
      ∀ h', h'.DictOf (mixKind prog w) s.heap.objs.size ka → Heap.SameBut s.heap.objs.size s1.heap h' → Q s.heap.objs.size { s1 with heap := h' }) E { s with heap := s.heap.push { cls := .type "dict", data := .dict #[] } }) :
    wpAny (model prog w) A (mergedKeywords f [(none, x)]) Q E s := by
  unfold mergedKeywords
  refine wpAny_bind (wpAny_alloc (wpAny_bind (wpAny_holding ?_)))
  dsimp only
  refine wpAny_bind ?_
  rw [List.forIn_cons]
  refine wpAny_bind ?_
  rw [if_pos (show ([] : List (Str × Sem Value)).isEmpty = true from rfl)]
  refine wpAny_bind (wpAny_pure (wpAny_bind (wpAny_mono h (fun v s1 hv => ?_) fun _ _ z => z)))
  obtain ⟨a, ka, rfl, hs, hne, da, dd, hz, hq⟩ := hv
  refine wpAny_bind (wpAny_onRaise (wpAny_holding (wpAny_tryCatch (wpAny_onRaise (merge_map (kd := []) hs hne dd da true mix_noref (fun h' dd' sb => ?_) (by simpa using hz) fun _ => rfl)))))
  refine wpAny_pure ?_
  dsimp only
  rw [List.forIn_nil]
  refine wpAny_pure ?_
  rw [if_pos (show ([] : List (Str × Sem Value)).isEmpty = true from rfl)]
  refine wpAny_pure (wpAny_pure (hq h' ?_ sb))
  obtain ⟨_, _, _, _, _, _, _, _, hn⟩ := da
  rw [← merged_nil_of_nodup ka hn]
  exact dd'
/-- f(**x): the keywords of a call whose only argument is a dict -/
theorem args_kw {f : Value} {x : Sem Value} {Q : Args → Shared → Prop}
    (h : wpAny (model prog w) A x (fun v s1 => ∃ (a : Addr) (kvs : List (Str × Value)), v = .ref a ∧ (a == sysModules) = false ∧ s.heap.objs.size ≠ a ∧ s1.heap.DictOf (mixKind prog w) a (inrs kvs) ∧ s1.heap.DictOf (mixKind prog w) s.heap.objs.size [] ∧ kvs.length ≤ sizeLine ∧
      ∀ h', h'.DictOf (mixKind prog w) s.heap.objs.size (inrs kvs) → Heap.SameBut s.heap.objs.size s1.heap h' → Q ⟨[], kvs⟩ { s1 with heap := h' }) E { s with heap := s.heap.push { cls := .type "dict", data := .dict #[] } }) :
    wpAny (model prog w) A (evalArgs f true [] [(none, x)]) Q E s := by
  unfold evalArgs
  refine wpAny_bind (wpAny_bind (Calls.spliced_nil (wpAny_pure ?_)))
  refine wpAny_bind (wpAny_pure ?_)
  refine wpAny_holding ?_
  dsimp only
  rw [if_neg (show ¬ ([((none : Option Str), x)].all fun x => x.fst.isSome) = true from by simp)]
  refine wpAny_bind (mkw_one (wpAny_mono h (fun v s1 hv => ?_) fun _ _ z => z))
  obtain ⟨a, kvs, rfl, hs, hne, da, dd, hz, hq⟩ := hv
  refine ⟨a, inrs kvs, rfl, hs, hne, da, dd, by simpa using hz, fun h' dd' sb => ?_⟩
  refine wpAny_bind (wpAny_pure (wpAny_bind (wpAny_holding (kws_in dd' (wpAny_pure (hq h' dd' sb))))))
end
end Bk
end
section
set_option Elab.async false
set_option linter.all false
set_option maxRecDepth 100000
set_option maxHeartbeats 4000000
/-! Instances made with keywords: C(**d), C(k = v, ..), a def f(a, **d). -/
namespace Bk
open PySem PySem.Spec PyProof.Rows L2
/-! ### the call's node -/
section
variable {M : Model} {A : Around} {E : Value → Shared → Prop} {s : Shared}
theorem kw_call {f : Value} {first : List Value} {pos : Pos} {Q : Value → Shared → Prop} {P : Heap → Prop} {x : Sem Value}
    (hk : ∀ h, P h → ∃ k, (k = Keeper.frame ∨ k = Keeper.machine ∨ k = Keeper.boundFrame) ∧ PySem.W.Looks M h (keeperOf f) k)
    (h : wpAny M A (evalArgs f true [] [(none, x)]) (fun a s₁ => P s₁.heap ∧ wpAny M A (call f (first ++ a.pos) a.kw) Q E s₁) E s) : wpAny M A (callWith pos f first [] [(none, x)]) Q E s := by
  unfold callWith
  refine wpAny_bind (wpAny_holding (wpAny_mono h (fun a s₁ h₁ => wpAny_bind (wpAny_standAt ?_)) fun _ _ x => x))
  obtain ⟨k, hk', L⟩ := hk _ h₁.1
  have hst : (([] : List (Bool × Sem Value)).any (·.1) || [((none : Option Str), x)].any (·.1.isNone)) = true := rfl
  simp only [hst]
  refine wpAny_bind (L.here ?_)
  have tail : ∀ {t : Sem Value}, wpAny M A t Q E s₁ → wpAny M A (t >>= fun r => holding [r] point >>= fun _ => pure r) Q E s₁ :=
    fun ht => wpAny_bind (wpAny_mono ht (fun r s₂ hr => wpAny_bind (wpAny_holding (wpAny_point (wpAny_pure hr)))) fun _ _ x => x)
  have marked (mk : Value) : wpAny M A (callMarked mk f (first ++ a.pos) a.kw) Q E s₁ := by unfold callMarked; exact Calls.wpAny_keep h₁.2
  rcases hk' with rfl | rfl | rfl <;> dsimp only <;> first | exact tail (marked _) | exact tail (wpAny_operating h₁.2)
end

/-! ### a def with a keyword dict -/
section
variable {prog : Program} {w : World} {A : Around} {E : Value → Shared → Prop} {s : Shared}
theorem puts_kw {d : Addr} {Q : PUnit → Shared → Prop} : ∀ (kvs : List (Str × Value)) (ka : List (Key × Value)) (s : Shared), s.heap.DictOf (mixKind prog w) d ka →
    (∀ h' t', h'.DictOf (mixKind prog w) d (merged ka (inrs kvs)) → Heap.SameBut d s.heap h' → Q PUnit.unit { s with heap := h', toks := t' }) →
    wpAny (model prog w) A (forIn kvs PUnit.unit fun (x : Str × Value) (_ : PUnit) => do nsSet d x.1 x.2; pure (ForInStep.yield PUnit.unit)) Q E s
  | [], ka, s, hd, h => by
    rw [List.forIn_nil]
    exact wpAny_pure (h s.heap s.toks hd (Heap.SameBut.refl _ _))
  | (k, v) :: kvs, ka, s, hd, h => by
    rw [List.forIn_cons]
    refine wpAny_bind (wpAny_bind (ns_put hd fun h' hd' sb => wpAny_pure ?_))
    exact puts_kw kvs (stored ka (Sum.inr k) v) { s with heap := h', toks := s.toks + 1 } hd' fun h2 t2 hd2 sb2 => h h2 t2 hd2 (sb.trans sb2)
def iniA : Arguments := defArgs (meth 0)
theorem ini_ok : iniA.posonlyargs = [] ∧ iniA.args.map (·.arg) = (["this_book"] : List Str) ∧ iniA.vararg = none ∧ iniA.kwonlyargs = [] ∧ ∃ pk, iniA.kwarg = some pk ∧ pk.arg = "commands" := by
  refine ⟨rfl, rfl, rfl, rfl, _, rfl, rfl⟩
theorem bind_ini {name qual : Str} {body : List Stmt} {scope : Scope} {kV doc pm cdv ct : Value} {an : Option Addr} {x : Value} {kvs : List (Str × Value)} {Q : List (Str × Value) → Shared → Prop} (hk : ∀ q ∈ kvs, q.1 ≠ "this_book") (hz : kvs.length ≤ sizeLine)
    (nd : (kvs.map (·.1)).Nodup)
    (h : ∀ h' t', h'.DictOf (mixKind prog w) s.heap.objs.size (inrs kvs) → (∀ b o, s.heap.get? b = some o → h'.get? b = some o) → Q [("this_book", x), ("commands", .ref s.heap.objs.size)] { s with heap := h', toks := t' }) :
    wpAny (model prog w) A (bindArgs (PySem.W.fnOf name qual iniA body scope .none kV doc pm an cdv ct) ⟨[x], kvs⟩) Q E s := by
  unfold bindArgs
  obtain ⟨e1, e2, e3, e4, pk, e5, e6⟩ := ini_ok
  dsimp only [PySem.W.fnOf]
  rw [e1, e2, e3, e4, e5]
  refine wpAny_bind ?_
  refine wpAny_forIn_list _ (fun rest acc s' => s' = s ∧ ∃ done, kvs = done ++ rest ∧ acc = ⟨[("this_book", x)], done⟩) _ ?_ ?_ _ _ ⟨rfl, [], rfl, rfl⟩
  · rintro ⟨k, v⟩ rest acc s' ⟨rfl, done, ed, rfl⟩
    have kn : k ≠ "this_book" := hk (k, v) (by rw [ed]; simp)
    dsimp only
    rw [if_neg (by simp [kn])]
    rw [if_pos (show (some pk).isSome = true from rfl)]
    exact wpAny_pure ⟨rfl, done ++ [(k, v)], by rw [ed, List.append_assoc] <;> rfl, rfl⟩
  · rintro acc s' ⟨rfl, done, ed, rfl⟩
    rw [List.append_nil] at ed
    subst ed
    refine wpAny_bind (show wpAny _ _ (seqItems? Value.none) _ _ _ from wpAny_pure ?_)
    show wpAny (model prog w) A (if kvs.length > sizeLine + 1 then (do
        unsupported "dict:memory"
        let d ← alloc { cls := Value.type "dict", data := Data.dict #[] }
        forIn kvs PUnit.unit fun (x : Str × Value) (_ : PUnit) => do nsSet d x.1 x.2; pure (ForInStep.yield PUnit.unit)
        pure ([(("this_book" : Str), x)] ++ [(pk.arg, Value.ref d)])) else (do
        let d ← alloc { cls := Value.type "dict", data := Data.dict #[] }
        forIn kvs PUnit.unit fun (x : Str × Value) (_ : PUnit) => do nsSet d x.1 x.2; pure (ForInStep.yield PUnit.unit)
        pure ([(("this_book" : Str), x)] ++ [(pk.arg, Value.ref d)]))) Q E s'
    rw [if_neg (by omega)]
    refine wpAny_bind (wpAny_alloc (wpAny_bind (puts_kw kvs [] _ ⟨_, #[], 0, Heap.get?_push_size _ rfl, ⟨rfl, rfl, rfl⟩, rfl, (fun e he => absurd he (by simp)), .nil, by simp⟩ fun h' t' hd sb => wpAny_pure ?_)))
    have nd' : ((inrs kvs).map (·.1)).Nodup := by
      have e : (inrs kvs).map (·.1) = (kvs.map (·.1)).map Sum.inr := by
        rw [List.map_map, List.map_map] <;> rfl
      rw [e]
      exact List.Pairwise.map _ (fun a b ne z => ne (Sum.inr.inj z)) nd
    rw [merged_nil_of_nodup _ nd'] at hd
    rw [e6]
    exact h h' t' hd fun b o e => (sb.2 b (Nat.ne_of_lt (Heap.lt_size e))).trans (Heap.get?_push_of_some _ e)
end

/-! ### __init__ with a keyword dict; the instance made -/
theorem kv_zip {α : Type} : ∀ {kvs : List (α × V)} {kus : List (α × Value)}, KV kvs kus → kvs.map (·.1) = kus.map (·.1) ∧ kvs.length = kus.length
  | _, _, .nil => ⟨rfl, rfl⟩
  | _, _, .cons r t => by
    obtain ⟨h1, h2⟩ := kv_zip t
    exact ⟨by rw [List.map_cons, List.map_cons, h1, r.1], by rw [List.length_cons, List.length_cons, h2]⟩
theorem kv_inrs : ∀ {kvs : List (Str × V)} {kus : List (Str × Value)}, KV kvs kus → KV (inrs kvs) (inrs kus)
  | _, _, .nil => .nil
  | _, _, .cons r t => .cons ⟨congrArg Sum.inr r.1, r.2⟩ (kv_inrs t)
/-- what an __init__(a, **d) promises -/
def FnKw (P : Program) (w : World) (K : PySem.W.Frag) (mg : Str → Option Value) (base : Heap) (CX : CXT) (k : Nat) (f : Addr) (sp : V → List (Str × V) → Hp → VK → XK → Prop) : Prop :=
  ∀ (A : Around) (outer : List Env) (s : Shared) (H : Hp) (u : Value) (x : V) (kvs : List (Str × V)) (kus : List (Str × Value)) (Q : VK) (E : XK), Room k A → Env0 P w K mg base A outer s H → RelV x u → KV kvs kus → sp x kvs H Q E →
    codeAny (model P w) A (.call (.ref f) ⟨[u], kus⟩) (CR CX outer P w H s Q E) s
section
variable {CX : CXT} {P : Program} {w : World} {K : PySem.W.Frag} {mg : Str → Option Value} {base : Heap} {k : Nat} {f : Addr} {name qual : Str} {body : List Stmt} {scope : Scope} {kV doc pm cdv ct oc : Value} {an od : Option Addr}
  {osl : Array (Option Value)} {N : List Str} {sp : Sp}
theorem fn_kw (lk : K.lookup f = some ⟨oc, od, .func (PySem.W.fnOf name qual iniA body scope .none kV doc pm an cdv ct), osl⟩) (hcd : PySem.W.codeIn K cdv qual = true) (S : FnScope N ["this_book", "commands"] scope) (hCX : StX.CXUp CX)
    (hbody : ∀ (A : Around) (outer : List Env) (s : Shared) (H : Hp) (vs : List V) (Q : VK) (E : XK), Room k (A.deeper (envOfC qual scope s.heap.objs.size f cdv)) → sp vs H Q E →
      ∃ t, PSs (cxOf CX P w K mg base N qual scope f cdv A outer s H E) body t ∧ t { nx := fun _ H' => Q .non H', rt := Q } (start N vs) H) :
    FnKw P w K mg base CX (k + 1) f (fun x kvs H Q E => (∀ q ∈ kvs, q.1 ≠ "this_book") ∧ kvs.length ≤ sizeLine ∧ (kvs.map (·.1)).Nodup ∧ ∀ d, H d = none → sp [x, .ref d] (upd H d (.dK (inrs kvs))) Q E) := by
  intro A outer s H u x kvs kus Q E hr e0 rx rk hsp
  obtain ⟨h1, h2, h3, hq⟩ := hsp
  obtain ⟨z1, z2⟩ := kv_zip rk
  have hn : H s.heap.objs.size = Option.none := e0.hok.fresh (Nat.le_refl _)
  refine StX.run_bnd lk hcd S hr e0 (G := fun xs H2 => ∃ d, H d = Option.none ∧ xs = [x, .ref d] ∧ H2 = upd H d (.dK (inrs kvs))) (fun A' Ex Q' h => ?_) fun s2 H2 xs ⟨d, hd, ex, eH⟩ hr' => ?_
  · refine bind_ini (fun q hq e => ?_) (by rw [← z2]; exact h2) (by rw [← z1]; exact h3) fun h' t' hd kp => ?_
    · have : q.1 ∈ kus.map (·.1) := List.mem_map.mpr ⟨q, hq, rfl⟩
      rw [← z1] at this
      obtain ⟨q', m, e'⟩ := List.mem_map.mp this
      exact h1 q' m (e'.trans e)
    · have new : ObjOk P w (upd H s.heap.objs.size (.dK (inrs kvs))) h' s.heap.objs.size (.dK (inrs kvs)) := by
        refine ⟨by rw [List.length_map]; exact h2, ?_, inrs kus, kv_inrs rk, hd⟩
        have := StX.env0_big e0
        rw [beq_eq_false_iff_ne]
        exact Nat.ne_of_gt this
      have un : Un (frs outer) [] H (upd H s.heap.objs.size (.dK (inrs kvs))) s.heap h' := Un.laid kp (Nat.le_refl _) hn
      have e2 : Env0 P w K mg base A outer { s with heap := h', toks := t' } (upd H s.heap.objs.size (.dK (inrs kvs))) := by
        refine ⟨e0.frames, e0.mod, fun b x e => ⟨kp b x (e0.bs b x e).1, ?_⟩, ?_, Heap.FunFrames.of_keeps (fun b x e _ => ⟨x, kp b x e, rfl⟩) e0.funs, fun b hb => ?_, e0.hok.laid kp (Nat.le_refl _) new, e0.bare⟩
        · rw [upd_ne (Nat.ne_of_lt (Heap.lt_size (e0.bs b x e).1))]
          exact (e0.bs b x e).2
        · refine Nat.le_trans e0.bsz ?_
          rcases Nat.lt_or_ge h'.objs.size s.heap.objs.size with q | q
          · exfalso
            have zl := new.lt
            exact absurd (Nat.lt_trans q zl) (Nat.lt_irrefl _)
          · exact q
        · obtain ⟨_, x, hx, _⟩ := e0.funs.mem hb
          rw [upd_ne (Nat.ne_of_lt (Heap.lt_size hx))]
          exact e0.frf b hb
      exact h { s with heap := h', toks := t' } _ [x, .ref s.heap.objs.size] [u, .ref s.heap.objs.size] e2 un rfl (fun e s' => hCX outer s H _ _ E e s' un kp rfl) (.cons rx (.cons rfl .nil)) rfl ⟨_, hn, rfl, rfl⟩
  · subst ex eH
    exact hbody A outer s2 _ _ Q E hr' (hq d hd)
end

section
variable {X : Cx} {CX : CXT} {k : Nat} {f C : Addr} {sp : V → List (Str × V) → Hp → VK → XK → Prop} {E : XK} {pos p kp : Pos} {e fe : Expr} {te tf : TE} {x : Str}
theorem run_makeKw {pins : List (Addr × Obj)} {σ : L2.St} {H : Hp} {s : Shared} {Q : VK} {kus : List (Str × Value)} {kvs : List (Str × V)} (M : Mk X.K C f) (F : FnKw X.prog X.w X.K X.mg X.base CX k f sp) (hr : Room (k + 1) X.A)
    (hx : Passes CX X E) (I : Inv X pins σ H s) (r : KV kvs kus)
    (h : ∀ x dx, H x = none → H dx = none → dx ≠ x → sp (.ref x) kvs (upd (upd H dx (.own x)) x (.ins C dx [])) (fun v H2 => v = .non ∧ Q (.ref x) H2) E) :
    wpAny (model X.prog X.w) X.A (call (.ref C) [] kus) (EP X pins σ Q) X.xe s := by
  have hq := h (s.heap.objs.size + 1) s.heap.objs.size (I.hok.fresh (Nat.le_succ _)) (I.hok.fresh (Nat.le_refl _)) (Nat.ne_of_lt (Nat.lt_succ_self _))
  have I2 := Inv.made (C := C) I
  refine wpAny_call (make_map (f := f) I.kIn M.makes M.init (beq_iff_eq.mp M.fn) (codeAny_mono (F _ X.stack _ _ _ (.ref (s.heap.objs.size + 1)) kvs kus _ E (hr.make C [] kus) (I2.env0.make C [] kus) rfl r hq) fun r s' hq' => ?_))
  cases r with
  | error e => exact hx pins σ _ _ e s' I2 hq'
  | ok fl =>
    cases fl with
    | ret u =>
      obtain ⟨v, H', I3, rv, ev, q3⟩ := I2.after hq'
      subst ev
      exact ⟨rv, ⟨V.ref (s.heap.objs.size + 1), H', I3, rfl, q3⟩⟩
    | next => exact False.elim hq'
    | brk => exact False.elim hq'
    | cont => exact False.elim hq'
/-- C(**d) -/
def tMakeD (C : Addr) (sp : V → List (Str × V) → Hp → VK → XK → Prop) (E : XK) (tf te : TE) : TE := fun σ H Q => tf σ H fun y H0 => y = .ref C ∧ te σ H0 fun z H1 => ∃ d kvs, z = .ref d ∧ H1 d = some (.dK (inrs kvs)) ∧
  ∀ x dx, H1 x = none → H1 dx = none → dx ≠ x → sp (.ref x) kvs (upd (upd H1 dx (.own x)) x (.ins C dx [])) (fun v H2 => v = .non ∧ Q (.ref x) H2) E
theorem inrs_of : ∀ {kvs : List (Str × V)} {vs : List (Key × Value)}, KV (inrs kvs) vs → ∃ kus, vs = inrs kus ∧ KV kvs kus
  | [], _, .nil => ⟨[], rfl, .nil⟩
  | (k, v) :: kvs, (k', u) :: vs, .cons r t => by
    obtain ⟨kus, e, r'⟩ := inrs_of t
    have e1 : Sum.inr k = k' := r.1
    subst e1
    exact ⟨(k, u) :: kus, by rw [e] <;> rfl, .cons ⟨rfl, r.2⟩ r'⟩
theorem pe_makeD (M : Mk X.K C f) (F : FnKw X.prog X.w X.K X.mg X.base CX k f sp) (hr : Room (k + 1) X.A) (hf : PE X (.Name x p) tf) (he : PE X e te) (hx : Passes CX X E) :
    PE X (.Call (.Name x p) [] [⟨none, e, kp⟩] pos) (tMakeD C sp E tf te) := by
  refine ⟨fun pins s0 σ H0 Q I0 h => ?_⟩
  refine wpAny_Call_Name_kw (thn (hf.run pins s0 σ H0 _ I0 h) fun uf s ⟨y, H, I, ry, ey, h⟩ => ?_)
  subst ey
  obtain rfl : uf = Value.ref C := ry
  show wpAny (model X.prog X.w) X.A (callWith pos (.ref C) [] [] [((none : Option Str), do let v ← eval e X.env; standAt pos; pure v)]) _ _ s
  refine kw_call (P := fun h => X.K.In h) (PySem.W.keeps_K M.kp) (args_kw ?_)
  have hn : H s.heap.objs.size = none := I.hok.fresh (Nat.le_refl _)
  have ob : (s.heap.push { cls := .type "dict", data := .dict #[] }).get? s.heap.objs.size = some { cls := .type "dict", data := .dict #[] } := Heap.get?_push_size _ rfl
  have I1 : Inv X pins σ H { s with heap := s.heap.push { cls := .type "dict", data := .dict #[] } } := I.kept (t' := s.toks) fun b o e => Heap.get?_push_of_some _ e
  have fp := I.fpOk (H' := H) (Nat.le_refl _) hn
  have I2 : Inv X (pins ++ [(s.heap.objs.size, ({ cls := .type "dict", data := .dict #[] } : Obj))]) σ H { s with heap := s.heap.push { cls := .type "dict", data := .dict #[] } } := I1.pins_of fun q hq => (List.mem_append.mp hq).elim (fun z => I1.pin q (List.mem_append_right _ z)) fun z => by
    obtain rfl := List.mem_singleton.mp z
    exact ⟨ob, hn, fp.2.1, fp.2.2.1, fun v => by simp⟩
  refine wpAny_bind (thn (he.run _ _ σ H _ I2 h) fun v s1 ⟨z, H1, I3, rz, d, kvs, ez, hd, q⟩ => wpAny_bind (wpAny_standAt (wpAny_pure ?_)))
  subst ez
  obtain rfl : v = Value.ref d := rz
  obtain ⟨hz, hs, vs, rk, dd⟩ := (show ObjOk X.prog X.w H1 s1.heap d (.dK (inrs kvs)) from I3.hok d _ hd)
  obtain ⟨kus, rfl, rk'⟩ := inrs_of rk
  obtain ⟨p1, p2, p3, p4, _⟩ := I3.pin (s.heap.objs.size, ({ cls := .type "dict", data := .dict #[] } : Obj)) (by simp)
  have ne : s.heap.objs.size ≠ d := fun z => by
    have p2 : H1 s.heap.objs.size = none := p2
    rw [z, hd] at p2
    cases p2
  refine ⟨d, kus, rfl, hs, ne, dd, ⟨_, #[], 0, p1, ⟨rfl, rfl, rfl⟩, rfl, (fun e he => absurd he (by simp)), .nil, by simp⟩, by
    have e1 := (kv_zip rk').2
    rw [List.length_map] at hz
    omega, fun h' dd' sb => ?_⟩
  have I4 : Inv X pins σ H1 { s1 with heap := h' } := I3.unpinned.turned (t' := s1.toks) (it := s.heap.objs.size) (fun b o hb e => (sb.2 b hb).trans e) p2 fp.2.1 fp.2.2.2.1 fp.2.2.2.2.1 fp.2.2.2.2.2
  exact ⟨I4.kIn, run_makeKw M F hr hx I4 rk' q⟩
/-- C(k = v, ..) -/
def tMakeKs (C : Addr) (ks : List Str) (sp : V → List (Str × V) → Hp → VK → XK → Prop) (E : XK) (tk : TA) : TE := fun σ H Q => tk σ H fun zs H1 => zs.length = ks.length ∧
  ∀ x dx, H1 x = none → H1 dx = none → dx ≠ x → sp (.ref x) (ks.zip zs) (upd (upd H1 dx (.own x)) x (.ins C dx [])) (fun v H2 => v = .non ∧ Q (.ref x) H2) E
theorem kv_zips {α : Type} : ∀ {ks : List α} {zs : List V} {us : List Value}, Vals zs us → KV (ks.zip zs) (ks.zip us)
  | [], _, _, _ => by rw [List.zip_nil_left, List.zip_nil_left]; exact .nil
  | _ :: _, _, _, .nil => by rw [List.zip_nil_right, List.zip_nil_right]; exact .nil
  | k :: ks, _, _, .cons r t => .cons ⟨rfl, r⟩ (kv_zips t)
theorem pe_makeKs {kws : List Keyword} {tk : TA} {ks : List Str} (M : Mk X.K C f) (F : FnKw X.prog X.w X.K X.mg X.base CX k f sp) (hr : Room (k + 1) X.A) (hg : Gl X x) (hm : X.mg x = some (.ref C)) (hx : Passes CX X E)
    (hkw : PK X kws tk) (hall : (backToKw pos (keywordEach kws X.env)).all (·.1.isSome) = true := by rfl) (hks : (backToKw pos (keywordEach kws X.env)).filterMap (·.1) = ks := by rfl)
    (hdb : (x == ("__debug__" : Str)) = false := by decide) (hpl : ((backTo pos (starEach [] X.env)).any (·.1) || (backToKw pos (keywordEach kws X.env)).any (·.1.isNone)) = false := by rfl) :
    PE X (.Call (.Name x p) [] kws pos) (tMakeKs C ks sp E tk) := by
  refine ⟨fun pins s σ H Q I h => ?_⟩
  refine wpAny_Call_Name_kw (ld_glob I hg hm ?_ hdb)
  refine PySem.W.callWith_KW0 (h₀ := X.base) I.ok.mod.kin M.kp hall (thn (hkw.run pos pins s σ H _ I h) fun ws s2 ⟨zs, H2, I2, rz, l2, q2⟩ => ⟨I2.kIn, ?_⟩) hpl
  rw [hks]
  exact run_makeKw M F hr hx I2 (kv_zips rz) q2
end
end Bk
end
section
set_option Elab.async false
set_option linter.all false
set_option maxRecDepth 100000
set_option maxHeartbeats 4000000
/-! A dict display of two dicts: {**a, **b}. -/
namespace Bk
open PySem PySem.Spec PyProof.Rows L2
section
variable {X : Cx} {a b : Expr} {ta tb : TE} {pos : Pos}
/-- one dict merged into a tracked dict -/
theorem d_merge {pins : List (Addr × Obj)} {σ : L2.St} {H : Hp} {s : Shared} {d c : Addr} {kd kc : List (Key × V)} {E : Value → Shared → Prop} {Q : Unit → Shared → Prop} (I : Inv X pins σ H s) (hd : H d = some (.dK kd)) (hc : H c = some (.dK kc)) (ne : d ≠ c) (hz : kd.length + kc.length ≤ sizeLine)
    (hQ : ∀ s', Inv X pins σ (upd H d (.dK (mergeK kd kc))) s' → Q () s') : wpAny (model X.prog X.w) X.A (mergeMapping d (.ref c) false) Q E s := by
  obtain ⟨z1, s1, v1, r1, d1⟩ := dk_of I.hok hd
  obtain ⟨z2, s2, v2, r2, d2⟩ := dk_of I.hok hc
  refine merge_map s2 ne d1 d2 false mix_noref (fun h' dd sb => hQ _ ?_) (by rw [← r1.length, ← r2.length]; exact hz) (fun z => nomatch z)
  have l := length_mergeK kc kd
  exact d_write (t' := s.toks) I (by rw [hd]; exact True.intro) sb (let ⟨o, _, _, e, _⟩ := dd; ⟨o, e⟩) (dk_new (by omega) s1 (r2.merge r1) dd)
/-- {**a, **b} -/
def tDisp2 (ta tb : TE) : TE := fun σ H Q => ∀ d, H d = none → ta σ (upd H d (.dK [])) fun x H1 => ∃ c kc, x = .ref c ∧ H1 c = some (.dK kc) ∧ H1 d = some (.dK []) ∧ d ≠ c ∧
  tb σ (upd H1 d (.dK (mergeK [] kc))) fun y H2 => ∃ c2 k2, y = .ref c2 ∧ H2 c2 = some (.dK k2) ∧ H2 d = some (.dK (mergeK [] kc)) ∧ d ≠ c2 ∧ kc.length + k2.length ≤ sizeLine ∧ Q (.ref d) (upd H2 d (.dK (mergeK (mergeK [] kc) k2)))
theorem pe_disp2 (ha : PE X a ta) (hb : PE X b tb) : PE X (.Dict [none, none] [a, b] pos) (tDisp2 ta tb) := by
  refine ⟨fun pins s σ H Q I h => ?_⟩
  show wpAny (model X.prog X.w) X.A (do standAt pos; dictDisplay [(none, do let x ← eval a X.env; standAt pos; pure x), (none, do let x ← eval b X.env; standAt pos; pure x)]) _ _ s
  refine wpAny_bind (wpAny_standAt ?_)
  unfold dictDisplay
  have hn : H s.heap.objs.size = none := I.hok.fresh (Nat.le_refl _)
  have I1 : Inv X pins σ (upd H s.heap.objs.size (.dK [])) { s with heap := s.heap.push { cls := .type "dict", data := .dict #[] } } :=
    I.laid (t' := s.toks) (fun b u e => Heap.get?_push_of_some _ e) (Nat.le_refl _) (dk_empty _ I.big)
  have h := h s.heap.objs.size hn
  refine wpAny_bind ?_
  rw [List.forIn_cons]
  refine wpAny_bind ?_
  dsimp only
  rw [if_pos (show ([] : List (Sem Value × Sem Value)).isEmpty = true from rfl)]
  refine wpAny_bind (wpAny_pure ?_)
  dsimp only
  refine wpAny_bind (wpAny_alloc ?_)
  refine wpAny_bind (wpAny_holding (wpAny_bind (thn (ha.run _ _ σ _ _ I1 h) fun v s1 ⟨x, H1, I2, r1, c, kc, e1, h1, h2, ne, hq⟩ => wpAny_bind (wpAny_standAt (wpAny_pure ?_)))))
  subst e1
  obtain rfl : v = Value.ref c := r1
  refine wpAny_bind (wpAny_onRaise (wpAny_tryCatch (wpAny_onRaise (wpAny_holding (d_merge I2 h2 h1 ne (by have := (dk_of I2.hok h1).1; simpa using this) fun s2 I3 => ?_)))))
  refine wpAny_pure ?_
  dsimp only
  rw [List.forIn_cons]
  refine wpAny_bind ?_
  rw [if_pos (show ([] : List (Sem Value × Sem Value)).isEmpty = true from rfl)]
  refine wpAny_bind (wpAny_pure ?_)
  dsimp only
  refine wpAny_bind (wpAny_pure ?_)
  refine wpAny_bind (wpAny_holding (wpAny_bind (thn (hb.run _ _ σ _ _ I3 hq) fun v s3 ⟨y, H2, I4, r2, c2, k2, e2, h3, h4, ne2, hz, hq2⟩ => wpAny_bind (wpAny_standAt (wpAny_pure ?_)))))
  subst e2
  obtain rfl : v = Value.ref c2 := r2
  refine wpAny_bind (wpAny_onRaise (wpAny_tryCatch (wpAny_onRaise (wpAny_holding (d_merge I4 h4 h3 ne2 (by have := length_mergeK kc []; simp at this; omega) fun s4 I5 => ?_)))))
  refine wpAny_pure ?_
  dsimp only
  rw [List.forIn_nil]
  refine wpAny_pure ?_
  dsimp only
  rw [if_pos (show ([] : List (Sem Value × Sem Value)).isEmpty = true from rfl)]
  refine wpAny_bind (wpAny_pure ?_)
  exact wpAny_pure ⟨.ref s.heap.objs.size, _, I5, rfl, hq2⟩
end
end Bk
end
section
set_option Elab.async false
set_option linter.all false
set_option maxRecDepth 100000
set_option maxHeartbeats 4000000
/-! An own exception class over KeyError with its own __init__: made, and its first field stored. After HandS.Exc's rules for ValueError. -/
namespace BkX
open PySem PySem.HandSPX
open Builtin Builtin.ObjectAttr
abbrev keTail : List Value := [.type "KeyError", .type "LookupError", .type "Exception", .type "BaseException", .type "object"]
theorem ke_pass (self : Value) : refuseLoop self "__setattr__" keTail = pure () := by kernel_rfl
section
variable {M : Model} {A : Around} {E : Value → Shared → Prop} {h : Heap} {g : Array GenState} {d : Drawn} {t : Nat} {os : OsState}
variable {nm q : Str} {C N : Addr} {bs bm bmB : List Value} {hdct : Bool} {sn : List Str} {sub : List Value} {ab : Bool} {col : Option Bool} {dd : Option Addr} {k0 k1 k2 k3 k5 : Option Value} {B newId initId : String}
theorem check_new3 (F : ExcBaseFacts B newId initId bmB) (h1 : bm.contains (.type B) = true) {rest : List Value} {Q : Unit → Shared → Prop}
    (hC : h.get? C = some (excClassObj nm q C N bs bm hdct sn sub ab col dd k0 k1 k2 k3 k5 newId)) (hq : Q () ⟨h, g, d, t, os⟩) : wpAny M A (checkBuiltinCall newId ⟨.ref C :: rest, []⟩) Q E ⟨h, g, d, t, os⟩ := by
  have hcont : (Value.ref C :: bm).contains (.type B) = true := by rw [List.contains_cons, h1, Bool.or_true]
  have hstar := F.noStar
  simp only [checkBuiltinCall, F.newKind, F.newSplit, F.newRow]
  repeat (first | refine wpAny_loadPart_at hC ?_ | (refine wpAny_isSubtype_exc hC ?_; rw [hcont]) | refine wpAny_staticBase_exc hC ?_ | refine wpAny_madeBy_exc hC ?_ | simp only [bne_self_eq_false, Bool.false_eq_true, if_false] | wp_step)
  exact hq
end
section
variable {prog : Program} {w : World} {A : Around} {E : Value → Shared → Prop} {R : Result → Shared → Prop} {h : Heap} {g : Array GenState} {d : Drawn} {t : Nat} {os : OsState}
variable {nm q : Str} {C N : Addr} {bs bm bmB : List Value} {hdct : Bool} {sn : List Str} {sub : List Value} {ab : Bool} {col : Option Bool} {dd : Option Addr} {k0 k1 k2 k3 k5 : Option Value} {B newId initId : String}
theorem new3 (F : ExcBaseFacts B newId initId bmB) (h1 : bm.contains (.type B) = true) (h2 : bm.contains (.type "AttributeError") = false) (h3 : bm.contains (.type "NameError") = false) {rest : List Value}
    (hC : h.get? C = some (excClassObj nm q C N bs bm hdct sn sub ab col dd k0 k1 k2 k3 k5 newId))
    (hq : R (.ok (.ret (.ref (h.objs.size + 1)))) ⟨(h.push { cls := .type "tuple", data := .seq rest.toArray }).push
      { cls := .ref C, data := .fields #[.ref h.objs.size, .none, .none, .none, .bool false, .none] }, g, d, t, os⟩) (hrest : rest.length ≤ sizeLine) :
    codeAny (model prog w) A (.builtin newId ⟨.ref C :: rest, []⟩) R ⟨h, g, d, t, os⟩ := by
  have hends := F.ends
  have hcB : (Value.ref C :: bm).contains (.type B) = true := by rw [List.contains_cons, h1, Bool.or_true]
  have hcA : (Value.ref C :: bm).contains (.type "AttributeError") = false := by rw [List.contains_cons, h2]; rfl
  have hcN : (Value.ref C :: bm).contains (.type "NameError") = false := by rw [List.contains_cons, h3]; rfl
  refine codeAny_builtinAt F.entry ?_
  unfold Builtin.«BaseException.__new__»
  refine wpAt_bind ?_
  show wpAt _ _ _ (stack >>= _) _ _ _
  refine wpAt_bind (wpAt_stack fun p below => wpAt_of_wpAny ?_)
  wp_walk
  refine wpAt_of_wpAny ?_
  rw [F.owner]
  repeat (first | with_reducible refine wpAny_madeHere_exc F.canon hC ?_ | with_reducible refine wpAny_loadPart_at hC ?_ | (with_reducible refine wpAny_isSubtype_exc hC ?_; first | rw [hcB] | rw [hcA] | rw [hcN]) | wp_step)
  show R _ _
  rw [Heap.size_push]
  exact hq
theorem type_call3 (F : ExcBaseFacts B newId initId bmB) (h1 : bm.contains (.type B) = true) (h2 : bm.contains (.type "AttributeError") = false) (h3 : bm.contains (.type "NameError") = false) {rest : List Value} {fI : Addr} {Q : Fin → Shared → Prop}
    (hC : h.get? C = some (excClassObj nm q C N bs bm hdct sn sub ab col dd k0 k1 k2 k3 k5 newId))
    (hi : W.Looks (model prog w) h (typeLookup (.ref C) "__init__") (some (.ref fI))) (hb : ∀ self, W.Looks (model prog w) h (bindSpecial (.ref fI) self) (.ref fI, [self])) (hrest : rest.length ≤ sizeLine)
    (hq : codeAny (model prog w) A (.call (.ref fI) ⟨.ref (h.objs.size + 1) :: rest, []⟩)
      (fun r s' => match r with | .ok (.ret v) => v = .none ∧ Q (.done (.ret (.ref (h.objs.size + 1)))) s' | .ok _ => False | .error e => E e s')
      ⟨(h.push (W.kdv_tup rest)).push (excO C h.objs.size), g, d, t, os⟩) :
    wpAny (model prog w) A (Builtin.«type.__call__» ⟨.ref C :: rest, []⟩) Q E ⟨h, g, d, t, os⟩ := by
  repeat (first | with_reducible refine wpAny_loadPart_at hC ?_ | with_reducible refine wpAny_madeBy_exc hC ?_ | wp_step)
  refine codeAny_call_builtin_code (Code.quiet_builtin _ F.quiet) (check_new3 F h1 hC ?_)
  refine new3 F h1 h2 h3 hC ?_ hrest
  show wpAny _ _ _ _ _ _
  have k : ∀ b o, h.get? b = some o → ((h.push (W.kdv_tup rest)).push (excO C h.objs.size)).get? b = some o := fun b o e => Heap.get?_push_of_some _ (Heap.get?_push_of_some _ e)
  have hC₁ := k _ _ hC
  have hget : ((h.push (W.kdv_tup rest)).push (excO C h.objs.size)).get? (h.objs.size + 1) = some (excO C h.objs.size) := by heap_get
  have hcC : (Value.ref C :: bm).contains (.ref C) = true := by simp
  have i1 := hi.keeps k
  have b1 := (hb (.ref (h.objs.size + 1))).keeps k
  unfold isInstance
  repeat (first | with_reducible refine wpAny_loadPart_at hget ?_ | (with_reducible refine wpAny_isSubtype_exc hC₁ ?_; rw [hcC]) | wp_step)
  show wpAny _ _ (typeLookup (.ref C) _) _ _ _
  refine i1.at ?_
  refine wpAny_holding (wpAny_bind (b1.at ?_))
  refine wpAny_bind (wpAny_call (codeAny_mono hq fun r s' z => ?_))
  rcases r with e | (v | _ | _ | _) <;> first | exact z | exact z.elim | skip
  obtain ⟨rfl, z⟩ := z
  first
    | exact wpAny_pure (wpAny_pure z)
    | (wp_walk; exact z)
theorem call3 (F : ExcBaseFacts B newId initId bmB) (h1 : bm.contains (.type B) = true) (h2 : bm.contains (.type "AttributeError") = false) (h3 : bm.contains (.type "NameError") = false) {rest : List Value} {fI : Addr}
    (hC : h.get? C = some (excClassObj nm q C N bs bm hdct sn sub ab col dd k0 k1 k2 k3 k5 newId))
    (hi : W.Looks (model prog w) h (typeLookup (.ref C) "__init__") (some (.ref fI))) (hb : ∀ self, W.Looks (model prog w) h (bindSpecial (.ref fI) self) (.ref fI, [self])) (hrest : rest.length ≤ sizeLine)
    (hq : codeAny (model prog w) (A.under (.builtin "type.__call__" ⟨.ref C :: rest, []⟩)) (.call (.ref fI) ⟨.ref (h.objs.size + 1) :: rest, []⟩) (W.InitBack (h.objs.size + 1) R)
      ⟨(h.push (W.kdv_tup rest)).push (excO C h.objs.size), g, d, t, os⟩) :
    codeAny (model prog w) A (.call (.ref C) ⟨rest, []⟩) R ⟨h, g, d, t, os⟩ := by
  have f1 := tc_lookup
  have f2 := tc_bind (.ref C)
  have hTy : (⟨h, g, d, t, os⟩ : Shared).TypeIs (.ref C) "type" := ⟨_, hC, rfl⟩
  refine codeAny_of_tree ?_
  show wpAny _ _ (callAny (.ref C) _) _ _ _
  repeat (any_goals (first | assumption | with_reducible refine wpAny_loadPart_at hC ?_ | wp_step))
  refine ⟨rfl, ?_⟩
  refine codeAny_call_builtin_at (Code.quiet_builtin _ (by decide +kernel)) entry_typeCall (wpAny_check_type_call_sub hC (type_call3 F h1 h2 h3 hC hi hb hrest ?_))
  refine codeAny_mono hq fun r s' z => ?_
  rcases r with e | (v | _ | _ | _) <;> exact z
end
section
variable {prog : Program} {w : World} {A : Around} {E : Value → Shared → Prop} {R : Result → Shared → Prop} {hp : Heap} {g : Array GenState} {d : Drawn} {t : Nat} {os : OsState}
theorem ke_osa {K : W.Frag} {name : Str} {tk : Tok} {v : Value} {x C : Addr} {fv : Array Value} {cd : ClassData}
    (X : K.In hp) (hx : hp.get? x = some { cls := .ref C, data := .fields fv }) (hcd : W.clsIn K C = some cd) (hm : cd.mro = .ref C :: keTail) (hh : cd.hasDict = true) (ha : W.findIn K (.ref C) name = some none)
    (hq : ∀ h' tk' dx, (∀ b o, b ≠ x → hp.get? b = some o → h'.get? b = some o) → hp.objs.size ≤ dx → dx ≠ x → h'.get? x = some { cls := .ref C, dict := some dx, data := .fields fv } →
      h'.Ns1 dx (fun y => if y = name then some v else none) → R (.ok (.ret .none)) ⟨h', g, d, tk', os⟩) :
    codeAny (model prog w) A (.call (.builtin "object.__setattr__") ⟨[.ref x, .str name tk, v], []⟩) R ⟨hp, g, d, t, os⟩ := by
  have I : W.InstAt hp x { cls := .ref C, data := .fields fv } C none := ⟨hx, rfl, rfl, trivial⟩
  have SF := F.store_object
  have hob : cd.mro.contains (.type "object") = true := by
    rw [hm, List.contains_cons, show keTail.contains (.type "object") = true from by decide +kernel, Bool.or_true]
  have ne : cd.mro.isEmpty = false := by rw [hm] <;> rfl
  have hxs : x ≠ hp.objs.size := Nat.ne_of_lt (Heap.lt_size hx)
  have sub : W.Looks (model prog w) hp (isInstance (.ref x) (.type "object")) true := I.type.andThen (W.looks_mroIn X (by unfold W.mroIn; rw [hcd, Option.bind_some, if_neg (by rw [ne]; decide), hob]))
  refine codeAny_call_builtin SF.slot.plain SF.entry (@W.check_slot (model prog w) _ _ ⟨hp, g, d, t, os⟩ "object.__setattr__" "object" "__setattr__" (.ref x) [.str name tk, v] [] _ SF.kind SF.split sub (SF.args (.ref x) (.str name tk) v) ?_)
  have hmr : W.Looks (model prog w) hp (mroOf (.ref C)) cd.mro := (W.looks_clsIn X hcd).andThen .now
  have L3 : W.Looks (model prog w) hp (storeTaker? none) none := .now
  have hcls : W.Looks (model prog w) hp (classData C) cd := W.looks_clsIn X hcd
  rw [W.osa_eq, refuse_eq]
  refine wpAny_bind (wpAny_bind (I.type.at (wpAny_bind (hmr.at ?_))))
  rw [hm, refuseLoop_ref, ke_pass]
  refine wpAny_pure (wpAny_bind (I.type.at (wpAny_bind ((W.looks_findIn X ha).at (wpAny_bind (L3.at ?_))))))
  show wpAny _ _ (storeInOwnDict (.ref x) (.ref C) (.str name tk) name v false) _ _ _
  obtain ⟨nm, bs, mro, ns, qn, hd, sn, sb, ab, col, del⟩ := cd
  dsimp only at hh
  subst hh
  unfold storeInOwnDict ownDictForStores
  repeat (first | with_reducible refine store_in_new ?_ ?_ | with_reducible refine wpAny_loadPart_at hx ?_ | with_reducible refine hcls.at ?_ | wp_step)
  · exact ⟨_, #[], _, (Heap.get?_update_ne _ _ _ _ hxs.symm).trans (Heap.get?_push_at rfl rfl), rfl, fun e he => absurd he (by simp), fun _ => rfl⟩
  · intro h' tk' hn' hs
    have hx₁ : (hp.push { cls := .type "dict", data := .dict #[] }).get? x = some { cls := .ref C, data := .fields fv } := Heap.get?_push_of_some _ hx
    refine hq h' tk' hp.objs.size (fun b o hb ho => ?_) (Nat.le_refl _) hxs.symm ?_ hn'
    · exact (hs.2 b (Nat.ne_of_lt (Heap.lt_size ho))).trans ((Heap.get?_update_ne _ _ _ _ hb).trans (Heap.get?_push_of_some _ ho))
    · exact (hs.2 x hxs).trans (Heap.get?_update_self _ hx₁ rfl)
end
end BkX
end
section
set_option Elab.async false
set_option linter.all false
set_option maxRecDepth 100000
set_option maxHeartbeats 4000000
/-! UnknownName(x): an own class over KeyError, in the judgements. -/
namespace Bk
open PySem PySem.Spec PyProof.Rows L2
/-- what the written part says of such a class -/
structure KxC (K : PySem.W.Frag) (C : Addr) : Prop where
  cls : ∃ nm q N bs sn sub ab col dd k0 k1 k2 k3 k5, K.lookup C = some (excClassObj nm q C N bs BkX.keTail true sn sub ab col dd k0 k1 k2 k3 k5 "LookupError.__new__")
  sa : PySem.W.findIn K (.ref C) "__setattr__" = some (some (.builtin "object.__setattr__"))
  exC : PySem.W.subIn K (.ref C) (.type "BaseException") = some true
  tyC : PySem.W.typeIn K (.ref C) = some (.type "type")
  kC : PySem.W.keepIn K (.ref C) = true
def kxB (K : PySem.W.Frag) (C : Addr) : Bool :=
  (match K.lookup C with
    | some ⟨.type "type", _, .cls cd, sl⟩ => (match cd.mro, sl.toList with
      | .ref C' :: bm, [_, _, _, _, some (.builtin n), _] => decide (C' = C) && (decide (n = "LookupError.__new__") && (!cd.hasDel && (cd.hasDict && decide (bm = BkX.keTail))))
      | _, _ => false)
    | _ => false) &&
  (decide (PySem.W.findIn K (.ref C) "__setattr__" = some (some (.builtin "object.__setattr__"))) && (decide (PySem.W.subIn K (.ref C) (.type "BaseException") = some true) && (decide (PySem.W.typeIn K (.ref C) = some (.type "type")) && PySem.W.keepIn K (.ref C))))
theorem kxB_ok {K : PySem.W.Frag} {C : Addr} (h : kxB K C = true) : KxC K C := by
  unfold kxB at h
  obtain ⟨q, h⟩ := Bool.and_eq_true_iff.mp h
  obtain ⟨h2, h⟩ := Bool.and_eq_true_iff.mp h
  obtain ⟨h3, h⟩ := Bool.and_eq_true_iff.mp h
  obtain ⟨h4, h5⟩ := Bool.and_eq_true_iff.mp h
  refine ⟨?_, of_decide_eq_true h2, of_decide_eq_true h3, of_decide_eq_true h4, h5⟩
  split at q
  · rename_i dd cd sl ho
    split at q
    · rename_i C' bm k0 k1 k2 k3 n k5 hm hs
      simp only [Bool.and_eq_true, decide_eq_true_eq, Bool.not_eq_true'] at q
      obtain ⟨rfl, rfl, hdel, hdi, rfl⟩ := q
      obtain ⟨nm, bs, mro, ns, qn, hd, sn, sub, ab, col, del⟩ := cd
      dsimp only at hm hdel hdi
      subst hm hdel hdi
      have hsl : sl = #[k0, k1, k2, k3, some (.builtin "LookupError.__new__"), k5] := by
        obtain ⟨l⟩ := sl
        simp only at hs
        rw [hs]
      subst hsl
      exact ⟨nm, qn, ns, bs, sn, sub, ab, col, dd, k0, k1, k2, k3, k5, ho⟩
    · cases q
  · cases q
section
variable {X : Cx} {pins : List (Addr × Obj)} {σ : L2.St} {H : Hp} {s : Shared} {a C dx : Addr} {f : Str} {y : V} {u : Value} {fs : List (Str × V)} {Q : Unit → Shared → Prop} {E : Value → Shared → Prop} {A : Around}
theorem kst_new (T : KxC X.K C) (I : Inv X pins σ H s) (e : H a = some (exo a C none)) (hno : PySem.W.findIn X.K (.ref C) f = some none) (ry : RelV y u)
    (h : ∀ dx s', H dx = none → dx ≠ a → Inv X pins σ (upd (upd H dx (exd dx [(f, y)])) a (exo a C (some dx))) s' → Q () s') : wpAny (model X.prog X.w) A (setAttr (.ref a) f u) Q E s := by
  obtain ⟨nm, q, N, bs, sn, sub, ab, col, dd, k0, k1, k2, k3, k5, hC⟩ := T.cls
  have hcl : PySem.W.clsIn X.K C = some { name := nm, bases := bs, mro := .ref C :: BkX.keTail, ns := N, qualname := q, hasDict := true, slotNames := sn, subclasses := sub, abstract := ab, collection := col, hasDel := false } := by unfold PySem.W.clsIn; rw [hC] <;> rfl
  obtain ⟨t1, ho⟩ := exo_at I.hok e
  obtain ⟨hp, g, d, t, os⟩ := s
  refine PySem.W.set_plain I.kIn (ox := { cls := .ref C, dict := none, data := .fields #[.ref t1, .none, .none, .none, .bool false, .none] }) (od := none) ⟨ho, rfl, rfl, trivial⟩ T.sa ?_
  refine BkX.ke_osa I.kIn ho hcl rfl rfl hno (fun h' tk' dx k dn dne hx hn => ?_)
  have hnd : H dx = none := I.hok.fresh dn
  have nd : ∀ {b : Addr} {o : Obj}, hp.get? b = some o → b ≠ dx := fun {b o} q => Nat.ne_of_lt (Nat.lt_of_lt_of_le (Heap.lt_size q) dn)
  have na : ∀ {b : Addr}, H b = none → b ≠ a := fun {b} n z => by
    rw [z, e] at n
    cases n
  have Un1 : Un X.fs [] H (upd (upd H dx (exd dx [(f, y)])) a (exo a C (some dx))) hp h' := {
    keep := fun b o q n _ _ => k b o (na n) q
    slot := fun b o q n _ _ => ⟨o.slots, k b o (na n) q⟩
    free := fun b o q n _ => by rw [upd_ne (na n), upd_ne (nd q)]; exact n
    there := fun b o q _ => by
      by_cases hb : b = a
      · exact ⟨_, by rw [hb]; exact hx⟩
      · exact ⟨o, k b o hb q⟩
    tups := fun b xs q => by rw [upd_ne (at_ne e q exo_tup), upd_ne (ne_of_none q hnd)]; exact q
    frzs := fun b o v q => by rw [upd_ne (at_ne e q exo_frz), upd_ne (ne_of_none q hnd)]; exact q
    tbls := fun b ps q => ⟨#[], by rw [upd_ne (at_ne e q exo_tbl), upd_ne (ne_of_none q hnd), q]; simp⟩ }
  refine h dx _ hnd dne (I.un (t' := tk') Un1 fun b o q => ?_)
  by_cases hb : b = a
  · subst hb
    rw [upd_same] at q
    cases q
    exact exo_ok hx
  · rw [upd_ne hb] at q
    by_cases hd : b = dx
    · subst hd
      rw [upd_same] at q
      cases q
      exact exd_ok hn (relO_put (fs := []) ry fun g => True.intro)
    · rw [upd_ne hd] at q
      exact (I.hok b o q).stay (fun c v hc z => by
          refine k c v ?_ z
          rcases hc with hc | hc
          · rw [hc]
            exact hb
          · exact at_ne e hc exo_own)
        (fun c hc => by rw [upd_ne (at_ne e hc exo_own), upd_ne (ne_of_none hc hnd)]; exact hc) (fun c xs hc => by rw [upd_ne (at_ne e hc exo_tup), upd_ne (ne_of_none hc hnd)]; exact hc)
end
/-- self.f = e, the first store -/
def tKst (K : PySem.W.Frag) (f : Str) (to te : TE) : TS := fun D σ H => te σ H fun y H1 => to σ H1 fun x H2 => ∃ a C : Addr, x = .ref a ∧ KxC K C ∧ PySem.W.findIn K (.ref C) f = some none ∧
  H2 a = some (exo a C none) ∧ ∀ dx, H2 dx = none → dx ≠ a → D.nx σ (upd (upd H2 dx (exd dx [(f, y)])) a (exo a C (some dx)))
section
variable {X : Cx} {o e : Expr} {es : List Expr} {to te : TE} {ta : TA} {f : Str} {p p' p1 p2 pos : Pos}
theorem ps_kst (ho : PE X o to) (he : PE X e te) (hs : swapsWith e (some (.Attribute o f p')) pos.line X.env = pure false := by rfl) : PS X (.Assign [.Attribute o f p'] e pos) (tKst X.K f to te) := by
  refine ⟨fun pins s σ H D I h => ?_⟩
  refine plainObj_wpAny_Assign_Attribute (thn (he.run pins s σ H _ I h) fun v s1 ⟨y, H1, I1, r1, q1⟩ => thn (ho.run pins s1 σ H1 _ I1 q1) fun u s2 ⟨x, H2, I2, r2, a, C, ex, T, hno, ea, q⟩ => ?_) hs
  subst ex
  obtain rfl : u = Value.ref a := r2
  exact kst_new T I2 ea hno r1 fun dx s' n ne J => ⟨σ, _, J, q dx n ne⟩
theorem pmk_kex {CX : CXT} {x : Str} {C fI : Addr} {k : Nat} {fd : FuncData} {ps : List Str} {sp : Sp} {ds : List Value} {dvs : List V} (T : KxC X.K C) (iC : PySem.W.findIn X.K (.ref C) "__init__" = some (some (.ref fI))) (tI : PySem.W.typeIn X.K (.ref fI) = some (.type "function"))
    (F1 : FnOk X.prog X.w X.K X.mg X.base CX k fI fd ps sp) (hr : Room (k + 1) X.A) (hb : Binds X.K fd ps ds) (hd : Vals dvs ds) (hx : Passes CX X (fun _ _ _ => False)) (hg : Gl X x) (hm : X.mg x = some (.ref C)) (ha : PA X (e :: es) ta)
    (hdb : (x == ("__debug__" : Str)) = false := by decide) (he : starEach (e :: es) X.env = (false, eval e X.env) :: starEach es X.env := by rfl) (hpl : (backTo pos (starEach es X.env)).any (·.1) = false := by rfl) :
    PMk X (.Call (.Name x p) (e :: es) [] pos) (tMkO C sp dvs ta) := by
  intro pins s σ H Q I h
  obtain ⟨nm, q, N, bs, sn, sub, ab, col, dd, k0, k1, k2, k3, k5, hC⟩ := T.cls
  refine wpAny_Call_Name_kw (ld_glob I hg hm ?_ hdb)
  refine PySem.W.callWith_K (h₀ := X.base) I.ok.mod.kin T.kC (thn (ha.run pos pins s σ H _ I h) fun us s1 ⟨vs, H1, I1, r1, hz, q1⟩ => ⟨I1.kIn, ?_⟩) he hpl
  show wpAny _ _ (call (.ref C) us) _ _ _
  obtain ⟨hp, g, dr, tk, os⟩ := s1
  have hsz : hp.objs.size ≤ hp.objs.size + 1 := Nat.le_succ _
  have hn : H1 (hp.objs.size + 1) = none := I1.hok.fresh hsz
  have hq := q1 (hp.objs.size + 1) hn
  have kk : ∀ b o, hp.get? b = some o → ((hp.push (PySem.W.kdv_tup us)).push (PySem.HandSPX.excO C hp.objs.size)).get? b = some o := fun b o e => Heap.get?_push_of_some _ (Heap.get?_push_of_some _ e)
  have hget : ((hp.push (PySem.W.kdv_tup us)).push (PySem.HandSPX.excO C hp.objs.size)).get? (hp.objs.size + 1) = some (PySem.HandSPX.excO C hp.objs.size) := by heap_get
  have I2 : Inv X pins σ (upd H1 (hp.objs.size + 1) (exo (hp.objs.size + 1) C none)) ⟨(hp.push (PySem.W.kdv_tup us)).push (PySem.HandSPX.excO C hp.objs.size), g, dr, tk, os⟩ :=
    I1.laid (t' := tk) (a := hp.objs.size + 1) (o := exo (hp.objs.size + 1) C none) (h' := (hp.push (PySem.W.kdv_tup us)).push (PySem.HandSPX.excO C hp.objs.size)) kk hsz (exo_ok hget)
  have r2 : Vals (V.ref (hp.objs.size + 1) :: (vs ++ dvs)) (Value.ref (hp.objs.size + 1) :: (us ++ ds)) := .cons rfl (r1.append hd)
  have hl : (Value.ref (hp.objs.size + 1) :: us ++ ds).length = ps.length := by
    have e := r2.length
    rw [F1.len _ _ _ _ hq] at e
    exact e.symm
  have hus : us.length ≤ sizeLine := by
    rw [← Paired.length r1, sizeLine_eq]
    omega
  refine wpAny_call (BkX.call3 F.excBase_LookupError (by decide +kernel) (by decide +kernel) (by decide +kernel) (I1.kIn _ _ hC) (PySem.W.looks_findIn I1.kIn iC) (fun self => PySem.W.bind_fn I1.kIn self tI) hus
    (codeAny_mono (F1.run _ X.stack _ _ ⟨Value.ref (hp.objs.size + 1) :: us, []⟩ (Value.ref (hp.objs.size + 1) :: (us ++ ds)) _ _ (fun _ _ _ => False) (hr.make C us []) (I2.env0.make C us []) (hb _ (Value.ref (hp.objs.size + 1) :: us) I2.kIn hl) r2 hq) fun r s' hq' => ?_))
  cases r with
  | error er => exact hx pins σ _ _ er s' I2 hq'
  | ok fl =>
    cases fl with
    | ret u =>
      obtain ⟨v, H2, os2, bare2, un2, hok2, rv, ev, d, fs, ea, ed, hd1, q2⟩ := hq'
      subst ev
      obtain ⟨h2, g2, d2, t2, os'⟩ := s'
      exact ⟨rv, mk_end (raises_own T.exC T.tyC) I1 hsz kk un2 hok2 os2 bare2 ea ed hd1 q2⟩
    | next => exact False.elim hq'
    | brk => exact False.elim hq'
    | cont => exact False.elim hq'
end
end Bk
end
section
set_option Elab.async false
set_option linter.all false
set_option maxRecDepth 100000
set_option maxHeartbeats 4000000
/-! Operators of an own class with a dict: len, [], in, ==, !=, |, str. -/
namespace BkX
open PySem PySem.W PySem.Calls PyProof.Rows
section
variable {prog : Program} {w : World} {A : Around} {E : Value → Shared → Prop} {s : Shared} {K : Frag} {x C L f : Addr} {h₀ : Heap} {m : Str → Option Value} {ox : Obj} {od : Option Obj} {nm T : String} {b tb : Value}
theorem ne_bindB (self : Value) : bindSpecial (.builtin "object.__ne__") self = pure (.builtin "object.__ne__", [self]) := by kernel_rfl
theorem ne_bound {M : Model} {args : List Value} {Q : Option Value → Shared → Prop} (X : K.In s.heap) (I : InstAt s.heap x ox C od) (hs : findIn K (.ref C) "__ne__" = some (some (.builtin "object.__ne__")))
    (h : wpAny M A (call (.builtin "object.__ne__") (.ref x :: args)) (fun v => Q (some v)) E s) : wpAny M A (callSpecialIfBound? (.ref x) "__ne__" args) Q E s := by
  simp only [callSpecialIfBound?, bindSpecialIfBound?]
  refine wpAny_holding (wpAny_bind (wpAny_bind (wpAny_bind (I.type.here ((looks_findIn X hs).here ?_)))))
  refine wpAny_bind (wpAny_askSetting (wpAny_ite ?_))
  have fin : wpAny M A (call (.builtin "object.__ne__") ([.ref x] ++ args) >>= fun v => pure (some v)) Q E s := wpAny_bind (wpAny_mono h (fun v s' h' => wpAny_pure h') fun _ _ h' => h')
  split
  · refine wpAny_bind ?_
    rw [ne_bindB]
    exact wpAny_pure (wpAny_pure (by exact fin))
  · refine wpAny_tryCatch (wpAny_bind ?_)
    rw [ne_bindB]
    exact wpAny_pure (wpAny_pure (by exact fin))
/-- x != b by the own == -/
theorem cmp_ne {Q : Value → Shared → Prop} (hu : A.in1.units < cLine) (hu0 : A.units < cLine) (X : K.In s.heap) (I : InstAt s.heap x ox C od) (hb : Looks (model prog w) s.heap (typeOf b) tb) (hn : notFirst K C tb = true)
    (hs : findIn K (.ref C) "__eq__" = some (some (.ref f))) (hf : isFn K (.ref f) = true) (hne : findIn K (.ref C) "__ne__" = some (some (.builtin "object.__ne__"))) (ho : mroIn K C (.type "object") = some true)
    (h : wpAny (model prog w) A.in1 (call (.ref f) [.ref x, b]) (fun v s' => ∃ c, v = .bool c ∧ Q (.bool (!c)) s') E s) : wpAny (model prog w) A (richCompare .NotEq (.ref x) b) Q E s := by
  have sub : W.Looks (model prog w) s.heap (isInstance (.ref x) (.type "object")) true := I.type.andThen (W.looks_mroIn X ho)
  have entry : wpAny (model prog w) A.in1 (Builtin.«object.__ne__» ⟨[.ref x, b], []⟩) (fun fin s' => ∃ c, fin = .done (.ret (.bool c)) ∧ Q (.bool c) s') E s := by
    unfold Builtin.«object.__ne__»
    obtain ⟨hp, g, d, t, os⟩ := s
    repeat (first
      | with_reducible refine wpAny_cRoomFor hu ?_
      | (refine wpAny_bind (m := callSpecialIfBound? (.ref x) (Str.ofString "__eq__") [b])
          (ifBound_K X I hs hf (wpAny_mono h (fun v s' hv => by
            obtain ⟨c, rfl, hq⟩ := hv
            repeat (first | exact ⟨_, rfl, hq⟩ | exact wpAny_pure ⟨_, rfl, hq⟩ | (refine wpAny_bind (m := truthy (.bool _)) (wpAny_truthy_bool ?_)) | wp_step)) fun _ _ e => e)))
      | wp_step)
  have one : wpAny (model prog w) A (tryCompare (.ref x) "__ne__" b) (fun r s' => ∃ v, r = some v ∧ Q v s') E s := by
    unfold tryCompare
    refine wpAny_bind (ne_bound X I hne (wpAny_call ?_))
    refine codeAny_call_builtin (by decide +kernel) PySem.F.cmpEntry_ne (check_slot PySem.F.cmpKind_ne PySem.F.cmpSplit_ne sub (PySem.F.cmpArgs_ne _ _) (wpAny_mono entry (fun fin s' z => ?_) fun e s' z => z))
    obtain ⟨c, rfl, hq⟩ := z
    exact wpAny_pure ⟨_, rfl, hq⟩
  unfold richCompare
  simp only [oneThing_ref]
  refine wpAny_holding (wpAny_bind (wpAny_cRoomFor hu0 ?_))
  refine wpAny_bind (I.type.here (wpAny_bind (hb.here ?_)))
  split
  · rename_i q
    have e : subIn K tb (.ref C) = some false := by
      rcases Bool.or_eq_true_iff.mp hn with e | e
      · rw [beq_iff_eq.mp e] at q; simp at q
      · exact beq_iff_eq.mp e
    refine wpAny_bind ((looks_subIn X e).here ?_)
    simp only [Bool.false_eq_true, if_false]
    refine wpAny_bind (wpAny_mono one (fun r s' z => ?_) fun _ _ e => e)
    obtain ⟨v, rfl, hq⟩ := z
    exact wpAny_pure hq
  · refine wpAny_bind (wpAny_pure ?_)
    simp only [Bool.false_eq_true, if_false]
    refine wpAny_bind (wpAny_mono one (fun r s' z => ?_) fun _ _ e => e)
    obtain ⟨v, rfl, hq⟩ := z
    exact wpAny_pure hq
/-- x op b, b of a built-in type -/
theorem bin_T {op : Operator} {fo ro rc : Option Value} {Q : Value → Shared → Prop} (X : K.In s.heap) (I : InstAt s.heap x ox C od) (hb : Looks (model prog w) s.heap (typeOf b) (.type T)) (hc : selfFirst K C = true)
    (hs : findIn K (.ref C) (PySem.dunder op.info.2) = some (some (.ref f))) (hf : isFn K (.ref f) = true) (hr : findIn K (.ref C) (dunderR op.info.2) = some rc) (hp : rc = none ∨ ∃ g : Addr, rc = some (.ref g))
    (h1 : findIn K (.type T) (PySem.dunder op.info.2) = some fo) (h2 : findIn K (.type T) (dunderR op.info.2) = some ro) (hsub : subIn K (.type T) (.ref C) = some false)
    (h : wpAny (model prog w) A (call (.ref f) [.ref x, b]) (PySem.W.CmpBack Q) E s) : wpAny (model prog w) A (binaryOp op (.ref x) b) Q E s := by
  obtain ⟨cd, rest, hcd, hm⟩ := ksp_first hc
  rcases hi : op.info with ⟨sym, nm'⟩
  rw [hi] at hs hr h1 h2
  dsimp only at hs hr h1 h2
  have one := ksp_try X I hs hf h
  obtain ⟨hh, g, d, tt, os⟩ := s
  have L1 : Looks (model prog w) hh (typeOf (.ref x)) (.ref C) := I.type
  have L2 : Looks (model prog w) hh (typeOf b) (.type T) := hb
  have L3 : Looks (model prog w) hh (fillsNumberSlot (.ref C) nm') true := fills_K X hcd hm hs
  have L4 : Looks (model prog w) hh (fillsNumberSlot (.type T) nm') ((fo.isSome && !isSeqSlot fo) || (ro.isSome && !isSeqSlot ro)) := ksp_fillsT X h1 h2
  have L5 : Looks (model prog w) hh (isSubtype (.type T) (.ref C)) false := looks_subIn X hsub
  have L6 : Looks (model prog w) hh (numberSlotInPython (.ref C) nm') true := ksp_inPy X hs hr hp
  have L7 : Looks (model prog w) hh (numberSlotInPython (.type T) nm') false := Looks.of_pure rfl
  have L8 : Looks (model prog w) hh (typeLookup (.type T) (dunderR nm')) ro := looks_findIn X h2
  generalize ((fo.isSome && !isSeqSlot fo) || (ro.isSome && !isSeqSlot ro)) = right at L4
  have hne : (Value.ref C == Value.type T) = false := Bool.eq_false_iff.mpr fun q => by cases beq_iff_eq.mp q
  simp only [binaryOp, hi]
  refine wpAny_holding (wpAny_bind ?_)
  unfold binaryOp1
  refine wpAny_bind (L1.at (wpAny_bind (L2.at (wpAny_bind (L3.at ?_)))))
  simp only [hne, Bool.false_eq_true, if_false]
  cases right with
  | false =>
    ksp_lk
    refine wpAny_mono one (fun r s' hr' => ?_) fun _ _ e => e
    obtain ⟨v, rfl, hq⟩ := hr'
    ksp_lk
    exact hq
  | true =>
    ksp_lk
    refine wpAny_mono one (fun r s' hr' => ?_) fun _ _ e => e
    obtain ⟨v, rfl, hq⟩ := hr'
    ksp_lk
    exact hq
end
end BkX

namespace Bk
open PySem PySem.Spec PyProof.Rows L2
theorem ins_at {X : Cx} {pins : List (Addr × Obj)} {σ : L2.St} {H : Hp} {s : Shared} {a C dx : Addr} {fs : List (Str × V)} (I : Inv X pins σ H s) (h : H a = some (.ins C dx fs)) : ∃ od, PySem.W.InstAt s.heap a (PySem.W.instObj C dx) C (some od) := by
  obtain ⟨mA, O, _⟩ := ins_get I.hok h
  obtain ⟨od, J, _⟩ := O.look
  exact ⟨od, J⟩
/-- a special method of the class at C, a def at f -/
structure Spc (K : PySem.W.Frag) (C : Addr) (n : Str) (f : Addr) : Prop where
  at_ : PySem.W.findIn K (.ref C) n = some (some (.ref f))
  fn : PySem.W.isFn K (.ref f) = true
  fi : PySem.W.fnIn K f = true
/-- x is an instance of the class at C -/
def InsO (C : Addr) (H : Hp) (x : V) : Prop := ∃ a dx fs, x = .ref a ∧ H a = some (.ins C dx fs)
section
variable {X : Cx} {CX : CXT} {C f : Addr} {k : Nat} {sp : Sp} {E : XK}
theorem call_lenO (c : Spc X.K C "__len__" f) (F : FnR X.prog X.w X.K X.mg X.base CX k f sp) (hr : Room (k + 1) X.A) (hx : Passes CX X E) :
    CallR X (.builtin "len") (fun xs H Q => ∃ x, xs = [x] ∧ InsO C H x ∧ sp [x] H (fun v H' => ∃ n : Nat, v = .int n ∧ n < 2 ^ 62 ∧ Q (.int n) H') E) := by
  intro pins s σ H xs us Q I r h
  obtain ⟨x, rfl, ⟨a, dx, fs, rfl, ha⟩, q⟩ := h
  obtain ⟨u, rfl, ru⟩ := vals1 r
  cases (show u = Value.ref a from ru)
  obtain ⟨od, J⟩ := ins_at I ha
  obtain ⟨m, hF⟩ := I.fr
  refine PySem.W.len_K hF I.ok.mod.kin J c.at_ c.fn (wpAny_mono (wpAny_call (SlX.run_at (A := X.A.in1) (us := [.ref a]) (ws := [.ref a]) F hr.in1 I.env0.in1 hx I (.cons rfl .nil) q)) (fun v s' z => ?_) fun _ _ x => x)
  obtain ⟨y, H', I', ry, n, ey, hn, q'⟩ := z
  subst ey
  obtain ⟨t, rfl⟩ := (show ∃ t, v = Value.int n t from ry)
  exact ⟨⟨by omega, by omega⟩, .int n, H', I'.tok _, ⟨_, rfl⟩, q'⟩
theorem op_inO (c : Spc X.K C "__contains__" f) (F : FnR X.prog X.w X.K X.mg X.base CX k f sp) (hr : Room k X.A) (hx : Passes CX X E) :
    OpR X (compareOp .In) (fun x y H Q => InsO C H y ∧ sp [y, x] H (fun v H' => ∃ b, v = .bl b ∧ Q (.bl b) H') E) := by
  intro pins s σ H x y v u Q I rx ry h
  obtain ⟨⟨a, dx, fs, rfl, ha⟩, q⟩ := h
  cases (show u = Value.ref a from ry)
  obtain ⟨od, J⟩ := ins_at I ha
  obtain ⟨m, hF⟩ := I.fr
  refine PySem.W.in_K hF I.ok.mod.kin J c.at_ c.fn (wpAny_mono (wpAny_call (run_fnR (us := [.ref a, v]) (vs := [.ref a, x]) F hr hx I (.cons rfl (.cons rx .nil)) q)) (fun z s' hz => ?_) fun _ _ x => x)
  obtain ⟨y, H', I', ry', b, ey, q'⟩ := hz
  subst ey
  cases (show z = Value.bool b from ry')
  exact wpAny_truthy_bool ⟨.bl b, H', I', rfl, q'⟩
theorem op_eqO (c : Spc X.K C "__eq__" f) (F : FnR X.prog X.w X.K X.mg X.base CX k f sp) (hr : Room k X.A) (hx : Passes CX X E) :
    OpR X (compareOp .Eq) (fun x y H Q => InsO C H x ∧ (∃ t, TyX X.K H y t ∧ PySem.W.notFirst X.K C t = true) ∧ sp [x, y] H Q E) := by
  intro pins s σ H x y v u Q I rx ry h
  obtain ⟨⟨a, dx, fs, rfl, ha⟩, ⟨t, ty, hn⟩, q⟩ := h
  cases (show v = Value.ref a from rx)
  obtain ⟨od, J⟩ := ins_at I ha
  obtain ⟨m, hF⟩ := I.fr
  obtain ⟨P, Z, p, _⟩ := kit_of I ry ty
  refine PySem.W.cmp_K (op := .Eq) (tb := t) hr.units0 hF I.ok.mod.kin J (Z.ty _ _ I.kIn p) hn c.at_ c.fn (wpAny_mono (wpAny_call (run_fnR (us := [.ref a, u]) (vs := [.ref a, y]) F hr hx I (.cons rfl (.cons ry .nil)) q)) (fun z s' hz => ?_) fun _ _ x => x)
  obtain ⟨y', H', I', ry', q'⟩ := hz
  exact SlX.cmpback ry' ⟨y', H', I', ry', q'⟩
theorem op_neO (c : Spc X.K C "__eq__" f) (hne : PySem.W.findIn X.K (.ref C) "__ne__" = some (some (.builtin "object.__ne__"))) (ho : PySem.W.mroIn X.K C (.type "object") = some true)
    (F : FnR X.prog X.w X.K X.mg X.base CX k f sp) (hr : Room (k + 1) X.A) (hx : Passes CX X E) :
    OpR X (compareOp .NotEq) (fun x y H Q => InsO C H x ∧ (∃ t, TyX X.K H y t ∧ PySem.W.notFirst X.K C t = true) ∧ sp [x, y] H (fun v H' => ∃ b, v = .bl b ∧ Q (.bl (!b)) H') E) := by
  intro pins s σ H x y v u Q I rx ry h
  obtain ⟨⟨a, dx, fs, rfl, ha⟩, ⟨t, ty, hn⟩, q⟩ := h
  cases (show v = Value.ref a from rx)
  obtain ⟨od, J⟩ := ins_at I ha
  obtain ⟨P, Z, p, _⟩ := kit_of I ry ty
  refine BkX.cmp_ne (tb := t) hr.in1.units0 hr.units0 I.kIn J (Z.ty _ _ I.kIn p) hn c.at_ c.fn hne ho (wpAny_mono (wpAny_call (SlX.run_at (A := X.A.in1) (us := [.ref a, u]) (ws := [.ref a, y]) F hr.in1 I.env0.in1 hx I (.cons rfl (.cons ry .nil)) q)) (fun z s' hz => ?_) fun _ _ x => x)
  obtain ⟨y', H', I', ry', b, ey, q'⟩ := hz
  subst ey
  cases (show z = Value.bool b from ry')
  exact ⟨b, rfl, .bl (!b), H', I', rfl, q'⟩
/-- x | y, both of the class -/
theorem op_orO (c : Spc X.K C "__or__" f) (hc : PySem.W.selfFirst X.K C = true) (F : FnR X.prog X.w X.K X.mg X.base CX k f sp) (hr : Room k X.A) (hx : Passes CX X E) :
    OpR X (binaryOp .BitOr) (fun x y H Q => InsO C H x ∧ InsO C H y ∧ sp [x, y] H Q E) := by
  intro pins s σ H x y v u Q I rx ry h
  obtain ⟨⟨a, dx, fs, rfl, ha⟩, ⟨b, dy, gs, rfl, hb⟩, q⟩ := h
  cases (show v = Value.ref a from rx)
  cases (show u = Value.ref b from ry)
  obtain ⟨od, J⟩ := ins_at I ha
  obtain ⟨od', J'⟩ := ins_at I hb
  obtain ⟨m, hF⟩ := I.fr
  refine PySem.W.binop_K (op := .BitOr) hF I.ok.mod.kin J J'.type hc c.at_ c.fn (wpAny_mono (wpAny_call (run_fnR (us := [.ref a, .ref b]) (vs := [.ref a, .ref b]) F hr hx I (.cons rfl (.cons rfl .nil)) q)) (fun z s' hz => ?_) fun _ _ x => x)
  obtain ⟨y', H', I', ry', q'⟩ := hz
  exact SlX.cmpback ry' ⟨y', H', I', ry', q'⟩
/-- x | y, y of a built-in type -/
theorem op_orT (c : Spc X.K C "__or__" f) (hc : PySem.W.selfFirst X.K C = true) (hro : PySem.W.findIn X.K (.ref C) "__ror__" = some none) (F : FnR X.prog X.w X.K X.mg X.base CX k f sp) (hr : Room k X.A) (hx : Passes CX X E) :
    OpR X (binaryOp .BitOr) (fun x y H Q => InsO C H x ∧ (∃ T fo ro, TyX X.K H y (.type T) ∧ PySem.W.findIn X.K (.type T) "__or__" = some fo ∧ PySem.W.findIn X.K (.type T) "__ror__" = some ro ∧ PySem.W.subIn X.K (.type T) (.ref C) = some false) ∧ sp [x, y] H Q E) := by
  intro pins s σ H x y v u Q I rx ry h
  obtain ⟨⟨a, dx, fs, rfl, ha⟩, ⟨T, fo, ro, ty, h1, h2, h3⟩, q⟩ := h
  cases (show v = Value.ref a from rx)
  obtain ⟨od, J⟩ := ins_at I ha
  obtain ⟨P, Z, p, _⟩ := kit_of I ry ty
  refine BkX.bin_T (op := .BitOr) I.kIn J (Z.ty _ _ I.kIn p) hc c.at_ c.fn hro (.inl rfl) h1 h2 h3 (wpAny_mono (wpAny_call (run_fnR (us := [.ref a, u]) (vs := [.ref a, y]) F hr hx I (.cons rfl (.cons ry .nil)) q)) (fun z s' hz => ?_) fun _ _ x => x)
  obtain ⟨y', H', I', ry', q'⟩ := hz
  exact SlX.cmpback ry' ⟨y', H', I', ry', q'⟩
theorem call_strO (c : Spc X.K C "__str__" f) (F : FnR X.prog X.w X.K X.mg X.base CX k f sp) (hr : Room (k + 2) X.A) (hx : Passes CX X E) :
    CallR X (.type "str") (fun xs H Q => ∃ x, xs = [x] ∧ InsO C H x ∧ sp [x] H (fun v H' => ∃ z, v = .str z ∧ Q (.str z) H') E) := by
  intro pins s σ H xs us Q I r h
  obtain ⟨x, rfl, ⟨a, dx, fs, rfl, ha⟩, q⟩ := h
  obtain ⟨u, rfl, ru⟩ := vals1 r
  cases (show u = Value.ref a from ru)
  obtain ⟨od, J⟩ := ins_at I ha
  have hr1 : Room (k + 1) X.A.in1 := hr.in1
  refine PySem.W.kso_call hr1.in1.units0 I.kIn J c.at_ c.fn (wpAny_mono (wpAny_call (SlX.run_at (A := X.A.in1.in1) (us := [.ref a]) (ws := [.ref a]) F hr1.in1 I.env0.in1.in1 hx I (.cons rfl .nil) q)) (fun v s' z => ?_) fun _ _ x => x)
  obtain ⟨y, H', I', ry, n, ey, q'⟩ := z
  subst ey
  obtain ⟨t, rfl⟩ := (show ∃ t, v = Value.str n t from ry)
  exact ⟨.str n, H', I', ⟨_, rfl⟩, q'⟩
/-- x[i] -/
theorem pe_subO {a b : Expr} {ta tb : TE} {pos : Pos} (c : Spc X.K C "__getitem__" f) (F : FnR X.prog X.w X.K X.mg X.base CX k f sp) (hr : Room (k + 1) X.A) (hx : Passes CX X E) (ha : PE X a ta) (hb : PE X b tb)
    (hsl : ∀ o i, subscripted b true o i = runValue (.builtin "lifetime.subscript" ⟨[o, i], []⟩) := by with_unfolding_all (intro _ _; rfl)) :
    PE X (.Subscript a b pos) (fun σ H Q => ta σ H fun x H1 => tb σ H1 fun y H2 => InsO C H2 x ∧ sp [x, y] H2 Q E) := by
  refine ⟨fun pins s σ H Q I h => ?_⟩
  refine Subscript_ (binT ha hb I (R := fun x y H2 => InsO C H2 x ∧ sp [x, y] H2 Q E) h fun v u s2 x y H2 I2 rx ry q => ?_)
  obtain ⟨⟨p, dx, fs, rfl, hp⟩, q⟩ := q
  cases (show v = Value.ref p from rx)
  obtain ⟨od, J⟩ := ins_at I2 hp
  obtain ⟨m, hF⟩ := I2.fr
  exact PySem.W.sub_K hF I2.ok.mod.kin J c.at_ c.fi c.fn (wpAny_call (SlX.run_at (A := X.A.in1) (us := [.ref p, u]) (ws := [.ref p, y]) F hr.in1 I2.env0.in1 hx I2 (.cons rfl (.cons ry .nil)) q)) (hsl _ _)
end
end Bk
end
section
set_option Elab.async false
set_option linter.all false
set_option maxRecDepth 100000
set_option maxHeartbeats 4000000
/-! repr of data: none, bools, ints, texts, lists, tuples, and two dicts. -/
namespace Bk
open PySem PySem.Spec PyProof.Rows L2
/-- v is borne as this data -/
def Sh (K : PySem.W.Frag) (H : Hp) (v : V) (d : PyData) : Prop := Dp K H v d ∨ (∃ a, v = .ref a ∧ H a = some (.dK []) ∧ d = .dict []) ∨ ∃ a, v = .ref a ∧ H a = some (.dK [(Sum.inr "x", .int 1)]) ∧ d = .dict [(.str "x", .int 1)]
structure OkD (d : PyData) : Prop where
  sh : d.showable = true
  dp : d.depth ≤ 8
  ln : d.shown.length ≤ 100000
theorem Sh.reads {X : Cx} {pins : List (Addr × Obj)} {σ : L2.St} {H : Hp} {s : Shared} {v : V} {u : Value} {d : PyData} (I : Inv X pins σ H s) (h : Sh X.K H v d) (r : RelV v u) : ∃ as, Reads s.heap u d as ∧ (d.hasDict = true → sysModules ∉ as) := by
  rcases h with h | ⟨a, rfl, ha, rfl⟩ | ⟨a, rfl, ha, rfl⟩
  · obtain ⟨as, h1⟩ := Dp.reads I d v u h r
    refine ⟨as, h1, fun hd => ?_⟩
    exfalso
    have key : (∀ (d : PyData) (v : V), Dp X.K H v d → d.hasDict = false) ∧ True := by
      refine ⟨fun d v h => ?_, trivial⟩
      exact Dp.rec (motive_1 := fun v d _ => d.hasDict = false) (motive_2 := fun vs ds _ => PyData.hasDictAll ds = false) (by simp [PyData.hasDict]) (by intros; simp [PyData.hasDict]) (by intros; simp [PyData.hasDict]) (by intros; simp [PyData.hasDict])
        (by intros; simpa [PyData.hasDict]) (by intros; simpa [PyData.hasDict]) (by simp [PyData.hasDictAll]) (by intros; simp_all [PyData.hasDictAll]) h
    rw [key.1 d v h] at hd
    cases hd
  · obtain rfl : u = Value.ref a := r
    obtain ⟨z, hs, vs, rk, o, es, ep, ho, hc, hd, hk, hp, hn⟩ := dk_of I.hok ha
    cases rk
    have e0 : es.toList = [] := List.length_eq_zero_iff.mp hp.length
    refine ⟨[a] ++ [] ++ [], Reads.dict ho hc.1 hd (by rw [e0]; exact .nil) (by rw [e0]; exact .nil), fun _ hm => ?_⟩
    have : sysModules = a := by simpa using hm
    rw [← this] at hs
    exact absurd hs (by decide)
  · obtain rfl : u = Value.ref a := r
    obtain ⟨z, hs, vs, rk, o, es, ep, ho, hc, hd, hk, hp, hn⟩ := dk_of I.hok ha
    cases rk with
    | cons r1 r2 =>
      cases r2
      rename_i q
      obtain ⟨q1, q2⟩ := q
      obtain ⟨e1, w1⟩ := r1
      dsimp only at e1 w1
      subst e1
      obtain ⟨t1, rfl⟩ := (show ∃ t, q2 = Value.int 1 t from w1)
      match hes : es.toList, hp with
      | [en], hp =>
        cases hp with
        | cons p1 p2 p3 =>
          rcases keyIs_shape (show keyIs (Sum.inr "x") en.key = true from p1) with ⟨_, _, z, _⟩ | ⟨x', t2, z, e2⟩
          · cases z
          · cases z
            refine ⟨[a] ++ ([] ++ []) ++ ([] ++ []), Reads.dict ho hc.1 hd ?_ ?_, fun _ hm => ?_⟩
            · rw [hes]
              show ReadsAll s.heap [en.key] [.str "x"] _
              rw [e2]
              exact .cons (.str _ _) .nil
            · rw [hes]
              show ReadsAll s.heap [en.val] [.int 1] _
              rw [p2]
              exact .cons (.int _ _) .nil
            · have : sysModules = a := by simpa using hm
              rw [← this] at hs
              exact absurd hs (by decide)
theorem call_reprD {X : Cx} (hg : X.A.guards = some []) (hu : X.A.units + 64 < cLine) :
    CallR X (.builtin "repr") (fun xs H Q => ∃ x d, xs = [x] ∧ Sh X.K H x d ∧ OkD d ∧ Q (.str d.shown) H) := by
  intro pins s σ H xs us Q I r h
  obtain ⟨x, d, rfl, hs, ok, q⟩ := h
  obtain ⟨u, rfl, ru⟩ := vals1 r
  obtain ⟨as, hr, hsm⟩ := hs.reads I ru
  have hl : d.shown.length ≤ sizeLine := Nat.le_trans ok.ln (by rw [sizeLine_eq]; decide)
  have hw : ∀ b o, s.heap.get? b = some o → s.heap.get? b = some o := fun _ _ e => e
  have fin : ∀ {v : Value}, Reads s.heap v d as → (∃ a, v = .ref a) → wpAny (model X.prog X.w) X.A (call (.builtin "repr") [v]) (EP X pins σ Q) X.xe s := fun {v} hr ⟨a, e⟩ => by
    subst e
    exact repr_of_reads' hr ok.sh hsm hg (by have := ok.dp; omega) hw (fun h' u tk hk => ⟨.str d.shown, H, I.kept (t' := tk) hk, ⟨u, rfl⟩, q⟩) hl
  cases hr with
  | none => exact PySem.P.repr_of_none ⟨.str _, H, I.tok _, ⟨_, rfl⟩, by simpa [PyData.shown] using q⟩
  | bool b => exact PySem.P.repr_of_bool ⟨.str _, H, I.tok _, ⟨_, rfl⟩, by simpa [PyData.shown] using q⟩
  | int i t => exact PySem.P.repr_of_int (by simpa [PyData.showable] using ok.sh) ⟨.str _, H, I.tok _, ⟨_, rfl⟩, by simpa [PyData.shown] using q⟩
  | str y t => exact PySem.P.repr_of_str (by refine ⟨.str _, H, I.tok _, ⟨_, rfl⟩, ?_⟩; simpa [PyData.shown] using q) (by simpa [PyData.shown] using hl)
  | list h1 h2 h3 h4 => exact fin (.list h1 h2 h3 h4) ⟨_, rfl⟩
  | tuple h1 h2 h3 h4 => exact fin (.tuple h1 h2 h3 h4) ⟨_, rfl⟩
  | dict h1 h2 h3 h4 h5 => exact fin (.dict h1 h2 h3 h4 h5) ⟨_, rfl⟩
end Bk
end
section
set_option Elab.async false
set_option linter.all false
set_option maxRecDepth 100000
set_option maxHeartbeats 4000000
/-! Pairs as data; == and != of dicts of pairs. -/
namespace Bk
open PySem PySem.Spec PyProof.Rows L2
/-! ### names -/
theorem name_cps {x : Str} (h : nameB x = true) : ∀ c ∈ x.cps.toList, 97 ≤ c ∧ c ≤ 122 := by
  unfold nameB at h
  simp only [Bool.and_eq_true, decide_eq_true_eq, List.all_eq_true] at h
  intro c hc
  have := h.2.2 c hc
  unfold isLet at this
  simpa using this
theorem name_len {x : Str} (h : nameB x = true) : 1 ≤ x.length ∧ x.length ≤ 8 := by
  unfold nameB at h
  simp only [Bool.and_eq_true, decide_eq_true_eq] at h
  exact ⟨h.1, h.2.1⟩
theorem name_ok {x : Str} (h : nameB x = true) : PyData.strOk x = true := by
  unfold PyData.strOk
  rw [← Array.all_toList, List.all_eq_true]
  intro c hc
  have := name_cps h c hc
  simp only [decide_eq_true_eq]
  omega
/-! ### pairs as data -/
def prD (p : Pr) : PyData := .tuple [.int p.1, .tuple (p.2.map .str)]
/-- the texts of a pair are texts -/
def PrS (p : Pr) : Prop := ∀ x ∈ p.2, PyData.strOk x = true
theorem PrOk.s {p : Pr} (h : PrOk p) : PrS p := fun x hx => name_ok (h.an x hx).nm
theorem canLay_strs : ∀ xs : List Str, (∀ x ∈ xs, PyData.strOk x = true) → PyData.canLayAll0 (xs.map .str) = true
  | [], _ => by simp [PyData.canLayAll0]
  | x :: xs, h => by
    simp only [List.map_cons, PyData.canLayAll0, PyData.canLay0, Bool.and_eq_true]
    exact ⟨h x List.mem_cons_self, canLay_strs xs fun y hy => h y (List.mem_cons_of_mem _ hy)⟩
theorem depth_strs : ∀ xs : List Str, PyData.depthAll (xs.map .str) = 0
  | [] => by simp [PyData.depthAll]
  | x :: xs => by
    simp only [List.map_cons, PyData.depthAll, PyData.depth, depth_strs xs]
    rfl
theorem eqv_strs : ∀ xs ys : List Str, PyData.eqvAll (xs.map .str) (ys.map .str) = decide (xs = ys)
  | [], [] => by simp [PyData.eqvAll]
  | [], y :: ys => by simp [PyData.eqvAll]
  | x :: xs, [] => by simp [PyData.eqvAll]
  | x :: xs, y :: ys => by
    simp only [List.map_cons, PyData.eqvAll, PyData.eqv, eqv_strs xs ys]
    rw [Bool.eq_iff_iff]
    simp
theorem shaped_strs {xs : List Str} (h : ∀ x ∈ xs, PyData.strOk x = true) : SeqAt.shaped (.list (xs.map .str)) = true := by
  unfold SeqAt.shaped
  simp only [PyData.canLay0, PyData.depth, depth_strs, canLay_strs xs h, Bool.true_and]
  decide
theorem shaped_prD {p : Pr} (h : PrS p) : SeqAt.shaped (prD p) = true := by
  unfold SeqAt.shaped prD
  simp only [PyData.canLay0, PyData.canLayAll0, PyData.depth, PyData.depthAll, depth_strs, canLay_strs p.2 h, Bool.true_and]
  decide
theorem eqv_prD (p q : Pr) : PyData.eqv (prD p) (prD q) = decide (p = q) := by
  unfold prD
  simp only [PyData.eqv, PyData.eqvAll, eqv_strs, Bool.and_true]
  rw [Bool.eq_iff_iff]
  obtain ⟨a, b⟩ := p
  obtain ⟨c, d⟩ := q
  simp
theorem dp_strs {K : PySem.W.Frag} {H : Hp} : ∀ xs : List Str, DpAll K H (xs.map V.str) (xs.map .str)
  | [] => .nil
  | x :: xs => .cons (.str x) (dp_strs xs)
theorem PrAt.dp {K : PySem.W.Frag} {H : Hp} {v : V} {p : Pr} (h : PrAt H v p) : Dp K H v (prD p) := by
  obtain ⟨a, b, rfl, h1, h2⟩ := h
  exact .tup (.of h1) (.cons (.int _) (.cons (.tup (.of h2) (dp_strs _)) .nil))
/-! ### the same commands with the same pairs -/
def sameB (a b : Bd) : Bool := (a.length == b.length) && a.all fun e => decide (b.lookup e.1 = some e.2)
theorem perm_of_sub {α : Type} [DecidableEq α] : ∀ {a b : List α}, a.Nodup → (∀ x ∈ a, x ∈ b) → b.length ≤ a.length → a.Perm b
  | [], b, _, _, h => by
    have : b = [] := List.length_eq_zero_iff.mp (by simpa using h)
    rw [this]
  | x :: a, b, n, s, h => by
    obtain ⟨n1, n2⟩ := List.nodup_cons.mp n
    have hx : x ∈ b := s x List.mem_cons_self
    have p := List.perm_cons_erase hx
    have hl := p.length_eq
    refine (List.Perm.cons x (perm_of_sub n2 (fun y hy => ?_) (by rw [List.length_cons] at hl h; omega))).trans p.symm
    have ne : y ≠ x := fun e => n1 (e ▸ hy)
    exact (List.mem_erase_of_ne ne).mpr (s y (List.mem_cons_of_mem _ hy))
theorem nodup_of_keys {a : Bd} (h : (keys a).Nodup) : a.Nodup := by
  refine List.Pairwise.imp (fun ne e => ne ?_) (List.pairwise_map.mp h)
  rw [e]
theorem sameB_perm {a b : Bd} (na : (keys a).Nodup) (h : sameB a b = true) : a.Perm b := by
  unfold sameB at h
  simp only [Bool.and_eq_true, beq_iff_eq, List.all_eq_true, decide_eq_true_eq] at h
  refine perm_of_sub (nodup_of_keys na) (fun e he => mem_of_lookup' (h.2 e he)) (by omega)
theorem perm_sameB {a b : Bd} (nb : (keys b).Nodup) (h : a.Perm b) : sameB a b = true := by
  unfold sameB
  simp only [Bool.and_eq_true, beq_iff_eq, List.all_eq_true, decide_eq_true_eq]
  exact ⟨h.length_eq, fun e he => lookup_of_mem' nb (h.mem_iff.mp he)⟩
theorem keys_perm {a b : Bd} (h : a.Perm b) : (keys a).Perm (keys b) := h.map _
theorem lookup_perm {a b : Bd} (na : (keys a).Nodup) (h : a.Perm b) (x : Str) : a.lookup x = b.lookup x := by
  have nb : (keys b).Nodup := (keys_perm h).nodup_iff.mp na
  cases e : a.lookup x with
  | some p => exact (lookup_of_mem' nb (h.mem_iff.mp (mem_of_lookup' e))).symm
  | none =>
    cases e2 : b.lookup x with
    | none => rfl
    | some q =>
      have := lookup_of_mem' na (h.mem_iff.mpr (mem_of_lookup' e2))
      rw [e] at this
      cases this
/-! ### == of two dicts -/
section
variable {X : Cx} {pins : List (Addr × Obj)} {σ : L2.St} {H : Hp} {s : Shared}
theorem hits_of {A : Around} (I : Inv X pins σ H s) (hu : A.in1.units + 64 < cLine) {kb : List (Key × V)} {vb : List (Key × Value)} {b : Bd} (rb : KV kb vb) (kvb : KvAt H kb b) (sb : ∀ e ∈ b, PrS e.2) :
    ∀ {ka : List (Key × V)} {va : List (Key × Value)} {a : Bd}, KV ka va → KvAt H ka a → (∀ e ∈ a, PrS e.2) → PySem.W.KeqHits A.in1 s vb va (a.all fun e => decide (b.lookup e.1 = some e.2))
  | _, _, _, .nil, .nil, _ => .nil
  | (k, v) :: ka, (k', u) :: va, (x, p) :: a, .cons r t, .cons q qt, sa => by
    obtain ⟨e1, r⟩ := r
    obtain ⟨e2, q⟩ := q
    dsimp only at e1 e2
    subst e1
    subst e2
    have ih := hits_of I hu rb kvb sb t qt fun e he => sa e (List.mem_cons_of_mem _ he)
    have rv := rb.val (Sum.inr x)
    rw [List.all_cons]
    rcases kvb.look x with ⟨w, p', h1, h2, h3⟩ | ⟨h1, h2⟩
    · rw [h1] at rv
      obtain ⟨y, hy, ry⟩ := RelO.some_of rv
      obtain ⟨as, r1⟩ := Dp.reads I _ v u (PrAt.dp q) r
      obtain ⟨bs, r2⟩ := Dp.reads I _ w y (PrAt.dp h3) ry
      have e : SeqAt.EqAt A.in1 s u y (PyData.eqv (prD p) (prD p')) := PySem.W.keq_at r1 r2 (shaped_prD (sa _ List.mem_cons_self)) (shaped_prD (sb _ (mem_of_lookup' h2))) hu
      rw [eqv_prD] at e
      have ee : decide (List.lookup x b = some p) = decide (p = p') := by
        rw [h2]
        rw [Bool.eq_iff_iff]
        simp [eq_comm]
      dsimp only
      rw [ee]
      exact .hit hy e ih
    · rw [h1] at rv
      have hy := RelO.none_of rv
      have ee : decide (List.lookup x b = some p) = false := by
        rw [h2]
        simp
      dsimp only
      rw [ee, Bool.false_and]
      exact .miss hy
end
def rSameB (neg : Bool) : R2 := fun x y H Q => ∃ a b ka kb bda bdb, x = .ref a ∧ y = .ref b ∧ H a = some (.dK ka) ∧ H b = some (.dK kb) ∧ KvAt H ka bda ∧ KvAt H kb bdb ∧ (∀ e ∈ bda, PrS e.2) ∧ (∀ e ∈ bdb, PrS e.2) ∧ Q (.bl (if neg then !sameB bda bdb else sameB bda bdb)) H
theorem op_eqB {X : Cx} (hu : X.A.units + 65 < cLine) : OpR X (compareOp .Eq) (rSameB false) := by
  intro pins s σ H x y v u Q I rx ry h
  obtain ⟨a, b, ka, kb, bda, bdb, rfl, rfl, ha, hb, k1, k2, s1, s2, q⟩ := h
  cases (show v = Value.ref a from rx)
  cases (show u = Value.ref b from ry)
  obtain ⟨z1, m1, v1, r1, d1⟩ := dk_of I.hok ha
  obtain ⟨z2, m2, v2, r2, d2⟩ := dk_of I.hok hb
  have hu1 : X.A.in1.units + 64 < cLine := by
    show X.A.units + 1 + 64 < cLine
    omega
  refine PySem.W.keq_eq m1 m2 d1 d2 (by omega) (fun _ => hits_of I hu1 r2 k2 s2 r1 k1 s1) ?_
  rw [← r1.length, ← r2.length, k1.length, k2.length]
  exact ⟨.bl (sameB bda bdb), H, I, rfl, q⟩
theorem op_neB {X : Cx} (hu : X.A.units + 65 < cLine) : OpR X (compareOp .NotEq) (rSameB true) := by
  intro pins s σ H x y v u Q I rx ry h
  obtain ⟨a, b, ka, kb, bda, bdb, rfl, rfl, ha, hb, k1, k2, s1, s2, q⟩ := h
  cases (show v = Value.ref a from rx)
  cases (show u = Value.ref b from ry)
  obtain ⟨z1, m1, v1, r1, d1⟩ := dk_of I.hok ha
  obtain ⟨z2, m2, v2, r2, d2⟩ := dk_of I.hok hb
  have hu1 : X.A.in1.units + 64 < cLine := by
    show X.A.units + 1 + 64 < cLine
    omega
  refine PySem.W.keq_ne m1 m2 d1 d2 (by omega) (fun _ => hits_of I hu1 r2 k2 s2 r1 k1 s1) ?_
  rw [← r1.length, ← r2.length, k1.length, k2.length]
  exact ⟨.bl (!sameB bda bdb), H, I, rfl, q⟩
end Bk
end
section
set_option Elab.async false
set_option linter.all false
set_option maxRecDepth 100000
set_option maxHeartbeats 4000000
/-! sorted(d.items()), d a dict with texts as keys. -/
namespace BkS
open PySem PyProof.Rows Srt SrtO
section
variable {prog : Program} {w : World} {A : Around} {E : Value → Shared → Prop} {s : Shared}
/-- v is a tuple of a text and a value -/
def TxP (h : Heap) (v : Value) (x : Str) (y : Value) : Prop := ∃ a o t n, v = .ref a ∧ h.get? a = some o ∧ o.cls = .type "tuple" ∧ o.data = .seq #[.str x t, y] n
theorem TxP.keeps {h h' : Heap} {v : Value} {x : Str} {y : Value} (p : TxP h v x y) (k : ∀ b o, h.get? b = some o → o.cls = .type "tuple" → h'.get? b = some o) : TxP h' v x y := by
  obtain ⟨a, o, t, n, e, ho, hc, hd⟩ := p
  exact ⟨a, o, t, n, e, k a o ho hc, hc, hd⟩
abbrev ltT (k : Value → Str) (v u : Value) : Bool := decide ((k v).cps.toList < (k u).cps.toList)
theorem swo_txt {α : Type} (k : α → Str) : Swo fun v u => decide ((k v).cps.toList < (k u).cps.toList) := by
  refine ⟨fun x y h => ?_, fun x y z h1 h2 => ?_⟩
  · have := of_decide_eq_true h
    exact decide_eq_false fun h' => absurd (List.lt_trans this h') (List.lt_irrefl _)
  · have a := of_decide_eq_false h1
    have b := of_decide_eq_false h2
    refine decide_eq_false fun c => ?_
    have a' := List.not_lt.mp a
    have b' := List.not_lt.mp b
    exact absurd c (List.not_lt.mpr (List.le_trans a' b'))
theorem txt_cmp {vs : List Value} {k : Value → Str} {y : Value → Value} (hp : ∀ v ∈ vs, TxP s.heap v (k v) (y v)) (inj : ∀ v ∈ vs, ∀ u ∈ vs, k v = k u → v = u) : Cmp prog w A s (tuples' true) (fun p => p.1 ∈ vs) (lt2 (ltT k)) := by
  intro p q hm hm'
  have h1 := hp _ hm
  have h2 := hp _ hm'
  have hi := inj _ hm _ hm'
  show wpAny (model prog w) A (keyLt' (tuples' true) p.1 q.1) (fun r s' => s' = s ∧ r = decide ((k p.1).cps.toList < (k q.1).cps.toList)) (fun _ _ => False) s
  have hy : k p.1 = k q.1 → y p.1 = y q.1 := fun e => congrArg y (hi e)
  generalize k p.1 = x at h1 hy ⊢
  generalize k q.1 = x' at h2 hy ⊢
  generalize y p.1 = z at h1 hy
  generalize y q.1 = z' at h2 hy
  obtain ⟨a, o, t, n, e, ho, hc, hd⟩ := h1
  obtain ⟨a', o', t', n', e', ho', hc', hd'⟩ := h2
  rw [e, e']
  refine PySem.W.kat_lt ho hd ho' hd' ?_
  show PySem.W.KatLex prog w A true (decide (2 < 2)) _ [(.str x t, .str x' t'), (z, z')] 0 s
  refine PySem.W.kat_cons (SeqAt.EqAt.str_str x t x' t' prog w _ _ ?_)
  refine PySem.W.kat_go (fun e1 => ?_) (fun e1 => ?_)
  · have ex : x = x' := by simpa using e1
    have ez := hy ex
    subst ez
    subst ex
    refine PySem.W.kat_yes (PySem.W.kat_cons (SeqAt.EqAt.same z prog w _ _ ?_))
    refine PySem.W.kat_go (fun e2 => ?_) (fun e2 => ?_)
    · exact PySem.W.kat_yes (PySem.W.kat_nil ⟨rfl, (decide_eq_false (List.lt_irrefl _)).symm⟩)
    · cases e2
  · exact PySem.W.kat_no (oneLt_str ⟨rfl, rfl⟩)
theorem firsts_txt {h : Heap} : ∀ {vs : List Value}, (∀ v ∈ vs, ∃ x y, TxP h v x y) → ∃ fs : List Value, PySem.W.KatTups h vs fs ∧ fs.length = vs.length ∧ ∀ f ∈ fs, ∃ x t, f = Value.str x t
  | [], _ => ⟨[], True.intro, rfl, fun _ h => nomatch h⟩
  | v :: vs, hp => by
    obtain ⟨fs, h1, h2, h3⟩ := firsts_txt (vs := vs) fun u hu => hp u (List.mem_cons_of_mem _ hu)
    obtain ⟨x, y, a, o, t, n, e, ho, hc, hd⟩ := hp v List.mem_cons_self
    refine ⟨.str x t :: fs, ⟨⟨a, o, _, n, e, ho, hc, hd, rfl⟩, h1⟩, by rw [List.length_cons, List.length_cons, h2], fun f hf => ?_⟩
    rcases List.mem_cons.mp hf with rfl | hf
    · exact ⟨x, t, rfl⟩
    · exact h3 f hf
theorem txt_sortableO {a : Addr} {vs : List Value} {k : Value → Str} {y : Value → Value} (h0 : 0 < vs.length) (hp : ∀ v ∈ vs, TxP s.heap v (k v) (y v)) (inj : ∀ v ∈ vs, ∀ u ∈ vs, k v = k u → v = u) (ha : ∀ o, s.heap.get? a = some o → o.cls ≠ .type "tuple") : SortableO prog w A s a vs (ltT k) := by
  intro h' keep
  have hp' : ∀ v ∈ vs, TxP h' v (k v) (y v) := fun v hm => (hp v hm).keeps fun b o e c => keep b o (fun z => by subst z; exact ha o e c) e
  obtain ⟨fs, h1, h2, h3⟩ := firsts_txt fun v hm => ⟨_, _, hp' v hm⟩
  refine ⟨tuples' true, fun Q E hq => ?_, txt_cmp hp' inj⟩
  refine PySem.W.kat_kind (T := .type "str") h1 (by omega) (fun f hm => ?_) (by rfl) ?_
  · obtain ⟨x, t, rfl⟩ := h3 f hm
    exact PySem.W.Looks.now
  · have e : (Value.type "str" != Value.type "tuple") = true := by first | decide +kernel | rfl | decide
    rw [e]
    exact hq
end
end BkS

namespace Bk
open PySem PySem.Spec PyProof.Rows L2
/-- the text and the value that a tuple bears -/
def keyT (h : Heap) : Value → Str
  | .ref a => (match h.get? a with
    | some o => (match o.data with
      | .seq its _ => (match its.toList with
        | .str x _ :: _ => x
        | _ => Str.empty)
      | _ => Str.empty)
    | none => Str.empty)
  | _ => Str.empty
def valT (h : Heap) : Value → Value
  | .ref a => (match h.get? a with
    | some o => (match o.data with
      | .seq its _ => (match its.toList with
        | _ :: y :: _ => y
        | _ => .none)
      | _ => .none)
    | none => .none)
  | _ => .none
theorem lts_of {x y : Str} (h : ¬ lts y x) (n : x ≠ y) : lts x y := by
  unfold lts at h ⊢
  have h1 := List.not_lt.mp h
  have ne : x.cps.toList ≠ y.cps.toList := fun e => n (by
    obtain ⟨⟨a⟩⟩ := x
    obtain ⟨⟨b⟩⟩ := y
    simp only at e
    rw [e])
  by_cases hl : x.cps.toList < y.cps.toList
  · exact hl
  · exact absurd (List.le_antisymm h1 (List.not_lt.mp hl)) ne
def backA : Value → Addr
  | .ref a => a
  | _ => 0
/-! ### d.items() -/
def rItemsK : V → List V → Hp → VK → Prop := fun x xs H Q => ∃ (a : Addr) (kvs : List (Key × V)), x = .ref a ∧ xs = [] ∧ H a = some (.dK kvs) ∧ ∀ p, H p = none → Q (.ref p) (upd H p (L2.DX.itemsO p a))
theorem mt_itemsK {X : Cx} : MtR X "dict.items" rItemsK := by
  intro pins s σ H x xs v us Q I rx rxs h
  obtain ⟨a, kvs, rfl, rfl, ha, q⟩ := h
  cases (show v = Value.ref a from rx)
  cases rxs
  obtain ⟨z, hd, xs', rel, o, es, ep, ho, hx, hdat, _⟩ := dk_of I.hok ha
  refine DT.callItems (es := es) (ep := ep) hd ⟨o, ho, hx, hdat⟩ ?_
  have hf : H s.heap.objs.size = none := I.hok.fresh (Nat.le_refl _)
  exact ⟨.ref s.heap.objs.size, upd H s.heap.objs.size (L2.DX.itemsO s.heap.objs.size a), I.laid (t' := s.toks) (fun b u e => Heap.get?_push_of_some _ e) (Nat.le_refl _) (L2.DX.itemsO_ok (Heap.get?_push_size _ rfl)), rfl, q _ hf⟩
/-! ### sorted of such a view -/
/-- a list l of the tuples as, laid anew, tracked -/
theorem items_laid2 {X : Cx} {pins : List (Addr × Obj)} {σ : L2.St} {H : Hp} {s : Shared} {h' : Heap} {tk : Nat} {kvs : List (Key × V)} {vs : List (Key × Value)} {l : Addr} {out : List Value} {n : Nat} {as as' : List Addr} (I : Inv X pins σ H s) (hz : kvs.length ≤ sizeLine) (kv : KV kvs vs)
    (hk : ∀ b o, s.heap.get? b = some o → h'.get? b = some o) (hl : as.length = vs.length) (nd : as.Nodup) (low : ∀ a ∈ as, s.heap.objs.size ≤ a) (ll : s.heap.objs.size ≤ l) (lna : l ∉ as)
    (pairs : ∀ (j : Nat) (a : Addr), as[j]? = some a → ∃ key k x, vs[j]? = some (k, x) ∧ keyIs k key = true ∧ h'.get? a = some { cls := .type "tuple", data := .seq #[key, x] })
    (hL : h'.get? l = some { cls := .type "list", dict := none, data := .seq out.toArray n, slots := #[] }) (ho : out = as'.map Value.ref) (hp : as'.Perm as) :
    ∃ H' : Hp, Same H H' ∧ H' l = some (.lst (as'.map V.ref)) ∧ Paired (fun (t : Addr) (q : Key × V) => H' t = some (.tup [kV q.1, q.2])) as kvs ∧ Inv X pins σ H' { s with heap := h', toks := tk } := by
  have lk : kvs.length = vs.length := Paired.length kv
  have new : ∀ t ∈ as, H t = none := fun t ht => I.hok.fresh (low t ht)
  have newS : H l = none := I.hok.fresh ll
  have atP := LiI.putT_at as kvs (upd H l (.lst (as'.map V.ref))) (by omega) nd
  have off : ∀ b, b ∉ as → b ≠ l → LiI.putT (upd H l (.lst (as'.map V.ref))) as kvs b = H b := fun b h1 h2 => by rw [LiI.putT_off as kvs _ h1, upd_ne h2]
  have lowb : ∀ b o, s.heap.get? b = some o → b ∉ as ∧ b ≠ l := fun b o e => ⟨fun z => absurd (Heap.lt_size e) (Nat.not_lt.mpr (low b z)), fun z => absurd (Heap.lt_size e) (Nat.not_lt.mpr (by rw [z]; exact ll))⟩
  have kp : ∀ b u, H b = some u → (LiI.putT (upd H l (.lst (as'.map V.ref))) as kvs) b = some u := fun b u e => by
    rw [off b (fun z => by rw [new b z] at e; cases e) (fun z => by rw [z, newS] at e; cases e)]
    exact e
  have eS : LiI.putT (upd H l (.lst (as'.map V.ref))) as kvs l = some (.lst (as'.map V.ref)) := by rw [LiI.putT_off as kvs _ lna, upd_same]
  refine ⟨LiI.putT (upd H l (.lst (as'.map V.ref))) as kvs, kp, eS, atP, ?_⟩
  refine I.call' (ch := []) rfl ⟨fun b o q _ _ _ => hk b o q, fun b o q _ _ _ => ⟨o.slots, hk b o q⟩, fun b o q n _ => ?_, fun b o q _ => ⟨o, hk b o q⟩, fun b xs q => kp b _ q, fun b o u q => kp b _ q, fun b ps q => ⟨#[], by rw [kp b _ q]; simp⟩⟩ (fun b u q => ?_) I.bare fun b z => by simp at z
  · obtain ⟨z1, z2⟩ := lowb b o q
    rw [off b z1 z2]
    exact n
  · by_cases hb : b ∈ as
    · obtain ⟨j, pk, e1, e2, e3⟩ := LiI.paired_ix atP hb
      rw [e3] at q
      cases q
      obtain ⟨key, k, x, f1, f2, f3⟩ := pairs j b e1
      obtain ⟨qv, g1, g2, g3⟩ := LiI.paired_get kv e2
      rw [f1] at g1
      cases g1
      have rk : RelV (kV pk.1) key := by
        rw [g2]
        exact relV_key (show keyIs k key = true from f2)
      exact ⟨by show 2 ≤ sizeLine; decide, [key, x], .cons rk (.cons g3 .nil), ⟨_, f3, rfl, _, rfl⟩⟩
    · by_cases hb2 : b = l
      · rw [hb2] at q ⊢
        rw [eS] at q
        cases q
        refine ⟨by rw [List.length_map, hp.length_eq]; omega, out, n, by rw [ho]; exact LiI.vals_refs as', ?_⟩
        exact hL
      · rw [off b hb hb2] at q
        exact (I.hok b u q).stay (fun d v _ y => hk d v y) (fun d y => kp d _ y) fun d xs y => kp d _ y
def rSortK : List V → Hp → VK → Prop := fun xs H Q => ∃ (p a : Addr) (kvs : List (Str × V)), xs = [.ref p] ∧ H p = some (L2.DX.itemsO p a) ∧ H a = some (.dK (inrs kvs)) ∧
  ∀ (H' : Hp) (l : Addr) (es : List (Addr × Str × V)), Same H H' → (es.map (·.2)).Perm kvs → (es.map (·.2.1)).Pairwise lts → H' l = some (.lst (es.map fun e => V.ref e.1)) → (∀ e ∈ es, H' e.1 = some (.tup [.str e.2.1, e.2.2])) → Q (.ref l) H'
theorem cr_sortK {X : Cx} (hc : X.calm = true) : CallR X (.builtin "sorted") rSortK := by
  intro pins s σ H xs us Q I r h
  obtain ⟨p, a, kvs, rfl, hp, ha, q⟩ := h
  obtain ⟨u, rfl, ru⟩ := vals1 r
  obtain rfl : u = Value.ref p := ru
  have view : s.heap.IsItemsView p a := (show ObjOk X.prog X.w H s.heap p (L2.DX.itemsO p a) from I.hok p _ hp).1
  obtain ⟨z, hd, vs, rel, o, es, ep, ho, hx, hdat, hks, hps, hn⟩ := dk_of I.hok ha
  have lk : kvs.length = vs.length := by have := rel.length; rwa [List.length_map] at this
  have le : es.size = vs.length := by rw [← hps.length, Array.length_toList]
  have hz : kvs.length ≤ sizeLine := by rwa [List.length_map] at z
  have hh : X.A.handled = none := I.ok.hd hc
  refine DT.sortedI (es := es) (ep := ep) hh view ⟨o, ho, hx, hdat⟩ (by omega) fun h' tk as hk hlt hl hG => ?_
  have nd : as.Nodup := List.Pairwise.imp (fun h => Nat.ne_of_lt h) hG.rise
  -- the tuples that were made
  have pr : ∀ (j : Nat) (b : Addr), as[j]? = some b → ∃ (x : Str) (v : V) (t : Tok) (y : Value), kvs[j]? = some (x, v) ∧ vs[j]? = some (Sum.inr x, y) ∧ h'.get? b = some { cls := .type "tuple", data := .seq #[Value.str x t, y] } := by
    intro j b hj
    obtain ⟨en, he, hg⟩ := hG.pairs j b hj
    have hj2 : j < vs.length := by
      have := (List.getElem?_eq_some_iff.mp hj).1
      omega
    obtain ⟨⟨k, y⟩, hkv⟩ : ∃ kv, vs[j]? = some kv := ⟨_, List.getElem?_eq_getElem hj2⟩
    obtain ⟨p1, p2⟩ := hps.get? (i := j) (e := en) (k := k) (v := y) (by rw [Array.getElem?_toList]; exact he) hkv
    have hj3 : j < kvs.length := by omega
    obtain ⟨⟨x, v⟩, hx2⟩ : ∃ kv, kvs[j]? = some kv := ⟨_, List.getElem?_eq_getElem hj3⟩
    obtain ⟨qv, g1, g2, g3⟩ := LiI.paired_get rel (i := j) (x := (Sum.inr x, v)) (by rw [List.getElem?_map, hx2] <;> rfl)
    rw [hkv] at g1
    cases g1
    dsimp only at g2
    subst g2
    rcases keyIs_shape (show keyIs (Sum.inr x) en.key = true from p1) with ⟨_, _, z, _⟩ | ⟨x', t, z, e2⟩
    · cases z
    · obtain rfl : x = x' := Sum.inr.inj z
      refine ⟨x, v, t, y, hx2, hkv, ?_⟩
      rw [hg, e2, p2]
  have hob : (h'.push { cls := .type "list", data := .seq (as.map Value.ref).toArray }).get? h'.objs.size = some (seqObj "list" (as.map Value.ref).toArray 0) := Heap.get?_push_size _ rfl
  have kb : ∀ b o, s.heap.get? b = some o → (h'.push { cls := .type "list", data := .seq (as.map Value.ref).toArray }).get? b = some o := fun b o e => Heap.get?_push_of_some _ (hk b o e)
  have ne0 : ∀ b o, h'.get? b = some o → b ≠ h'.objs.size := fun b o e => Nat.ne_of_lt (Heap.lt_size e)
  generalize hh2 : h'.push { cls := .type "list", data := .seq (as.map Value.ref).toArray } = h2 at hob kb ⊢
  have ka : ∀ b o, h'.get? b = some o → h2.get? b = some o := fun b o e => by rw [← hh2]; exact Heap.get?_push_of_some _ e
  have kx : ∀ (j : Nat) (b : Addr) (x : Str) (v : V), as[j]? = some b → kvs[j]? = some (x, v) → keyT h2 (.ref b) = x ∧ BkS.TxP h2 (.ref b) x (valT h2 (.ref b)) := by
    intro j b x v hj hx2
    obtain ⟨x', v', t, y, e1, e2, e3⟩ := pr j b hj
    rw [hx2] at e1
    cases e1
    have e4 := ka _ _ e3
    have k1 : keyT h2 (.ref b) = x := by
      simp only [keyT, e4]
    have k2 : valT h2 (.ref b) = y := by
      simp only [valT, e4]
    refine ⟨k1, b, _, t, 0, rfl, e4, rfl, ?_⟩
    rw [k2]
  have at_ : ∀ v ∈ as.map Value.ref, ∃ (j : Nat) (b : Addr) (x : Str) (y : V), v = .ref b ∧ as[j]? = some b ∧ kvs[j]? = some (x, y) := by
    intro v hv'
    obtain ⟨b, hb, rfl⟩ := List.mem_map.mp hv'
    obtain ⟨j, hj⟩ := List.mem_iff_getElem?.mp hb
    obtain ⟨x, y, _, _, e1, _, _⟩ := pr j b hj
    exact ⟨j, b, x, y, rfl, hj, e1⟩
  have nk : (kvs.map (·.1)).Nodup := by
    have e := rel.keys
    rw [← e, List.map_map] at hn
    have e2 : kvs.map ((fun x : Key × V => x.1) ∘ fun p : Str × V => (Sum.inr p.1, p.2)) = (kvs.map (·.1)).map Sum.inr := by
      rw [List.map_map] <;> rfl
    rw [e2] at hn
    exact List.Pairwise.imp (fun h e => h (congrArg Sum.inr e)) (List.pairwise_map.mp hn)
  have idx_inj : ∀ (i j : Nat) (x : Str) (v w : V), kvs[i]? = some (x, v) → kvs[j]? = some (x, w) → i = j := by
    intro i j x v w h1 h2
    have g1 : (kvs.map (·.1))[i]? = some x := by rw [List.getElem?_map, h1] <;> rfl
    have g2 : (kvs.map (·.1))[j]? = some x := by rw [List.getElem?_map, h2] <;> rfl
    exact (List.getElem?_inj (List.getElem?_eq_some_iff.mp g1).1 nk).mp (g1.trans g2.symm)
  have hzl : (as.map Value.ref).length ≤ sizeLine := by rw [List.length_map]; omega
  refine wpAny_call_entry PyProof.Rows.slot_list_sort ⟨_, hob, rfl⟩ PyProof.Rows.entry_list_sort
    (SrtO.list_sort_ord (s := { s with heap := h2, toks := tk }) (ltv := BkS.ltT (keyT h2)) (BkS.swo_txt (keyT h2)) hob hzl (fun g2 => BkS.txt_sortableO (y := valT h2) (by omega) (fun v hv => ?_) (fun v hv u hu e => ?_) fun o e c => ?_) fun out hs hb => ⟨.none, rfl, ?_⟩) (PyProof.Rows.args_list_sort _)
  · obtain ⟨j, b, x, y, rfl, hj, hx2⟩ := at_ v hv
    obtain ⟨k1, k2⟩ := kx j b x y hj hx2
    rw [k1]
    exact k2
  · obtain ⟨j, b, x, y, rfl, hj, hx2⟩ := at_ v hv
    obtain ⟨i, c, x', y', rfl, hi, hx3⟩ := at_ u hu
    rw [(kx j b x y hj hx2).1, (kx i c x' y' hi hx3).1] at e
    subst e
    have := idx_inj j i x y y' hx2 hx3
    subst this
    rw [hj] at hi
    cases hi
    rfl
  · rw [show ({ s with heap := h2, toks := tk } : Shared).heap.get? h'.objs.size = some (seqObj "list" (as.map Value.ref).toArray 0) from hob] at e
    cases e
    exact absurd (Value.type.inj c) (by decide)
  · show EP X pins σ Q (.ref h'.objs.size) { s with heap := sortedHeap h2 h'.objs.size (as.map Value.ref) out.toArray, toks := tk }
    have houtr : ∀ u ∈ out, ∃ b, u = Value.ref b := fun u hu => by
      obtain ⟨j, b, _, _, e, _⟩ := at_ u (hb.perm.mem_iff.mp hu)
      exact ⟨b, e⟩
    have ho' : out = (out.map backA).map Value.ref := by
      rw [List.map_map]
      conv => lhs; rw [← List.map_id out]
      refine List.map_congr_left fun u hu => ?_
      obtain ⟨b, rfl⟩ := houtr u hu
      rfl
    have hp' : (out.map backA).Perm as := by
      have e := hb.perm.map backA
      rw [List.map_map] at e
      have e2 : as.map (backA ∘ Value.ref) = as := by
        conv => rhs; rw [← List.map_id as]
        exact List.map_congr_left fun b _ => rfl
      rwa [e2] at e
    have kF : ∀ b o, b ≠ h'.objs.size → h2.get? b = some o → (sortedHeap h2 h'.objs.size (as.map Value.ref) out.toArray).get? b = some o := fun b o hb e => (PyProof.Rows.sortedHeap_old hb (Heap.lt_size e)).trans e
    have kS : ∀ b o, s.heap.get? b = some o → (sortedHeap h2 h'.objs.size (as.map Value.ref) out.toArray).get? b = some o := fun b o e => kF b o (ne0 _ _ (hk b o e)) (kb b o e)
    obtain ⟨eF, heF⟩ := PyProof.Rows.sortedHeap_at (vs := as.map Value.ref) (out := out.toArray) hob
    obtain ⟨H', sm, hl', pp, J⟩ := items_laid2 (tk := tk) (as := as) (as' := out.map backA) I (by rw [List.length_map]; exact hz) rel kS (by omega) nd (fun b hb => Nat.le_of_lt (hG.above b hb)) (Nat.le_of_lt hlt) (fun z => absurd (hG.there z) (Nat.lt_irrefl _))
      (fun j b hj => by
        obtain ⟨x, v, t, y, e1, e2, e3⟩ := pr j b hj
        exact ⟨.str x t, Sum.inr x, y, e2, keyIs_str x t, kF _ _ (ne0 _ _ e3) (ka _ _ e3)⟩) (out := out) (n := eF) heF ho' hp'
    obtain ⟨zs, pz, ez⟩ := perm_lift (fun z : Addr × Str × V => z.1) hp' (as.zip kvs) (List.map_fst_zip (by omega))
    have idx : ∀ z ∈ zs, ∃ j : Nat, as[j]? = some z.1 ∧ kvs[j]? = some z.2 := by
      intro z' hz'
      obtain ⟨j, hj⟩ := List.mem_iff_getElem?.mp (pz.mem_iff.mp hz')
      exact ⟨j, List.getElem?_zip_eq_some.mp hj⟩
    have hperm : (zs.map (·.2)).Perm kvs := by
      have e := pz.map (·.2)
      have m2 : (as.zip kvs).map (·.2) = kvs := List.map_snd_zip (by omega)
      rw [m2] at e
      exact e
    have hnk : (zs.map (·.2.1)).Nodup := by
      have e := hperm.map (·.1)
      rw [List.map_map] at e
      exact e.nodup_iff.mpr nk
    have hsort : (zs.map (·.2.1)).Pairwise lts := by
      have o3 : (zs.map fun z => Value.ref z.1).Pairwise fun x y => BkS.ltT (keyT h2) y x = false := by
        have e : zs.map (fun z => Value.ref z.1) = out := by
          rw [ho', ← ez, List.map_map] <;> rfl
        rw [e]
        exact hs
      rw [List.pairwise_map] at o3 ⊢
      have o4 := List.pairwise_map.mp hnk
      refine List.Pairwise.imp_of_mem (fun {x y} hx hy h => ?_) (o3.and o4)
      obtain ⟨h1, h2'⟩ := h
      obtain ⟨j, j1, j2⟩ := idx x hx
      obtain ⟨i, i1, i2⟩ := idx y hy
      have e1 := (kx j x.1 x.2.1 x.2.2 j1 j2).1
      have e2 := (kx i y.1 y.2.1 y.2.2 i1 i2).1
      have h1 : decide ((keyT h2 (.ref y.1)).cps.toList < (keyT h2 (.ref x.1)).cps.toList) = false := h1
      rw [e1, e2] at h1
      have h1' : ¬ (y.2.1.cps.toList < x.2.1.cps.toList) := of_decide_eq_false h1
      exact lts_of h1' h2'
    refine ⟨.ref h'.objs.size, H', J, rfl, q H' h'.objs.size zs sm hperm hsort ?_ fun z' hz' => ?_⟩
    · rw [hl', ← ez, List.map_map] <;> rfl
    · obtain ⟨j, j1, j2⟩ := idx z' hz'
      obtain ⟨y, g1, g2⟩ := LiI.paired_get pp j1
      rw [List.getElem?_map, j2] at g1
      cases g1
      exact g2
end Bk
end
section
set_option Elab.async false
set_option linter.all false
set_option maxRecDepth 100000
set_option maxHeartbeats 4000000
/-! Several except clauses, some with a name; the def that calls what it got; defs that need to know the guards. -/
namespace Bk
open PySem PySem.Spec PyProof.Rows L2
/-- a clause: its class, the slot of its name, the suite's reading -/
abbrev Clause := Value × Option Nat × (Addr → Value → Option Addr → TS)
def wMix (K : PySem.W.Frag) (n : Nat) (Wout : WX) (D : Ends) : List Clause → WX
  | [] => Wout
  | (c, none, ts) :: r => fun cls d σ H => ∃ b, PySem.W.exmOne K cls c = some b ∧ (b = true → ∀ a, H a = none → ts a cls d D σ H) ∧ (b = false → wMix K n Wout D r cls d σ H)
  | (c, some i, ts) :: r => fun cls d σ H => ∃ b, PySem.W.exmOne K cls c = some b ∧
      (b = true → ∀ a, H a = none → σ.length = n → ts a cls d { nx := fun σ' H' => D.nx (σ'.set i none) H', rt := D.rt, bk := fun σ' H' => D.bk (σ'.set i none) H', ct := fun σ' H' => D.ct (σ'.set i none) H' } (σ.set i (some (.ref a))) H) ∧ (b = false → wMix K n Wout D r cls d σ H)
inductive MixOk (X : Cx) : List ExceptHandler → List Clause → Prop
  | nil : MixOk X [] []
  | plain {x : Str} {c : Value} {ts : Addr → Value → Option Addr → TS} {b₀ : Stmt} {suite : List Stmt} {np pos' : Pos} {hds : List ExceptHandler} {l : List Clause} (hc : Names X x c)
      (hsu : ∀ (a : Addr) (oe : Obj) (cls : Value) (d : Option Addr) (pn : List (Addr × Obj)), Zc cls d oe → (∃ vs, oe.data = .fields vs) → PSs (X.suite a ((a, oe) :: pn)) (b₀ :: suite) (ts a cls d)) (r : MixOk X hds l) :
      MixOk X (.ExceptHandler (some (.Name x np)) none (b₀ :: suite) pos' :: hds) ((c, none, ts) :: l)
  | named {x n : Str} {i : Nat} {c : Value} {ts : Addr → Value → Option Addr → TS} {b₀ : Stmt} {suite : List Stmt} {np pos' : Pos} {hds : List ExceptHandler} {l : List Clause} (hi : X.N[i]? = some n) (hln : X.env.kindOf n = some .local) (hc : Names X x c)
      (hsu : ∀ (a : Addr) (oe : Obj) (cls : Value) (d : Option Addr) (pn : List (Addr × Obj)), Zc cls d oe → (∃ vs, oe.data = .fields vs) → PSs (X.suite a ((a, oe) :: pn)) (b₀ :: suite) (ts a cls d)) (r : MixOk X hds l) :
      MixOk X (.ExceptHandler (some (.Name x np)) (some n) (b₀ :: suite) pos' :: hds) ((c, some i, ts) :: l)
section
variable {X : Cx} {body : List Stmt} {h₀ : ExceptHandler} {hds : List ExceptHandler} {l : List Clause} {pos : Pos} {tb : WX → TS} {Wout : WX}
theorem ps_try_mix (hs : X.stack = X.env :: X.outer) (hf : X.env.frame = some X.env.locals) (hN : X.N.Nodup) (tk : Takes X Wout)
    (hb : ∀ (W : WX) (pn : List (Addr × Obj)) (xe : Value → Shared → Prop), Takes (X.tr pn xe) W → PassesOwn (model X.prog X.w) X.A X.env xe → PSs (X.tr pn xe) body (tb W))
    (hh : MixOk X (h₀ :: hds) l) : PS X (.Try body (h₀ :: hds) [] [] pos) (fun D σ H => tb (wMix X.K X.N.length Wout D l) D σ H) := by
  refine ⟨fun pins s σ H D I h => ?_⟩
  have ok := I.ok
  have hfr : X.A.frames = some (X.env :: X.outer) := by rw [ok.frames, hs]
  refine wpAny_Try_except ?_
  refine wpAny_mono ((hb (wMix X.K X.N.length Wout D l) (X.pn ++ pins) (fun e s₁ => wpAny (model X.prog X.w) X.A (noteFrame e X.env) (fun _ s₂ => wpAny (model X.prog X.w) X.A (setFlight e none) (fun _ s₃ =>
    wpAny (model X.prog X.w) X.A (handleBy e X.env (h₀ :: hds)) (SP X pins D) X.xe s₃) X.xe s₂) X.xe s₁) (fun u s' xx => ?_) PassesOwn.looking).run [] s σ H D (I.toTry _) h) (fun f s1 hsp => ?_) (fun e s1 he => he)
  · -- the catch
    obtain ⟨a, B, sI, pins', σ', H', cls, d, rfl, J', nb, up, sky, na, os, ag, w⟩ := xx
    have J : Inv X pins σ' H' sI := J'.ofTry ok
    have sky' : Sky B (X.env :: X.outer) a (Zc cls d) X.env.locals s'.heap := by rw [← hs]; exact sky
    show wpAny (model X.prog X.w) X.A (noteFrame (.ref a) X.env) _ _ _
    refine Sky.land Zc.steady hfr hf sky' fun h3 fl3 up3 => ?_
    have J3 : Inv X pins σ' H' { s' with heap := h3 } := J.landed nb fl3.1 (up.trans up3) os ag
    obtain ⟨oe3, vs3, he3, hz3, hd3⟩ := fl3.there
    have notFr : ∀ {h : Heap} {o : Obj} {vs : Array Value}, h.FunFrames B (X.env :: X.outer) → h.get? a = some o → o.data = .fields vs → a ∉ frs (X.env :: X.outer) := fun {h o vs} ff e dd hm => by
      obtain ⟨_, o', e', hnf⟩ := ff.mem hm
      rw [e] at e'; cases e'
      exact hnf _ dd
    have nfr := notFr fl3.2.2.1 he3 hd3
    have nL : a ≠ X.env.locals := fun z => nfr (List.mem_filterMap.mpr ⟨X.env, List.mem_cons_self, by rw [hf, z]⟩)
    have nF : a ∉ X.fs := fun hm => by
      obtain ⟨e, he, q⟩ := List.mem_filterMap.mp hm
      exact nfr (List.mem_filterMap.mpr ⟨e, List.mem_cons_of_mem _ he, q⟩)
    have S3 := J3.suite he3 hd3 na nL nF
    have LT : PySem.W.Looks (model X.prog X.w) h3 (typeOf (.ref a)) cls := fun A Q E s k q => wpAny_typeOf_ref (k _ _ he3) (by rw [hz3.1]; exact q)
    have go : ∀ {hds' : List ExceptHandler} {l' : List Clause}, MixOk X hds' l' → wMix X.K X.N.length Wout D l' cls d σ' H' →
        wpAny (model X.prog X.w) X.A (handleBy (.ref a) X.env hds') (SP X pins D) X.xe { s' with heap := h3 } := by
      intro hds' l' hk
      induction hk with
      | nil =>
        intro w
        refine wpAny_handleBy_nil ?_
        obtain ⟨k1, k2, k3, oe, vs, T, oT, ts', he, hz, hd, h1, hr⟩ := id fl3
        unfold PySem.passOn
        refine wpAny_bind (wpAny_field he hd h1 ?_)
        rw [if_neg (show ¬ ((Value.ref T == Value.none) = true) from by simp)]
        have fin : wpAny (model X.prog X.w) X.A (setFlight (.ref a) X.env.frame) (fun _ s4 => wpAny (model X.prog X.w) X.A (throw (.ref a) : Sem Flow) (SP X pins D) X.xe s4) X.xe { s' with heap := h3 } := by
          rw [hf]
          refine HandSPX.setFlight_upZ fl3 fun h4 hh4 up4 => wpAny_throw (tk _ _ ?_)
          exact ⟨a, B, sI, pins, σ', H', cls, d, rfl, J, nb, (up.trans up3).trans up4, .inr (.inr (by rw [hs]; exact hh4)), na, os, ag, w⟩
        first
          | exact wpAny_bind (wpAny_pure (wpAny_bind fin))
          | exact wpAny_bind fin
      | @plain x c ts b₀ suite np pos' hds2 l2 hc hsu r ih =>
        intro w
        obtain ⟨b, hb1, hyes, hno⟩ := w
        refine wpAny_handleBy_cons (codeAny_handlers_test ?_) (by intro q; cases q)
        have LM := PySem.W.exm_one (M := model X.prog X.w) (J3.kIn) LT hb1
        have test : ∀ {Q : Value → Shared → Prop} {E : Value → Shared → Prop}, Q c { s' with heap := h3 } → wpAny (model X.prog X.w) (X.A.mark (some (.ref a))) (eval (.Name x np) X.env) Q E { s' with heap := h3 } := fun {Q E} q => by
          obtain ⟨hg, hdbg, hm | ⟨hm, hv, hnn⟩⟩ := hc
          · exact ld_glob (X := X.suite a ((a, oe3) :: (X.pn ++ pins))) S3 hg hm q hdbg
          · exact ld_blt (X := X.suite a ((a, oe3) :: (X.pn ++ pins))) S3 hg hm hv q hnn hdbg
        refine test (LM.here ?_)
        cases b with
        | true =>
          refine codeAny_handlers_suite ?_
          refine HandSPX.lands_againZ fl3 fun h4 fl4 up4 => ?_
          have J4 : Inv X pins σ' H' { s' with heap := h4 } := J.landed nb fl4.1 ((up.trans up3).trans up4) os ag
          obtain ⟨oe4, vs4, he4, hz4, hd4⟩ := fl4.there
          have S4 := J4.suite he4 hd4 na nL nF
          refine wpAny_mono ((hsu a oe4 cls d (X.pn ++ pins) hz4 ⟨_, hd4⟩).run [] _ _ H' _ S4 (hyes rfl a na)) (fun f s6 hsp => ?_) (fun _ _ z => False.elim z)
          cases f with
          | next =>
            obtain ⟨σ6, H6, S6, q6⟩ := hsp
            exact ⟨_, _, S6.unsuite ok, q6⟩
          | brk =>
            obtain ⟨σ6, H6, S6, q6⟩ := hsp
            exact ⟨_, _, S6.unsuite ok, q6⟩
          | cont =>
            obtain ⟨σ6, H6, S6, q6⟩ := hsp
            exact ⟨_, _, S6.unsuite ok, q6⟩
          | ret u =>
            obtain ⟨v6, σ6, H6, S6, r6, q6⟩ := hsp
            exact ⟨_, _, _, S6.unsuite ok, r6, q6⟩
        | false =>
          show wpAny _ X.A (handleBy (.ref a) X.env hds2) _ _ _
          exact ih (hno rfl)
      | @named x n i c ts b₀ suite np pos' hds2 l2 hi hln hc hsu r ih =>
        intro w
        obtain ⟨b, hb1, hyes, hno⟩ := w
        have hloc : Loc X.env.scope n := .inl hln
        refine wpAny_handleBy_cons (codeAny_handlers_test ?_) (by intro q; cases q)
        have LM := PySem.W.exm_one (M := model X.prog X.w) (J3.kIn) LT hb1
        have test : ∀ {Q : Value → Shared → Prop} {E : Value → Shared → Prop}, Q c { s' with heap := h3 } → wpAny (model X.prog X.w) (X.A.mark (some (.ref a))) (eval (.Name x np) X.env) Q E { s' with heap := h3 } := fun {Q E} q => by
          obtain ⟨hg, hdbg, hm | ⟨hm, hv, hnn⟩⟩ := hc
          · exact ld_glob (X := X.suite a ((a, oe3) :: (X.pn ++ pins))) S3 hg hm q hdbg
          · exact ld_blt (X := X.suite a ((a, oe3) :: (X.pn ++ pins))) S3 hg hm hv q hnn hdbg
        refine test (LM.here ?_)
        cases b with
        | true =>
          refine codeAny_handlers_suite_as ?_
          refine HandSPX.lands_againZ fl3 fun h4 fl4 up4 => ?_
          have J4 : Inv X pins σ' H' { s' with heap := h4 } := J.landed nb fl4.1 ((up.trans up3).trans up4) os ag
          obtain ⟨oe4, vs4, he4, hz4, hd4⟩ := fl4.there
          have S4 := J4.suite he4 hd4 na nL nF
          refine store_ok (X := X.suite a ((a, oe4) :: (X.pn ++ pins))) (v := .ref a) S4 hN hi hloc rfl (fun s5 S5 => ?_) (.inr hln)
          refine wpAny_mono ((hsu a oe4 cls d (X.pn ++ pins) hz4 ⟨_, hd4⟩).run [] s5 _ H' _ S5 (hyes rfl a na J.len)) (fun f s6 hsp => ?_) (fun _ _ z => False.elim z)
          have end_ : ∀ {σ6 : L2.St} {H6 : Hp} {Q : Shared → Prop}, Inv (X.suite a ((a, oe4) :: (X.pn ++ pins))) [] σ6 H6 s6 → (∀ s7, Inv X pins (σ6.set i none) H6 s7 → Q s7) →
              wpAny (model X.prog X.w) X.A (do bindName X.env n .none; unbindBehindTheSuite X.env n pos') (fun _ s7 => Q s7) X.xe s6 := fun {σ6 H6 Q} S6 hq => gone_ok (S6.unsuite ok) hN hi hln hq
          cases f with
          | next =>
            obtain ⟨σ6, H6, S6, q6⟩ := hsp
            exact end_ S6 fun s7 J7 => ⟨_, _, J7, q6⟩
          | brk =>
            obtain ⟨σ6, H6, S6, q6⟩ := hsp
            exact end_ S6 fun s7 J7 => ⟨_, _, J7, q6⟩
          | cont =>
            obtain ⟨σ6, H6, S6, q6⟩ := hsp
            exact end_ S6 fun s7 J7 => ⟨_, _, J7, q6⟩
          | ret u =>
            obtain ⟨v6, σ6, H6, S6, r6, q6⟩ := hsp
            exact end_ S6 fun s7 J7 => ⟨_, _, _, J7, r6, q6⟩
        | false =>
          show wpAny _ X.A (handleBy (.ref a) X.env hds2) _ _ _
          exact ih (hno rfl)
    exact go hh w
  · cases f with
    | next =>
      obtain ⟨σ', H', J', q⟩ := hsp
      exact wpAny_execs_nil ⟨σ', H', J'.ofTry ok, q⟩
    | brk =>
      obtain ⟨σ', H', J', q⟩ := hsp
      exact ⟨σ', H', J'.ofTry ok, q⟩
    | cont =>
      obtain ⟨σ', H', J', q⟩ := hsp
      exact ⟨σ', H', J'.ofTry ok, q⟩
    | ret u =>
      obtain ⟨v, σ', H', J', r, q⟩ := hsp
      exact ⟨v, σ', H', J'.ofTry ok, r, q⟩
end
end Bk

namespace Bk
open PySem PySem.Spec PyProof.Rows L2 LamX
/-- what is known of the three classes of exceptions -/
structure Exms (K : PySem.W.Frag) (CB CO CU : Addr) : Prop where
  bb : PySem.W.exmOne K (.ref CB) (.ref CB) = some true
  ob : PySem.W.exmOne K (.ref CO) (.ref CB) = some false
  oo : PySem.W.exmOne K (.ref CO) (.ref CO) = some true
  ub : PySem.W.exmOne K (.ref CU) (.ref CB) = some false
  uo : PySem.W.exmOne K (.ref CU) (.ref CO) = some false
  uu : PySem.W.exmOne K (.ref CU) (.ref CU) = some true
  xf : XfC K CU
  nn : PySem.W.findIn K (.ref CU) "name" = some none
/-- what the raised exceptions are to be -/
def XMet (K : PySem.W.Frag) (CB CO CU : Addr) (Q : VK) : XK := fun cls d H' =>
  (cls = .ref CB ∧ Q (.str "book") H') ∨ (cls = .ref CO ∧ Q (.str "operation") H') ∨
    (cls = .ref CU ∧ ∃ dd v D, d = some dd ∧ H' dd = some (.xd [("name", v)]) ∧ Sh K H' v D ∧ OkD D ∧ Q (.str ("unknown " ++ D.shown)) H')
def TMet (K : PySem.W.Frag) (CB CO CU : Addr) : (XK → Hp → VK → Prop) → Hp → VK → Prop := fun tl H Q => tl (XMet K CB CO CU Q) H Q
def metN : List Str := ["_law_call", "e"]
theorem guards_deep (A : Around) (env : Env) : (A.deeper env).guards = A.guards := rfl
theorem guards_mark (A : Around) (h : Option Value) : (A.mark h).guards = A.guards := rfl
theorem Sh.upd {K : PySem.W.Frag} {H H' : Hp} {v : V} {d : PyData} (h : Sh K H v d) (s : Same H H') : Sh K H' v d := by
  have key : ∀ (v : V) (d : PyData), Dp K H v d → Dp K H' v d := fun v d h =>
    Dp.rec (motive_1 := fun v d _ => Dp K H' v d) (motive_2 := fun vs ds _ => DpAll K H' vs ds) .non .bl .int .str (fun h1 _ ih => .lst (SqL.ext h1 s) ih) (fun h1 _ ih => .tup (SqT.ext h1 s) ih) .nil (fun _ _ i1 i2 => .cons i1 i2) h
  rcases h with h | ⟨a, e, ha, hd⟩ | ⟨a, e, ha, hd⟩
  · exact .inl (key v d h)
  · exact .inr (.inl ⟨a, e, s _ _ ha, hd⟩)
  · exact .inr (.inr ⟨a, e, s _ _ ha, hd⟩)
theorem met_gives {X : Cx} {q : Str} {g CB CO CU : Addr} {cdg : Value} (hmB : X.mg "InvalidBook" = some (.ref CB)) (hmO : X.mg "InvalidOperation" = some (.ref CO)) (hmU : X.mg "UnknownName" = some (.ref CU)) (hmr : X.mg "repr" = none)
    (ex : Exms X.K CB CO CU) (hgd : X.A.guards = some []) (hr : Room 1 X.A) : GivesTo X metN "_law_met" (defScope (top 35)) g cdg (defBody (top 35)) "_law_call" q (TMet X.K CB CO CU) := by
  intro f c' s H Q tl act hc h
  have R0 : Room 0 (X.A.deeper (envOfC "_law_met" (defScope (top 35)) s.heap.objs.size g cdg)) := hr.deeper _
  refine ⟨_, pss_one (ps_try_mix (X := (cxOf C8.CX0 X.prog X.w X.K X.mg X.base metN "_law_met" (defScope (top 35)) g cdg X.A X.stack s H C8.E0).nox)
      (l := [(.ref CB, none, fun _ _ _ => tRet (tC (.str "book"))), (.ref CO, none, fun _ _ _ => tRet (tC (.str "operation"))),
        (.ref CU, some 1, fun a cls d => tRet (tOp (fun x y H Q => ∃ i j, x = .str i ∧ y = .str j ∧ i.length + j.length ≤ sizeLine ∧ Q (.str (i ++ j)) H) (tC (.str "unknown "))
          (tCB (fun xs H Q => ∃ x d, xs = [x] ∧ Sh X.K H x d ∧ OkD d ∧ Q (.str d.shown) H) (tCons (tXf a cls d CU "name" (tVar 1)) tNil))))])
      (tb := fun W D σ H => ∃ Ech : XK, (∀ cls d σ' H', Ech cls d H' → W cls d σ' H') ∧ σ[0]? = some (some (.ref f)) ∧ H c' = some (CodeO c' q) ∧ tl Ech H D.rt)
      rfl rfl (show metN.Nodup from by decide) L2.takes0 (fun W pn xe tk _ => ?_) ?_), ?_⟩
  · refine ⟨fun pins s' σ H' D I h' => ?_⟩
    obtain ⟨Ech, hW, h1, h2, h3⟩ := h'
    have hp := act W pn xe Ech ?p1 ?p2 tk hW
    have hq := pss_one (ps_ret (pos := ?p3) hp)
    exact hq.run pins s' σ H' D I ⟨h1, h2, h3⟩
  · refine .plain ⟨rfl, by decide, .inl hmB⟩ (fun a oe cls d pn _ _ => pss_one (ps_ret pe_str)) (.plain ⟨rfl, by decide, .inl hmO⟩ (fun a oe cls d pn _ _ => pss_one (ps_ret pe_str)) (.named rfl rfl ⟨rfl, by decide, .inl hmU⟩ (fun a oe cls d pn hz hf => ?_) .nil))
    refine pss_one (ps_ret (pe_op op_add_str pe_str (pe_callB (call_reprD hgd R0.units) rfl hmr (by rfl) (pa_cons (pe_xf ex.xf ex.nn hz hf (pe_var rfl ?_)) pa_nil))))
    exact .inl rfl
  · refine ⟨XMet X.K CB CO CU Q, fun cls d σ' H' w => ?_, rfl, hc, h⟩
    rcases w with ⟨rfl, w⟩ | ⟨rfl, w⟩ | ⟨rfl, dd, v, D, rfl, hd, hs, ok, w⟩
    · exact ⟨true, ex.bb, fun _ a _ => w, fun z => nomatch z⟩
    · exact ⟨false, ex.ob, (fun z => nomatch z), fun _ => ⟨true, ex.oo, fun _ a _ => w, fun z => nomatch z⟩⟩
    · refine ⟨false, ex.ub, (fun z => nomatch z), fun _ => ⟨false, ex.uo, (fun z => nomatch z), fun _ => ⟨true, ex.uu, fun _ a _ hl => ?_, fun z => nomatch z⟩⟩⟩
      refine ⟨.ref a, ?_, rfl, rfl, dd, [("name", v)], v, rfl, hd, by simp [List.lookup], v, D, rfl, hs, ok, "unknown ", D.shown, rfl, rfl, ?_, w⟩
      · have hl2 : σ'.length = 2 := hl
        rw [List.getElem?_set_self (by omega)]
      · have h1 := ok.ln
        have h2 : (Str.ofString "unknown ").length = 8 := by decide
        rw [h2, sizeLine_eq]
        omega
end Bk
end
section
set_option Elab.async false
set_option linter.all false
set_option maxRecDepth 100000
set_option maxHeartbeats 4000000
/-! Promises of defs: one that may raise; one that needs to know the guards. -/
namespace Bk
open PySem PySem.Spec PyProof.Rows L2
section
variable {P : Program} {w : World} {K : PySem.W.Frag} {mg : Str → Option Value} {base : Heap}
/-- an exception that is wished away -/
theorem passF {X : Cx} : Passes (L2.CX X.prog X.w) X L2.E0 := fun _ _ _ _ _ _ _ h => by
  obtain ⟨_, _, _, _, _, _, _, _, _, _, _, _, z⟩ := h
  exact z.elim
/-- the rule for a def that may raise -/
theorem okX {x qual : Str} {st : Stmt} {f : Addr} {fd : FuncData} {N ps : List Str} {k : Nat} {sp : Sp} (F : Fun K x qual st f fd) (S : FnScope N ps (defScope st)) (len : ∀ vs H Q E, sp vs H Q E → vs.length = ps.length)
    (hbody : ∀ (cdv : Value) (A : Around) (outer : List Env) (s : Shared) (H : Hp) (vs : List V) (Q : VK) (E : XK), Room k (A.deeper (envOfC qual (defScope st) s.heap.objs.size f cdv)) → sp vs H Q E →
      ∃ t, PSs (cxOf (L2.CX P w) P w K mg base N qual (defScope st) f cdv A outer s H E) (defBody st) t ∧ t { nx := fun _ H' => Q .non H', rt := Q } (start N vs) H) : FnOk P w K mg base (L2.CX P w) (k + 1) f fd ps sp := by
  obtain ⟨oc, od, kV, doc, pm, an, cdv, ct, osl, rfl, lk, hcd⟩ := F.ex
  exact fn_of lk hcd S len fun A outer s H vs Q E hr hsp => hbody cdv A outer s H vs Q E hr hsp
/-- what a def promises where the guards are known to be none -/
structure FnG (P : Program) (w : World) (K : PySem.W.Frag) (mg : Str → Option Value) (base : Heap) (k : Nat) (f : Addr) (fd : FuncData) (ps : List Str) (sp : Sp) : Prop where
  len : ∀ vs H Q E, sp vs H Q E → vs.length = ps.length
  run : ∀ (A : Around) (outer : List Env) (s : Shared) (H : Hp) (args : Args) (us : List Value) (vs : List V) (Q : VK) (E : XK), Room k A → A.guards = some [] → Env0 P w K mg base A outer s H → BindsTo s fd args (ps.zip us) → Vals vs us → sp vs H Q E →
    codeAny (model P w) A (.call (.ref f) args) (CR L2.CX0 outer P w H s Q E) s
theorem FnG.mono {j k : Nat} {f : Addr} {fd : FuncData} {ps : List Str} {sp : Sp} (F : FnG P w K mg base j f fd ps sp) (h : j ≤ k) : FnG P w K mg base k f fd ps sp :=
  ⟨F.len, fun A outer s H args us vs Q E hr hg => F.run A outer s H args us vs Q E (hr.mono h) hg⟩
theorem okG {x qual : Str} {st : Stmt} {f : Addr} {fd : FuncData} {N ps : List Str} {k : Nat} {sp : Sp} (F : Fun K x qual st f fd) (S : FnScope N ps (defScope st)) (len : ∀ vs H Q E, sp vs H Q E → vs.length = ps.length)
    (hbody : ∀ (cdv : Value) (A : Around) (outer : List Env) (s : Shared) (H : Hp) (vs : List V) (Q : VK) (E : XK), fd.code = cdv → Room k (A.deeper (envOfC qual (defScope st) s.heap.objs.size f cdv)) → (A.deeper (envOfC qual (defScope st) s.heap.objs.size f cdv)).guards = some [] → sp vs H Q E →
      ∃ t, PSs (cxOf L2.CX0 P w K mg base N qual (defScope st) f cdv A outer s H E).nox (defBody st) t ∧ t { nx := fun _ H' => Q .non H', rt := Q } (start N vs) H) : FnG P w K mg base (k + 1) f fd ps sp := by
  obtain ⟨oc, od, kV, doc, pm, an, cdv, ct, osl, rfl, lk, hcd⟩ := F.ex
  refine ⟨len, fun A outer s H args us vs Q E hr hg e0 hb r hsp => ?_⟩
  refine LamX.run_ofS lk hcd S hr e0 hb r (len _ _ _ _ hsp) fun hr' => ?_
  obtain ⟨t, h, q⟩ := hbody cdv A outer s H vs Q E rfl hr' hg hsp
  exact ⟨t, h.nox, q⟩
end
section
variable {X : Cx} {k : Nat} {f : Addr} {fd : FuncData} {ps : List Str} {sp : Sp} {x : Str} {p pos : Pos} {e : Expr} {es : List Expr} {t : TA}
theorem run_fnG {pins : List (Addr × Obj)} {σ : L2.St} {H : Hp} {s : Shared} {Q : VK} {us : List Value} {vs : List V} (F : FnG X.prog X.w X.K X.mg X.base k f fd ps sp) (hr : Room k X.A) (hgd : X.A.guards = some []) (hb : Binds X.K fd ps [])
    (I : Inv X pins σ H s) (r : Vals vs us) (h : sp vs H Q L2.E0) : wpAny (model X.prog X.w) X.A (call (.ref f) us) (EP X pins σ Q) X.xe s := by
  have hl : us.length = ps.length := by rw [← r.length]; exact F.len _ _ _ _ h
  have b := hb s us I.kIn (by rw [List.append_nil]; exact hl)
  rw [List.append_nil] at b
  refine wpAny_call (codeAny_mono (F.run X.A X.stack s H ⟨us, []⟩ us vs Q L2.E0 hr hgd I.env0 b r h) fun r s' hq => ?_)
  cases r with
  | error e => exact False.elim hq
  | ok fl =>
    cases fl with
    | ret u => exact I.after hq
    | next => exact False.elim hq
    | brk => exact False.elim hq
    | cont => exact False.elim hq
theorem pe_callG (F : FnG X.prog X.w X.K X.mg X.base k f fd ps sp) (hr : Room k X.A) (hgd : X.A.guards = some []) (hg : Gl X x) (hm : X.mg x = some (.ref f)) (hk : PySem.W.keepIn X.K (.ref f) = true) (hb : Binds X.K fd ps [])
    (ha : PA X (e :: es) t) (hdb : (x == ("__debug__" : Str)) = false := by decide) (he : starEach (e :: es) X.env = (false, eval e X.env) :: starEach es X.env := by rfl) (hpl : (backTo pos (starEach es X.env)).any (·.1) = false := by rfl) :
    PE X (.Call (.Name x p) (e :: es) [] pos) (tCall sp [] L2.E0 t) := by
  refine ⟨fun pins s σ H Q I h => ?_⟩
  refine wpAny_Call_Name_kw (ld_glob I hg hm ?_ hdb)
  refine PySem.W.callWith_K (h₀ := X.base) I.ok.mod.kin hk (thn (ha.run pos pins s σ H _ I h) fun us s1 ⟨vs, H1, I1, r, q⟩ => ⟨I1.kIn, ?_⟩) he hpl
  have q : sp (vs ++ []) H1 Q L2.E0 := q
  rw [List.append_nil] at q
  exact run_fnG F hr hgd hb I1 r q
end
/-- a def of the text as known: its promise, where it stands, how it is bound -/
structure Kn (P : Program) (w : World) (K : PySem.W.Frag) (mg : Str → Option Value) (base : Heap) (CX : CXT) (k : Nat) (x : Str) (ps : List Str) (sp : Sp) : Prop where
  ex : ∃ f fd, FnOk P w K mg base CX k f fd ps sp ∧ mg x = some (.ref f) ∧ PySem.W.keepIn K (.ref f) = true ∧ Binds K fd ps []
structure KnG (P : Program) (w : World) (K : PySem.W.Frag) (mg : Str → Option Value) (base : Heap) (k : Nat) (x : Str) (ps : List Str) (sp : Sp) : Prop where
  ex : ∃ f fd, FnG P w K mg base k f fd ps sp ∧ mg x = some (.ref f) ∧ PySem.W.keepIn K (.ref f) = true ∧ Binds K fd ps []
section
variable {X : Cx} {CX : CXT} {k j : Nat} {ps : List Str} {sp : Sp} {E : XK} {x : Str} {p pos : Pos} {e : Expr} {es : List Expr} {t : TA}
/-- a call's reading -/
def tK (sp : Sp) (E : XK) (t : TA) : TE := fun σ H Q => t σ H fun vs H1 => sp vs H1 Q E
theorem pk (F : Kn X.prog X.w X.K X.mg X.base CX j x ps sp) (hr : Room k X.A) (hj : j ≤ k) (hx : Passes CX X E) (ha : PA X (e :: es) t) (hg : Gl X x := by rfl) (hdb : (x == ("__debug__" : Str)) = false := by decide)
    (he : starEach (e :: es) X.env = (false, eval e X.env) :: starEach es X.env := by rfl) (hpl : (backTo pos (starEach es X.env)).any (·.1) = false := by rfl) :
    PE X (.Call (.Name x p) (e :: es) [] pos) (tK sp E t) := by
  obtain ⟨f, fd, F1, hm, hk, hb⟩ := F.ex
  have h := pe_call (dvs := []) (p := p) (pos := pos) (F1.mono hj) hr hg hm hk hb .nil hx ha hdb he hpl
  unfold tCall at h
  simp only [List.append_nil] at h
  exact h
theorem pkG (F : KnG X.prog X.w X.K X.mg X.base j x ps sp) (hr : Room k X.A) (hj : j ≤ k) (hgd : X.A.guards = some []) (ha : PA X (e :: es) t) (hg : Gl X x := by rfl) (hdb : (x == ("__debug__" : Str)) = false := by decide)
    (he : starEach (e :: es) X.env = (false, eval e X.env) :: starEach es X.env := by rfl) (hpl : (backTo pos (starEach es X.env)).any (·.1) = false := by rfl) :
    PE X (.Call (.Name x p) (e :: es) [] pos) (tK sp L2.E0 t) := by
  obtain ⟨f, fd, F1, hm, hk, hb⟩ := F.ex
  have h := pe_callG (p := p) (pos := pos) (F1.mono hj) hr hgd hg hm hk hb ha hdb he hpl
  unfold tCall at h
  simp only [List.append_nil] at h
  exact h
end
end Bk
end
section
set_option Elab.async false
set_option linter.all false
set_option maxRecDepth 100000
set_option maxHeartbeats 4000000
/-! Comprehensions whose steps only make objects; a dict locked while it is walked. -/
namespace Bk
open PySem PySem.Spec PyProof.Rows L2
theorem thou {n : Nat} (h : n ≤ 1000) : n < sizeLine := small1000 h
/-- what stands ahead of the i-th turn: the new list at D -/
def LcP (H1 : Hp) (D : Addr) (A : Nat → List V → Prop) (i : Nat) (H : Hp) : Prop := ∃ acc, A i acc ∧ Same H1 H ∧ H D = some (.lst acc)
/-- what the i-th turn's value is to reach -/
def LcE (H1 : Hp) (D : Addr) (A : Nat → List V → Prop) (i : Nat) : VK := fun y H4 => ∃ acc, H4 D = some (.lst acc) ∧ acc.length < sizeLine ∧ LcP H1 D A (i + 1) (upd H4 D (.lst (acc ++ [y])))
theorem lc_fin {H1 H H4 : Hp} {D : Addr} {A : Nat → List V → Prop} {i : Nat} {acc : List V} {y : V} (nD : H1 D = none) (s : Same H1 H) (e : H D = some (.lst acc)) (s' : Same H H4) (hl : acc.length ≤ 1000) (a' : A (i + 1) (acc ++ [y])) : LcE H1 D A i y H4 :=
  ⟨acc, s' _ _ e, thou hl, acc ++ [y], a', (s.trans s').chg nD, upd_same⟩
theorem lc_skip {H1 H H3 : Hp} {D : Addr} {A : Nat → List V → Prop} {i : Nat} {acc : List V} (s : Same H1 H) (e : H D = some (.lst acc)) (s' : Same H H3) (a' : A (i + 1) acc) : LcP H1 D A (i + 1) H3 := ⟨acc, a', s.trans s', s' _ _ e⟩
def DcP (H1 : Hp) (D : Addr) (A : Nat → List (Key × V) → Prop) (i : Nat) (H : Hp) : Prop := ∃ acc, A i acc ∧ Same H1 H ∧ H D = some (.dK acc)
def DcE (H1 : Hp) (D : Addr) (A : Nat → List (Key × V) → Prop) (i : Nat) (y : V) : VK := fun z H5 => ∃ kvs k, y = kV k ∧ H5 D = some (.dK kvs) ∧ kvs.length < sizeLine ∧ DcP H1 D A (i + 1) (upd H5 D (.dK (putK kvs k z)))
theorem dc_fin {H1 H H5 : Hp} {D : Addr} {A : Nat → List (Key × V) → Prop} {i : Nat} {acc : List (Key × V)} {y z : V} {k : Key} (ek : y = kV k) (nD : H1 D = none) (s : Same H1 H) (e : H D = some (.dK acc)) (s' : Same H H5) (hl : acc.length ≤ 1000) (a' : A (i + 1) (putK acc k z)) : DcE H1 D A i y z H5 :=
  ⟨acc, k, ek, s' _ _ e, thou hl, putK acc k z, a', (s.trans s').chg nD, upd_same⟩
section
variable {J : It} {n : Nat} {G : Hp → Prop} {Y : Nat → Hp → V → Hp → Prop}
/-- a list comprehension: A by the turn and what lies in the new list -/
theorem lc_same (w : Walk J n G Y) {g : TG} {tt : TT} {te : TE} {vs : List Nat} {σ : L2.St} {H1 : Hp} {D : Addr} {Qd : Hp → Prop} (A : Nat → List V → Prop) (nD : H1 D = none) (h0 : A 0 []) (hG : ∀ H, Same H1 H → G H)
    (hs : ∀ i x acc H H', i < n → A i acc → Same H1 H → H D = some (.lst acc) → Y i H x H' → g x (wipe σ vs) H' fun σ2 H2 => wipe σ2 vs = wipe σ vs ∧ tt σ2 H2 fun b H3 =>
      if b = true then te σ2 H3 (LcE H1 D A i) else LcP H1 D A (i + 1) H3)
    (hd : ∀ acc H, A n acc → Same H1 H → H D = some (.lst acc) → Qd H) :
    ∃ W : Nat → Nat → Hp → Prop, (∃ m, W 0 m (upd H1 D (.lst []))) ∧ ∀ i m H, W i m H →
      (J.stop i H ∧ Qd H) ∨ (J.go i H ∧ ∃ Nx : Hp → Prop, (∀ H', Nx H' → ∃ m', m' < m ∧ W (i + 1) m' H') ∧ ∀ x H', J.yld i H x H' → g x (wipe σ vs) H' fun σ2 H2 => wipe σ2 vs = wipe σ vs ∧ tt σ2 H2 fun b H3 =>
        if b = true then te σ2 H3 fun y H4 => ∃ acc, H4 D = some (.lst acc) ∧ acc.length < sizeLine ∧ Nx (upd H4 D (.lst (acc ++ [y]))) else Nx H3) :=
  lc_it w (LcP H1 D A) ⟨[], h0, Same.new nD, upd_same⟩ (fun i H hi ⟨acc, _, s, _⟩ => hG H s) (fun i x H H' hi ⟨acc, a, s, e⟩ y => hs i x acc H H' hi a s e y) fun H ⟨acc, a, s, e⟩ => hd acc H a s e
/-- a dict comprehension -/
theorem dc_same (w : Walk J n G Y) {g : TG} {tt : TT} {tk tv : TE} {vs : List Nat} {σ : L2.St} {H1 : Hp} {D : Addr} {Qd : Hp → Prop} (A : Nat → List (Key × V) → Prop) (nD : H1 D = none) (h0 : A 0 []) (hG : ∀ H, Same H1 H → G H)
    (hs : ∀ i x acc H H', i < n → A i acc → Same H1 H → H D = some (.dK acc) → Y i H x H' → g x (wipe σ vs) H' fun σ2 H2 => wipe σ2 vs = wipe σ vs ∧ tt σ2 H2 fun b H3 =>
      if b = true then tk σ2 H3 fun y H4 => tv σ2 H4 (DcE H1 D A i y) else DcP H1 D A (i + 1) H3)
    (hd : ∀ acc H, A n acc → Same H1 H → H D = some (.dK acc) → Qd H) :
    ∃ W : Nat → Nat → Hp → Prop, (∃ m, W 0 m (upd H1 D (.dK []))) ∧ ∀ i m H, W i m H →
      (J.stop i H ∧ Qd H) ∨ (J.go i H ∧ ∃ Nx : Hp → Prop, (∀ H', Nx H' → ∃ m', m' < m ∧ W (i + 1) m' H') ∧ ∀ x H', J.yld i H x H' → g x (wipe σ vs) H' fun σ2 H2 => wipe σ2 vs = wipe σ vs ∧ tt σ2 H2 fun b H3 =>
        if b = true then tk σ2 H3 fun y H4 => tv σ2 H4 fun z H5 => ∃ kvs k, y = kV k ∧ H5 D = some (.dK kvs) ∧ kvs.length < sizeLine ∧ Nx (upd H5 D (.dK (putK kvs k z))) else Nx H3) := by
  refine ⟨fun i m H => m = n - i ∧ i ≤ n ∧ DcP H1 D A i H, ⟨n, by simp, Nat.zero_le _, [], h0, Same.new nD, upd_same⟩, ?_⟩
  rintro i m H ⟨rfl, hi, acc, a, s, e⟩
  have q := hG H s
  by_cases hlt : i < n
  · exact .inr ⟨w.goes i H hlt q, DcP H1 D A (i + 1), fun H' p' => ⟨n - (i + 1), by omega, rfl, hlt, p'⟩, fun x H' y => hs i x acc H H' hlt a s e (w.yields i H x H' hlt q y)⟩
  · have ei : i = n := by omega
    subst ei
    exact .inl ⟨w.stops H q, hd acc H a s e⟩
end
/-! ### locked -/
theorem lock_same {H H' : Hp} {d : Addr} {od : Obj} {u : HO} (hu : H d = some u) (s : Same (upd H d (.frz od u)) H') : Same H (upd H' d u) := fun b o e => by
  by_cases hb : b = d
  · subst hb
    rw [hu] at e
    cases e
    exact upd_same
  · rw [upd_ne hb]
    exact s b o (by rw [upd_ne hb]; exact e)
theorem lock_tps {H : Hp} {d : Addr} {od : Obj} {kvs : List (Key × V)} (hu : H d = some (.dK kvs)) : Tps H (upd H d (.frz od (.dK kvs))) := fun b xs e => by
  rw [upd_ne (fun z => by rw [z, hu] at e; cases e)]
  exact e
theorem lock_rd {H : Hp} {d a : Addr} {od : Obj} {u v : HO} (hu : H d = some u) (h : H a = some v) : Rd (upd H d (.frz od u)) a v := by
  by_cases hb : a = d
  · subst hb
    rw [hu] at h
    cases h
    exact .inr ⟨od, upd_same⟩
  · exact .inl (by rw [upd_ne hb]; exact h)
theorem Rd.same {H H' : Hp} {a : Addr} {u : HO} (s : Same H H') (h : Rd H a u) : Rd H' a u := h.elim (fun h => .inl (s _ _ h)) fun ⟨o, h⟩ => .inr ⟨o, s _ _ h⟩
theorem dget_rd {H : Hp} {a : Addr} {kvs : List (Key × V)} {k : Key} {o : Option V} (h : Rd H a (.dK kvs)) (e : valV kvs k = o) : DGet H a (kV k) o := .inl ⟨kvs, k, h, rfl, e.symm⟩
end Bk
end
section
set_option Elab.async false
set_option linter.all false
set_option maxRecDepth 100000
set_option maxHeartbeats 4000000
/-! tuple(d), d a dict: its keys. -/
namespace BkT
open PySem
section
variable {prog : Program} {w : World} {A : Around} {E : Value → Shared → Prop} {s : Shared} {r : Addr}
theorem code_tuple_new_any {Q₁ : Value → Shared → Prop} {T : String} (hT : s.TypeIs (.ref r) T) (hne : (Value.type T == Value.type "tuple") = false)
    (Ac : Array Value → Prop) (hz : ∀ acc, Ac acc → acc.size ≤ sizeLine)
    (hcol : ∀ {R : List Value → Shared → Prop} {E' : Value → Shared → Prop}, (∀ (h' : Heap) (tk : Nat) (acc : Array Value), (∀ b o, s.heap.get? b = some o → h'.get? b = some o) → Ac acc → R acc.toList { s with heap := h', toks := tk }) → wpAny (model prog w) A.in1 (collect (.ref r)) R E' s)
    (h : ∀ (h' : Heap) (tk : Nat) (acc : Array Value), (∀ b o, s.heap.get? b = some o → h'.get? b = some o) → Ac acc → Q₁ (.ref h'.objs.size) { s with heap := h'.push { cls := .type "tuple", data := .seq acc }, toks := tk }) :
    codeAny (model prog w) A (.call (.builtin "tuple.__new__") ⟨[.type "tuple", .ref r], []⟩) (wants Q₁ E) s := by
  refine codeAny_of_tree ?_
  show wpAny _ A.in1 (do checkBuiltinCall "tuple.__new__" ⟨[.type "tuple", .ref r], []⟩; again (.builtin "tuple.__new__" ⟨[.type "tuple", .ref r], []⟩)) _ _ s
  refine wpAny_bind (wpAny_of_eq (F.newCall_tuple_1 _) (wpAny_pure ⟨plainId_quiet F.plain_tuple_new _, codeAny_builtin F.entry_tuple_new ?_⟩))
  rw [Around.under_plainId F.plain_tuple_new _]
  have hsub := sub_tuple_self
  have hinit := init_tuple_lookup
  have hmh := madeHere_tuple
  wp_walk using wpAny_typeOf hT, hcol
  intro h' tk acc hk ha
  show wpAny _ _ (Builtin.Tuple.tupleExact acc.toList.toArray >>= fun v => ret v) _ _ _
  unfold Builtin.Tuple.tupleExact
  refine wpAny_bind (wpAny_newObj_type ?_ (by show acc.toList.toArray.size ≤ sizeLine; simp only [Array.toArray_toList]; exact hz acc ha))
  refine wpAny_pure ?_
  have e : acc.toList.toArray = acc := by simp
  rw [e]
  exact h h' tk acc hk ha
theorem call_tuple_any {Q : Value → Shared → Prop} {T : String} (hT : s.TypeIs (.ref r) T) (hne : (Value.type T == Value.type "tuple") = false) (Ac : Array Value → Prop) (hz : ∀ acc, Ac acc → acc.size ≤ sizeLine)
    (hcol : ∀ {R : List Value → Shared → Prop} {E' : Value → Shared → Prop}, (∀ (h' : Heap) (tk : Nat) (acc : Array Value), (∀ b o, s.heap.get? b = some o → h'.get? b = some o) → Ac acc → R acc.toList { s with heap := h', toks := tk }) → wpAny (model prog w) A.in1.in1 (collect (.ref r)) R E' s)
    (h : ∀ (h' : Heap) (tk : Nat) (acc : Array Value), (∀ b o, s.heap.get? b = some o → h'.get? b = some o) → Ac acc → Q (.ref h'.objs.size) { s with heap := h'.push { cls := .type "tuple", data := .seq acc }, toks := tk }) :
    wpAny (model prog w) A (call (.type "tuple") [.ref r]) Q E s := by
  refine callType_codes (Q₁ := fun obj s₁ => s₁.TypeIs obj "tuple" ∧ Q obj s₁) F.called_tuple (F.typeCall_tuple_1 _) F.entry_object_init
    (code_tuple_new_any hT hne Ac hz hcol fun h' tk acc hk ha => ⟨⟨_, Heap.get?_push_size _ rfl, rfl⟩, h h' tk acc hk ha⟩) fun obj s₁ h₁ => ?_
  exact ⟨h₁.1, F.args_object_init_2 obj _, object_init_meets F.called_tuple.init.lookup F.called_tuple.made (by decide) prog w A.in1 _ s₁ ⟨h₁.1, rfl, h₁.2⟩⟩
end
end BkT
namespace Bk
open PySem PySem.Spec PyProof.Rows L2
theorem call_tupD {X : Cx} (hcalm : X.calm = true) : CallR X (.type "tuple") (fun xs H Q => ∃ (a : Addr) (kvs : List (Key × V)), xs = [.ref a] ∧ Rd H a (.dK kvs) ∧ ∀ p, H p = none → Q (.ref p) (upd H p (.tup (kvs.map fun kv => kV kv.1)))) := by
  intro pins s σ H xs us Q I r q
  obtain ⟨a, kvs, ex, hd, q⟩ := q
  subst ex
  obtain ⟨u, eu, rx⟩ := vals1 r
  subst eu
  cases (show u = Value.ref a from rx)
  obtain ⟨z, lo, vs, rel, dd⟩ := dk_rd I.hok hd
  obtain ⟨ep, hat⟩ := dd.dictAt
  have ek : (kvs.map fun kv => kV kv.1) = vs.map fun p => kV p.1 := by
    have e := congrArg (List.map kV) rel.keys
    rw [List.map_map, List.map_map] at e
    exact e
  have h16 : vs.length ≤ sizeLine := by rw [← rel.length]; exact z
  have hh : X.A.handled = none := I.ok.hd hcalm
  refine BkT.call_tuple_any dd.typeIs (by decide) (fun acc => ItemsOf (fun j v => ∃ k x, vs[j]? = some (k, x) ∧ (mixKind X.prog X.w).is k v = true) acc vs.length) (fun acc ha => by rw [ha.1]; exact h16)
    (fun {R E'} hR => PySem.W.kdu_collect (PySem.W.kdl_dict (knd := mixKind X.prog X.w) (kvs := vs) (ep := ep) lo) hh hat h16 fun h' tk acc hk hacc => hR h' tk acc hk hacc) fun h' tk acc hk hacc => ?_
  have hv : Vals (vs.map fun p => kV p.1) acc.toList := keys_at (by rw [Array.length_toList]; exact hacc.1) fun j v e => hacc.2 j v (by rw [← Array.getElem?_toList]; exact e)
  have I1 : Inv X pins σ H { s with heap := h', toks := tk } := I.kept hk
  refine ⟨.ref h'.objs.size, upd H h'.objs.size (.tup (kvs.map fun kv => kV kv.1)), I1.laid (t' := tk) (fun b o e => Heap.get?_push_of_some _ e) (Nat.le_refl _) ⟨by rw [List.length_map]; exact z, acc.toList, by rw [ek]; exact hv, ⟨_, Heap.get?_push_size _ rfl, rfl, 0, ?_⟩⟩, rfl, q _ (I1.hok.fresh (Nat.le_refl _))⟩
  simp
end Bk
end
section
set_option Elab.async false
set_option linter.all false
set_option maxRecDepth 100000
set_option maxHeartbeats 4000000
/-! Words: calls of built-ins by name; sorted texts. -/
namespace Bk
open PySem PySem.Spec PyProof.Rows L2
def letS : Str := "abcdefghijklmnopqrstuvwxyz"
/-- what the top says of the names of built-ins and of the constants -/
structure Tx (K : PySem.W.Frag) (mg : Str → Option Value) : Prop where
  isi : mg "isinstance" = none
  len : mg "len" = none
  all : mg "all" = none
  any : mg "any" = none
  zip : mg "zip" = none
  srt : mg "sorted" = none
  tup : mg "tuple" = none
  dct : mg "dict" = none
  str : mg "str" = none
  int : mg "int" = none
  bool : mg "bool" = none
  lst : mg "list" = none
  rng : mg "range" = none
  max : mg "max" = none
  min : mg "min" = none
  abs : mg "abs" = none
  rpr : mg "repr" = none
  let_ : ∃ t, mg "LETTERS" = some (.str letS t)
  res : ∃ a, mg "RESERVED" = some (.ref a) ∧ ∀ H, SqT K H a (resv.map V.str)
  mL : ∃ t, mg "MAX_LETTERS" = some (.int 8 t)
  mC : ∃ t, mg "MAX_COMMANDS" = some (.int 6 t)
  mT : ∃ t, mg "MAX_TAKES" = some (.int 2 t)
  mA : ∃ t, mg "MAX_ANSWERS" = some (.int 3 t)
  fl : ∃ t, mg "FAILED" = some (.str "failed" t)
section
variable {X : Cx} {a b : Expr} {ta tb : TE} {p p1 p2 pos : Pos}
/-- isinstance(a, T), T a built-in type -/
theorem p_isi {T : String} {tn : Str} (hb : bootBuiltins tn = some (.type T)) (hm : X.mg "isinstance" = none) (hmt : X.mg tn = none) (ha : PE X a ta) (hg : Gl X "isinstance" := by rfl) (hgt : Gl X tn := by rfl) (hn : tn ≠ "__name__" := by decide) (hd : (tn == ("__debug__" : Str)) = false := by decide)
    (hs : starEach [a, .Name tn p2] X.env = (false, eval a X.env) :: starEach [.Name tn p2] X.env := by rfl) :
    PE X (.Call (.Name "isinstance" p1) [a, .Name tn p2] [] pos) (fun σ H Q => ta σ H fun x H1 => rIsi X.K [x, .ty T] H1 Q) :=
  pe_callB (p := p1) (pos := pos) call_isi hg hm boot_isinstance (pa_cons ha (pa_cons (pe_bltn (v := .ty T) (pos := p2) hgt hmt hb rfl hn hd) pa_nil) hs) (by decide) (by decide) hs
theorem p_isiC {C : Addr} {tn : Str} (hm : X.mg "isinstance" = none) (hmt : X.mg tn = some (.ref C)) (ha : PE X a ta) (hg : Gl X "isinstance" := by rfl) (hgt : Gl X tn := by rfl) (hd : (tn == ("__debug__" : Str)) = false := by decide)
    (hs : starEach [a, .Name tn p2] X.env = (false, eval a X.env) :: starEach [.Name tn p2] X.env := by rfl) :
    PE X (.Call (.Name "isinstance" p1) [a, .Name tn p2] [] pos) (fun σ H Q => ta σ H fun x H1 => rIsi X.K [x, .ref C] H1 Q) :=
  pe_callB (p := p1) (pos := pos) call_isi hg hm boot_isinstance (pa_cons ha (pa_cons (pe_glob (v := .ref C) (pos := p2) hgt hmt rfl hd) pa_nil) hs) (by decide) (by decide) hs
end
theorem isi_mk {K : PySem.W.Frag} {H : Hp} {x : V} {t : Value} {T : String} {b : Bool} {Q : VK} (ty : TyX K H x t) (k : PySem.W.kitOne K t (.type T) = some b) (q : Q (.bl b) H) : rIsi K [x, .ty T] H Q := ⟨x, .ty T, t, .type T, b, rfl, .ty T, ty, k, q⟩
theorem isi_mkC {K : PySem.W.Frag} {H : Hp} {x : V} {t : Value} {C : Addr} {b : Bool} {Q : VK} (ty : TyX K H x t) (k : PySem.W.kitOne K t (.ref C) = some b) (q : Q (.bl b) H) : rIsi K [x, .ref C] H Q := ⟨x, .ref C, t, .ref C, b, rfl, .own C, ty, k, q⟩
theorem kit_ss {K : PySem.W.Frag} : PySem.W.kitOne K (.type "str") (.type "str") = some true := kit_ty (by decide +kernel)
theorem kit_ii {K : PySem.W.Frag} : PySem.W.kitOne K (.type "int") (.type "int") = some true := kit_ty (by decide +kernel)
theorem kit_ib {K : PySem.W.Frag} : PySem.W.kitOne K (.type "int") (.type "bool") = some false := kit_ty (by decide +kernel)
theorem kit_tt {K : PySem.W.Frag} : PySem.W.kitOne K (.type "tuple") (.type "tuple") = some true := kit_ty (by decide +kernel)
theorem kit_dd {K : PySem.W.Frag} : PySem.W.kitOne K (.type "dict") (.type "dict") = some true := kit_ty (by decide +kernel)
theorem let_mem {c : Nat} (h1 : 97 ≤ c) (h2 : c ≤ 122) : c ∈ letS.cps.toList := by
  have : ∀ c, c ≤ 122 → 97 ≤ c → c ∈ letS.cps.toList := by decide
  exact this c h2 h1
theorem alls_true : ∀ n : Nat, (List.replicate n true).all id = true
  | 0 => rfl
  | n + 1 => by
    rw [List.replicate_succ, List.all_cons, alls_true n]
    rfl
theorem repl_snoc {α : Type} (n : Nat) (x : α) : List.replicate n x ++ [x] = List.replicate (n + 1) x := by
  rw [List.replicate_succ']
/-! ### sorted texts -/
/-- not falling -/
def Nf (xs : List Str) : Prop := xs.Pairwise fun x y => ¬ lts y x
theorem lts_trans {a b c : Str} (h1 : lts a b) (h2 : lts b c) : lts a c := List.lt_trans h1 h2
theorem lts_irr {a : Str} : ¬ lts a a := List.lt_irrefl _
theorem nf_trans {a b c : Str} (h1 : ¬ lts b a) (h2 : ¬ lts c b) : ¬ lts c a := fun h => by
  by_cases e : a = b
  · subst e
    exact h2 h
  · exact h2 (lts_trans h (lts_of h1 e))
theorem rising_nf : ∀ (p : Str) (xs : List Str), PyProof.Rows.risingS p xs = true → (∀ y ∈ xs, ¬ lts y p) ∧ Nf xs
  | p, [], _ => ⟨(fun _ h => by cases h), List.Pairwise.nil⟩
  | p, x :: r, h => by
    unfold PyProof.Rows.risingS at h
    rw [Bool.and_eq_true, PyProof.Rows.ltCps_eq] at h
    obtain ⟨h1, h2⟩ := h
    have h1 : ¬ lts x p := by
      unfold lts
      simpa using h1
    obtain ⟨i1, i2⟩ := rising_nf x r h2
    refine ⟨fun y hy => ?_, List.pairwise_cons.mpr ⟨i1, i2⟩⟩
    rcases List.mem_cons.mp hy with e | hy
    · rw [e]
      exact h1
    · exact nf_trans h1 (i1 y hy)
theorem sorted_nf : ∀ {xs : List Str}, PyProof.Rows.sortedS xs = true → Nf xs
  | [], _ => List.Pairwise.nil
  | x :: r, h => by
    obtain ⟨i1, i2⟩ := rising_nf x r h
    exact List.pairwise_cons.mpr ⟨i1, i2⟩
theorem nf_asc {xs : List Str} (h : Nf xs) (n : xs.Nodup) : Asc xs := List.Pairwise.imp (fun ⟨a, b⟩ => lts_of a b) (h.and n)
theorem asc_nd {xs : List Str} (h : Asc xs) : xs.Nodup := by
  refine List.Pairwise.imp (fun {a b} (h : lts a b) => ?_) h
  intro e
  subst e
  exact lts_irr h
theorem asc_nf {xs : List Str} (h : Asc xs) : Nf xs := List.Pairwise.imp (fun h g => lts_irr (lts_trans h g)) h
theorem nf_uniq : ∀ {xs ys : List Str}, Nf xs → Nf ys → xs.Perm ys → xs = ys
  | [], ys, _, _, p => (List.Perm.eq_nil p.symm).symm
  | x :: xs, [], _, _, p => absurd p.length_eq (by simp)
  | x :: xs, y :: ys, hx, hy, p => by
    obtain ⟨x1, x2⟩ := List.pairwise_cons.mp hx
    obtain ⟨y1, y2⟩ := List.pairwise_cons.mp hy
    have e : x = y := by
      rcases List.mem_cons.mp (p.mem_iff.mp List.mem_cons_self) with e | h
      · exact e
      · rcases List.mem_cons.mp (p.mem_iff.mpr List.mem_cons_self) with e | h'
        · exact e.symm
        · by_cases e : x = y
          · exact e
          · exact absurd (lts_of (y1 x h) (Ne.symm e)) (x1 y h')
    subst e
    rw [nf_uniq x2 y2 p.cons_inv]
/-! ### tests whose answer is known -/
theorem iteP {c A B : Prop} [Decidable c] (hc : c) (h : A) : if decide c = true then A else B := by
  rw [decide_eq_true hc]
  exact iteT h
theorem iteN {c A B : Prop} [Decidable c] (hc : ¬ c) (h : B) : if decide c = true then A else B := by
  rw [decide_eq_false hc]
  exact iteF h
theorem str_sz {x : Str} {n : Nat} (h : x.length ≤ n) (hn : n ≤ 100000) : x.length ≤ sizeLine := by
  rw [sizeLine_eq]
  omega
theorem yesT {σ : L2.St} {H : Hp} {Q : Bool → Hp → Prop} (h : Q true H) : tYes σ H Q := h
end Bk
end
section
set_option Elab.async false
set_option linter.all false
set_option maxRecDepth 100000
set_option maxHeartbeats 4000000
/-! Names, pairs: is_name, is_answer, is_integer, are_ascending, is_pair. -/
namespace Bk
open PySem PySem.Spec PyProof.Rows L2
section
variable {P : Program} {w : World} {K : PySem.W.Frag} {mg : Str → Option Value} {base : Heap}
/-- a test that gives True, objects made -/
abbrev spYes (C : List V → Hp → Prop) : Sp := fun vs H Q _ => C vs H ∧ ∀ H', Same H H' → Q (.bl true) H'
abbrev spName : Sp := spYes fun vs _ => ∃ x, vs = [.str x] ∧ nameB x = true
theorem sc4 : FnScope ["value", "sign"] ["value"] (defScope (top 4)) := ⟨rfl, rfl, rfl, by decide +kernel, rfl, by decide +kernel, by decide +kernel⟩
theorem ok_is_name {f : Addr} {fd : FuncData} (F : Fun K "is_name" "is_name" (top 4) f fd) (T : Tx K mg) : FnOk P w K mg base L2.CX0 1 f fd ["value"] spName := by
  refine F.ok sc4 (fun vs H Q E h => ?_) (fun cdv A outer s H vs Q E hr h => ?_)
  · obtain ⟨⟨x, rfl, _⟩, _⟩ := h
    rfl
  · obtain ⟨⟨x, rfl, hx⟩, q⟩ := h
    obtain ⟨tl, eL⟩ := T.let_
    obtain ⟨tm, eM⟩ := T.mL
    obtain ⟨l1, l8⟩ := name_len hx
    refine ⟨_, pss_cons (ps_if (pw_or (pt_not (pt_val (p_isi PyProof.Rows.boot_str T.isi T.str (pv 0))))
        (pw_or1 (pt_not (pt_chain op_le op_le pe_int (pe_callB call_len (by rfl) T.len PySem.boot_len (pa_cons (pv 0) pa_nil)) (pe_glob (v := .int 8) (by rfl) eM ⟨_, rfl⟩))))).pt (pss_one (ps_ret pe_bl)) pss_nil)
      (pss_one (ps_ret (pe_callB (cr_all rfl) (by rfl) T.all boot_all (pa_cons (pe_lc rfl sc4.nd (pi_str (pv 0)) (blkOk_by (own := [("sign", 1)]) (by rfl)) (fun _ _ _ _ _ => pg_name (i := 1) sc4.nd rfl (.inl rfl)) (fun _ _ _ _ _ => pts_nil)
        (fun _ _ _ _ _ => pe_cmpR op_inS (pv 1) (pe_glob (v := .str letS) (by rfl) eL ⟨_, rfl⟩) (by with_unfolding_all rfl))) pa_nil)))), ?_⟩
    refine ⟨.str x, rfl, isi_mk (.base (.str x)) kit_ss ⟨true, rfl, ?_⟩⟩
    refine iteF ?_
    refine ⟨.str x, rfl, .str x, x.length, rfl, ⟨str_sz l8 (by omega), rfl⟩, 1, x.length, rfl, rfl, _, rfl, iteP (by omega) ?_⟩
    refine ⟨x.length, 8, rfl, rfl, _, rfl, iteNS (by omega) ?_⟩
    refine ⟨.str x, rfl, x, rfl, fun D nD => lc_same walk_str (fun i acc => acc = (List.replicate i true).map V.bl) nD rfl (fun _ _ => True.intro) (fun i v acc H1 H2 hi ha s1 eD hy => ?_) fun acc H1 ha s1 eD => ?_⟩
    · obtain ⟨rfl, c, hc, rfl⟩ := hy
      refine ⟨rfl, yesT (iteT ?_)⟩
      have hm : c ∈ x.cps.toList := by
        rw [Array.mem_toList_iff]
        exact Array.mem_of_getElem? hc
      obtain ⟨c1, c2⟩ := name_cps hx c hm
      refine ⟨.str ⟨#[c]⟩, rfl, c, letS, rfl, rfl, lc_fin nD s1 eD (Same.refl _) ?_ ?_⟩
      · rw [ha, List.length_map, List.length_replicate]
        have : x.cps.size = x.length := rfl
        omega
      · rw [ha, decide_eq_true (let_mem c1 c2), ← repl_snoc, List.map_append]
        rfl
    · refine ⟨D, List.replicate x.cps.size true, rfl, .of (by rw [eD, ha]), ?_⟩
      rw [alls_true]
      exact q H1 s1
end
end Bk
end
section
set_option Elab.async false
set_option linter.all false
set_option maxRecDepth 100000
set_option maxHeartbeats 4000000
/-! is_answer, is_integer, are_ascending. -/
namespace Bk
open PySem PySem.Spec PyProof.Rows L2
/-- zip of two tuples -/
theorem walk_zipT {K : PySem.W.Frag} {a b : Addr} {xs ys : List V} {n : Nat} (hn : n = min xs.length ys.length) : Walk (RZ.ItzT K a b) n (fun H => SqT K H a xs ∧ SqT K H b ys) (YPair (fun i => xs[i]?) (fun i => ys[i]?)) := by
  subst hn
  refine ⟨fun i _ hi q => ?_, fun _ q => ⟨xs, ys, q.1, q.2, by omega⟩, fun i H v H' _ q y => ?_⟩
  · have h1 : i < xs.length := by omega
    have h2 : i < ys.length := by omega
    exact ⟨xs, ys, xs[i], ys[i], q.1, q.2, by simp [h1], by simp [h2]⟩
  · obtain ⟨T, x, z, h1, h2, h3, h4, h5⟩ := y
    exact ⟨T, x, z, h1, h2, h3, h4 xs q.1, h5 ys q.2⟩
theorem kit_ti {K : PySem.W.Frag} : PySem.W.kitOne K (.type "tuple") (.type "tuple") = some true := kit_ty (by decide +kernel)
theorem at_map {α β : Type} {f : α → β} {xs : List α} {i : Nat} {y : β} (h : (xs.map f)[i]? = some y) : ∃ x, xs[i]? = some x ∧ f x = y := by
  rw [List.getElem?_map] at h
  cases e : xs[i]? with
  | none =>
    rw [e] at h
    cases h
  | some x =>
    rw [e] at h
    exact ⟨x, rfl, Option.some.inj h⟩
/-- x, y = .. -/
theorem pg_two {X : Cx} {K : PySem.W.Frag} {i j k : Nat} {x y : Str} {p q pos : Pos} (hK : X.K = K) (hN : X.N.Nodup) (hi : X.N[i]? = some x) (hj : X.N[j]? = some y) (hx : Loc X.env.scope x) (hy : Loc X.env.scope y) (hc : X.calm = true)
    (fx : X.fn x = true ∨ X.env.scope.names.lookup x = some .local := by first | exact .inl rfl | exact .inr rfl) (fy : X.fn y = true ∨ X.env.scope.names.lookup y = some .local := by first | exact .inl rfl | exact .inr rfl) :
    PG X (.Tuple [.Name x p, .Name y q] k pos) (gTup K 2 (gCons (gName i) (gCons (gName j) gNil))) := by
  subst hK
  exact pg_tup hc (pgs_cons (pg_name hN hi hx fx) (pgs_cons (pg_name hN hj hy fy) pgs_nil))
/-- a promise without exceptions, called from anywhere -/
theorem pk0 {X : Cx} {k j : Nat} {ps : List Str} {sp : Sp} {x : Str} {p pos : Pos} {e : Expr} {es : List Expr} {t : TA} (F : Kn X.prog X.w X.K X.mg X.base L2.CX0 j x ps sp) (hr : Room k X.A) (hj : j ≤ k) (ha : PA X (e :: es) t) (hg : Gl X x := by rfl) (hdb : (x == ("__debug__" : Str)) = false := by decide)
    (he : starEach (e :: es) X.env = (false, eval e X.env) :: starEach es X.env := by rfl) (hpl : (backTo pos (starEach es X.env)).any (·.1) = false := by rfl) :
    PE X (.Call (.Name x p) (e :: es) [] pos) (tK sp L2.E0 t) := pk F hr hj pass0 ha hg hdb he hpl
section
variable {P : Program} {w : World} {K : PySem.W.Frag} {mg : Str → Option Value} {base : Heap}
theorem inV_str {x : Str} {xs : List Str} (h : x ∉ xs) : inV (.str x) (xs.map V.str) = false := by
  unfold inV
  rw [List.any_eq_false]
  intro y hy
  obtain ⟨z, hz, rfl⟩ := List.mem_map.mp hy
  show ¬ ((z == x) = true)
  intro e
  exact h (by rw [← eq_of_beq e]; exact hz)
theorem flats (xs : List Str) : (xs.map V.str).all flatV = true := by
  rw [List.all_eq_true]
  intro y hy
  obtain ⟨z, hz, rfl⟩ := List.mem_map.mp hy
  rfl
abbrev spAnswer : Sp := spYes fun vs _ => ∃ x, vs = [.str x] ∧ Ans x
theorem sc5 : FnScope ["value"] ["value"] (defScope (top 5)) := ⟨rfl, rfl, rfl, by decide +kernel, rfl, by decide +kernel, by decide +kernel⟩
theorem ok_is_answer {f : Addr} {fd : FuncData} (F : Fun K "is_answer" "is_answer" (top 5) f fd) (T : Tx K mg) (N4 : Kn P w K mg base L2.CX0 1 "is_name" ["value"] spName) : FnOk P w K mg base L2.CX0 2 f fd ["value"] spAnswer := by
  refine F.ok sc5 (fun vs H Q E h => ?_) (fun cdv A outer s H vs Q E hr h => ?_)
  · obtain ⟨⟨x, rfl, _⟩, _⟩ := h
    rfl
  · obtain ⟨⟨x, rfl, hx⟩, q⟩ := h
    obtain ⟨ra, eR, hR⟩ := T.res
    refine ⟨_, pss_one (ps_ret (pe_and (pk0 N4 hr (Nat.le_refl _) (pa_cons (pv 0) pa_nil)) (pe_one (pe_cmpR op_notIn_seq (pv 0) (pe_glob (v := .ref ra) (by rfl) eR rfl) (by with_unfolding_all rfl))))), ?_⟩
    refine ⟨.str x, rfl, ⟨x, rfl, hx.nm⟩, fun H1 s1 => ⟨true, rfl, iteT ?_⟩⟩
    refine ⟨.str x, rfl, ra, resv.map V.str, rfl, .inr (hR H1), rfl, flats _, ?_⟩
    rw [inV_str hx.nr]
    exact q H1 s1
abbrev spInteger : Sp := spYes fun vs _ => ∃ i : Int, vs = [.int i]
theorem sc6 : FnScope ["value"] ["value"] (defScope (top 6)) := ⟨rfl, rfl, rfl, by decide +kernel, rfl, by decide +kernel, by decide +kernel⟩
theorem ok_is_integer {f : Addr} {fd : FuncData} (F : Fun K "is_integer" "is_integer" (top 6) f fd) (T : Tx K mg) : FnOk P w K mg base L2.CX0 1 f fd ["value"] spInteger := by
  refine F.ok sc6 (fun vs H Q E h => ?_) (fun cdv A outer s H vs Q E hr h => ?_)
  · obtain ⟨⟨x, rfl⟩, _⟩ := h
    rfl
  · obtain ⟨⟨x, rfl⟩, q⟩ := h
    refine ⟨_, pss_one (ps_ret (pe_and (p_isi PyProof.Rows.boot_int T.isi T.int (pv 0)) (pe_one (pe_not (p_isi PyProof.Rows.boot_bool T.isi T.bool (pv 0)))))), ?_⟩
    refine ⟨.int x, rfl, isi_mk (.base (.int x)) kit_ii ⟨true, rfl, iteT ?_⟩⟩
    exact ⟨.int x, rfl, isi_mk (.base (.int x)) kit_ib ⟨false, rfl, q H (Same.refl _)⟩⟩
theorem cut1 (xs : List Str) (h : 1 ≤ xs.length) : cutV (xs.map V.str) (some 1) none = (xs.drop 1).map V.str := by
  unfold cutV
  have e1 : HT.sIx (xs.map V.str).length 0 (some 1) = 1 := by
    rw [show (1 : Int) = ((1 : Nat) : Int) from rfl, HT.sIx_nat, List.length_map]
    omega
  rw [e1, HT.sIx_none, ← List.map_drop, ← List.map_take]
  rw [List.take_of_length_le (by rw [List.length_drop, List.length_map]; exact Nat.le_refl _)]
abbrev spAsc : Sp := spYes fun vs H => ∃ a xs, vs = [.ref a] ∧ H a = some (.tup (xs.map V.str)) ∧ 1 ≤ xs.length ∧ xs.length ≤ 1000 ∧ Asc xs
theorem sc7 : FnScope ["items", "one", "other"] ["items"] (defScope (top 7)) := ⟨rfl, rfl, rfl, by decide +kernel, rfl, by decide +kernel, by decide +kernel⟩
theorem ok_are_asc {f : Addr} {fd : FuncData} (F : Fun K "are_ascending" "are_ascending" (top 7) f fd) (T : Tx K mg) : FnOk P w K mg base L2.CX0 1 f fd ["items"] spAsc := by
  refine F.ok sc7 (fun vs H Q E h => ?_) (fun cdv A outer s H vs Q E hr h => ?_)
  · obtain ⟨⟨a, xs, rfl, _⟩, _⟩ := h
    rfl
  · obtain ⟨⟨a, xs, rfl, ha, l1, l2, hs⟩, q⟩ := h
    refine ⟨_, pss_one (ps_ret (pe_callB (cr_all rfl) (by rfl) T.all boot_all (pa_cons (pe_lc rfl sc7.nd (RZ.pi_zipA (by rfl) T.zip (pa_cons (pv 0) (pa_cons (pe_slice sl_tup (pv 0) (po_some pe_int) po_none) pa_nil))) (blkOk_by (own := [("one", 1), ("other", 2)]) (by rfl))
      (fun _ _ _ _ _ => pg_two (K := K) (i := 1) (j := 2) rfl sc7.nd rfl rfl (.inl rfl) (.inl rfl) rfl (.inr rfl) (.inr rfl))
      (fun _ _ _ _ _ => pts_nil) (fun _ _ _ _ _ => pe_cmpR op_lt_str (pv 1) (pv 2) (by with_unfolding_all rfl))) pa_nil))), ?_⟩
    refine ⟨.ref a, rfl, .ref a, rfl, 1, rfl, a, xs.map V.str, rfl, .inl (.inl ha), ?_, fun p np => ?_⟩
    · rw [show (1 : Int) = ((1 : Nat) : Int) from rfl, HT.sIx_nat, List.length_map]
      omega
    rw [cut1 xs l1]
    have s0 : Same H (upd H p (.tup ((xs.drop 1).map V.str))) := Same.new np
    refine ⟨a, p, xs.map V.str, (xs.drop 1).map V.str, rfl, .inr ⟨.inl (.inl (s0 _ _ ha)), .inl (.inl upd_same), fun D nD => ?_⟩⟩
    refine lc_same (walk_zipT (n := xs.length - 1) (by rw [List.length_map, List.length_map, List.length_drop]; omega)) (fun i acc => acc = (List.replicate i true).map V.bl) nD rfl (fun H1 s1 => ⟨.inl (.inl (s1 _ _ (s0 _ _ ha))), .inl (.inl (s1 _ _ upd_same))⟩) (fun i v acc H1 H2 hi ea s1 eD hy => ?_) fun acc H1 ea s1 eD => ?_
    · obtain ⟨t, x, y, rfl, nt, rfl, ex, ey⟩ := hy
      obtain ⟨x', hx', rfl⟩ := at_map ex
      obtain ⟨y', hy', rfl⟩ := at_map ey
      refine ⟨t, [.str x', .str y'], rfl, .inl (.inl upd_same), rfl, _, _, rfl, _, _, rfl, rfl, rfl, yesT (iteT ?_)⟩
      refine ⟨.str x', rfl, .str y', rfl, x', y', rfl, rfl, lc_fin nD s1 eD (Same.new nt) ?_ ?_⟩
      · rw [ea, List.length_map, List.length_replicate]
        omega
      · have hlt : lts x' y' := by
          rw [List.getElem?_drop] at hy'
          obtain ⟨g1, g2⟩ := List.getElem?_eq_some_iff.mp hx'
          obtain ⟨g3, g4⟩ := List.getElem?_eq_some_iff.mp hy'
          have := List.pairwise_iff_getElem.mp hs i (1 + i) g1 g3 (by omega)
          rw [g2, g4] at this
          exact this
        rw [ea, decide_eq_true (show x'.cps.toList < y'.cps.toList from hlt), ← repl_snoc, List.map_append]
        rfl
    · refine ⟨D, List.replicate (xs.length - 1) true, rfl, .inl (.inl (by rw [eD, ea])), ?_⟩
      rw [alls_true]
      exact q H1 (s0.trans s1)
end
end Bk
end
section
set_option Elab.async false
set_option linter.all false
set_option maxRecDepth 100000
set_option maxHeartbeats 4000000
/-! is_pair. -/
namespace Bk
open PySem PySem.Spec PyProof.Rows L2
section
variable {P : Program} {w : World} {K : PySem.W.Frag} {mg : Str → Option Value} {base : Heap}
theorem tyTup {H : Hp} {a : Addr} {xs : List V} (h : H a = some (.tup xs)) : TyX K H (.ref a) (.type "tuple") := .base (.tup h)
theorem tyDk {H : Hp} {a : Addr} {xs : List (Key × V)} (h : H a = some (.dK xs)) : TyX K H (.ref a) (.type "dict") := .base (.dK h)
theorem sqt {H : Hp} {a : Addr} {xs : List V} (h : H a = some (.tup xs)) : SqT K H a xs := .inl (.inl h)
theorem sql {H : Hp} {a : Addr} {xs : List V} (h : H a = some (.lst xs)) : SqL K H a xs := .inl (.inl h)
theorem lenT {H : Hp} {a : Addr} {xs : List V} (h : H a = some (.tup xs)) : LenV K (.ref a) H xs.length := .inr ⟨xs, sqt h, rfl⟩
theorem lenL {H : Hp} {a : Addr} {xs : List V} (h : H a = some (.lst xs)) : LenV K (.ref a) H xs.length := .inl ⟨xs, sql h, rfl⟩
abbrev spPair : Sp := spYes fun vs H => ∃ v p, vs = [v] ∧ PrAt H v p ∧ PrOk p
theorem sc18 : FnScope ["value", "takes", "answers", "answer"] ["value"] (defScope (top 18)) := ⟨rfl, rfl, rfl, by decide +kernel, rfl, by decide +kernel, by decide +kernel⟩
theorem ok_is_pair {f : Addr} {fd : FuncData} (F : Fun K "is_pair" "is_pair" (top 18) f fd) (T : Tx K mg) (N5 : Kn P w K mg base L2.CX0 2 "is_answer" ["value"] spAnswer) (N6 : Kn P w K mg base L2.CX0 1 "is_integer" ["value"] spInteger)
    (N7 : Kn P w K mg base L2.CX0 1 "are_ascending" ["items"] spAsc) : FnOk P w K mg base L2.CX0 3 f fd ["value"] spPair := by
  refine F.ok sc18 (fun vs H Q E h => ?_) (fun cdv A outer s H vs Q E hr h => ?_)
  · obtain ⟨⟨v, p, rfl, _⟩, _⟩ := h
    rfl
  · obtain ⟨⟨v, p, rfl, ⟨a, b, rfl, ha, hb⟩, hp⟩, q⟩ := h
    obtain ⟨tT, eT⟩ := T.mT
    obtain ⟨tA, eA⟩ := T.mA
    refine ⟨_, pss_cons (ps_if (pw_or (pt_not (pt_val (p_isi PyProof.Rows.boot_tuple T.isi T.tup (pv 0))))
        (pw_or1 (pt_cmpR op_ne (pe_callB call_len (by rfl) T.len PySem.boot_len (pa_cons (pv 0) pa_nil)) pe_int (by with_unfolding_all rfl)))).pt (pss_one (ps_ret pe_bl)) pss_nil)
      (pss_cons (ps_asg (pv 0) (pg_two (K := K) (i := 1) (j := 2) rfl sc18.nd rfl rfl (.inl rfl) (.inl rfl) rfl (.inr rfl) (.inr rfl)))
      (pss_cons (ps_if (pw_or (pt_not (pt_val (pk0 N6 hr (by omega) (pa_cons (pv 1) pa_nil)))) (pw_or (pt_not (pt_chain op_le op_le pe_int (pv 1) (pe_glob (v := .int 2) (by rfl) eT ⟨_, rfl⟩)))
        (pw_or1 (pt_not (pt_val (p_isi PyProof.Rows.boot_tuple T.isi T.tup (pv 2))))))).pt (pss_one (ps_ret pe_bl)) pss_nil)
      (pss_cons (ps_if (pw_or (pt_not (pt_chain op_le op_le pe_int (pe_callB call_len (by rfl) T.len PySem.boot_len (pa_cons (pv 2) pa_nil)) (pe_glob (v := .int 3) (by rfl) eA ⟨_, rfl⟩)))
        (pw_or1 (pt_not (pt_val (pe_callB (cr_all rfl) (by rfl) T.all boot_all (pa_cons (pe_lc rfl sc18.nd (pi_tup (pv 2)) (blkOk_by (own := [("answer", 3)]) (by rfl)) (fun _ _ _ _ _ => pg_name (i := 3) sc18.nd rfl (.inl rfl)) (fun _ _ _ _ _ => pts_nil)
          (fun _ _ _ _ _ => pk0 N5 hr (by omega) (pa_cons (pv 3) pa_nil))) pa_nil)))))).pt (pss_one (ps_ret pe_bl)) pss_nil)
      (pss_one (ps_ret (pk0 N7 hr (by omega) (pa_cons (pv 2) pa_nil))))))), ?_⟩
    refine ⟨.ref a, rfl, isi_mk (tyTup ha) kit_tt ⟨true, rfl, ?_⟩⟩
    refine iteF ?_
    refine ⟨.ref a, rfl, .ref a, 2, rfl, lenT ha, rfl, false, rfl, iteF ?_⟩
    refine ⟨.ref a, rfl, a, _, rfl, sqt ha, rfl, _, _, rfl, _, _, rfl, rfl, ?_⟩
    refine ⟨.int p.1, rfl, ⟨p.1, rfl⟩, fun H1 s1 => ⟨true, rfl, iteF ?_⟩⟩
    refine ⟨.int p.1, rfl, 0, p.1, rfl, rfl, _, rfl, iteP hp.t0 ⟨p.1, 2, rfl, rfl, _, rfl, iteNS hp.t2 ?_⟩⟩
    have hb1 := s1 _ _ hb
    refine ⟨.ref b, rfl, isi_mk (tyTup hb1) kit_tt ⟨true, rfl, iteF ?_⟩⟩
    have h1 := hp.l1
    have h3 := hp.l3
    refine ⟨.ref b, rfl, .ref b, _, rfl, lenT hb1, 1, _, rfl, rfl, _, rfl, iteP (by rw [List.length_map]; omega) ⟨_, 3, rfl, rfl, _, rfl, iteNS (by rw [List.length_map]; omega) ?_⟩⟩
    refine ⟨.ref b, rfl, b, rfl, ⟨_, sqt hb1⟩, fun D nD => ?_⟩
    refine lc_same (walk_tup (K := K)) (fun i acc => acc = (List.replicate i true).map V.bl) nD rfl (fun H2 s2 => sqt (s2 _ _ hb1)) (fun i v acc H2 H3 hi ea s2 eD hy => ?_) fun acc H2 ea s2 eD => ?_
    · obtain ⟨rfl, ex⟩ := hy
      obtain ⟨x, hx, rfl⟩ := at_map ex
      refine ⟨rfl, yesT (iteT ⟨.str x, rfl, ⟨x, rfl, hp.an x (List.mem_of_getElem? hx)⟩, fun H4 s4 => lc_fin nD s2 eD s4 ?_ ?_⟩)⟩
      · rw [ea, List.length_map, List.length_replicate]
        rw [List.length_map] at hi
        omega
      · rw [ea, ← repl_snoc, List.map_append]
        rfl
    · refine ⟨D, List.replicate (p.2.map V.str).length true, rfl, sql (by rw [eD, ea]), ?_⟩
      rw [alls_true]
      refine ⟨true, rfl, iteF ?_⟩
      exact ⟨.ref b, rfl, ⟨b, p.2, rfl, s2 _ _ hb1, h1, by omega, hp.asc⟩, fun H4 s4 => q H4 ((s1.trans s2).trans s4)⟩
end
end Bk
end
section
set_option Elab.async false
set_option linter.all false
set_option maxRecDepth 100000
set_option maxHeartbeats 4000000
/-! A book's data: put, merged, looked up. -/
namespace Bk
open PySem PySem.Spec PyProof.Rows L2
theorem pairedGet {α β : Type} {F : α → β → Prop} : ∀ {l₁ : List α} {l₂ : List β} {i : Nat} {a : α}, Paired F l₁ l₂ → l₁[i]? = some a → ∃ b, l₂[i]? = some b ∧ F a b
  | _, _, i, a, .nil, h => by simp at h
  | x :: xs, y :: ys, 0, a, .cons r t, h => by
    have e : x = a := by simpa using h
    subst e
    exact ⟨y, rfl, r⟩
  | x :: xs, y :: ys, i + 1, a, .cons r t, h => by
    have h : xs[i]? = some a := by simpa using h
    obtain ⟨b, h1, h2⟩ := pairedGet t h
    exact ⟨b, by simpa using h1, h2⟩
theorem pairedApp {α β : Type} {F : α → β → Prop} : ∀ {a c : List α} {b d : List β}, Paired F a b → Paired F c d → Paired F (a ++ c) (b ++ d)
  | _, _, _, _, .nil, h => h
  | _, _, _, _, .cons r t, h => .cons r (pairedApp t h)
theorem KvAt.get {H : Hp} {kvs : List (Key × V)} {bd : Bd} {i : Nat} {k : Key} {v : V} (h : KvAt H kvs bd) (e : kvs[i]? = some (k, v)) : ∃ x p, bd[i]? = some (x, p) ∧ k = Sum.inr x ∧ PrAt H v p := by
  obtain ⟨⟨x, p⟩, h1, h2, h3⟩ := pairedGet h e
  exact ⟨x, p, h1, h2, h3⟩
theorem KvAt.keys {H : Hp} : ∀ {kvs : List (Key × V)} {bd : Bd}, KvAt H kvs bd → kvs.map (·.1) = (keys bd).map Sum.inr
  | _, _, .nil => rfl
  | (k, v) :: kvs, (y, p) :: bd, .cons r t => by
    have e1 : k = Sum.inr y := r.1
    subst e1
    show Sum.inr y :: kvs.map (·.1) = Sum.inr y :: (Bk.keys bd).map Sum.inr
    rw [KvAt.keys t]
theorem KvAt.kvs {H : Hp} {kvs : List (Key × V)} {bd : Bd} (h : KvAt H kvs bd) : (kvs.map fun kv => kV kv.1) = (Bk.keys bd).map V.str := by
  have e := congrArg (List.map kV) h.keys
  rw [List.map_map, List.map_map] at e
  exact e
theorem keys_app (a b : Bd) : keys (a ++ b) = keys a ++ keys b := List.map_append
theorem lookup_none {x : Str} {bd : Bd} (h : x ∉ keys bd) : bd.lookup x = none := by
  cases e : bd.lookup x with
  | none => rfl
  | some p => exact absurd (lookup_isSome_mem.mp (by rw [e] <;> rfl)) h
theorem KvAt.none_ {H : Hp} {kvs : List (Key × V)} {bd : Bd} {x : Str} (h : KvAt H kvs bd) (hx : x ∉ Bk.keys bd) : valV kvs (Sum.inr x) = none := by
  rcases h.look x with ⟨v, p, _, e, _⟩ | ⟨e, _⟩
  · rw [lookup_none hx] at e
    cases e
  · exact e
theorem KvAt.put_new {H : Hp} {kvs : List (Key × V)} {bd : Bd} {x : Str} {v : V} {p : Pr} (h : KvAt H kvs bd) (hx : x ∉ Bk.keys bd) (hv : PrAt H v p) : KvAt H (putK kvs (Sum.inr x) v) (bd ++ [(x, p)]) := by
  rw [putK_new v (h.none_ hx)]
  exact pairedApp h (.cons ⟨rfl, hv⟩ .nil)
/-! ### put -/
def putB (bd : Bd) (x : Str) (p : Pr) : Bd := if x ∈ keys bd then bd.map (fun e => if e.1 = x then (e.1, p) else e) else bd ++ [(x, p)]
theorem any_keys {H : Hp} {x : Str} : ∀ {kvs : List (Key × V)} {bd : Bd}, KvAt H kvs bd → ((kvs.any fun kv => decide (kv.1 = Sum.inr x)) = true ↔ x ∈ keys bd)
  | _, _, .nil => by simp
  | (k, v) :: kvs, (y, p) :: bd, .cons r t => by
    have e1 : k = Sum.inr y := r.1
    subst e1
    rw [List.any_cons, Bool.or_eq_true, any_keys t]
    show _ ↔ x ∈ y :: keys bd
    rw [List.mem_cons]
    refine or_congr ?_ Iff.rfl
    rw [decide_eq_true_eq]
    exact ⟨fun h => (Sum.inr.inj h).symm, fun h => by rw [h]⟩
theorem KvAt.put_in {H : Hp} {x : Str} {v : V} {p : Pr} (hv : PrAt H v p) : ∀ {kvs : List (Key × V)} {bd : Bd}, KvAt H kvs bd → KvAt H (kvs.map fun kv => if kv.1 = Sum.inr x then (kv.1, v) else kv) (bd.map fun e => if e.1 = x then (e.1, p) else e)
  | _, _, .nil => .nil
  | (k, u) :: kvs, (y, q) :: bd, .cons r t => by
    have e1 : k = Sum.inr y := r.1
    subst e1
    refine .cons ?_ (KvAt.put_in hv t)
    show KvR H (if Sum.inr y = Sum.inr x then (Sum.inr y, v) else (Sum.inr y, u)) (if y = x then (y, p) else (y, q))
    by_cases h : y = x
    · subst h
      rw [if_pos rfl, if_pos rfl]
      exact ⟨rfl, hv⟩
    · rw [if_neg (fun z => h (Sum.inr.inj z)), if_neg h]
      exact r
theorem KvAt.put {H : Hp} {kvs : List (Key × V)} {bd : Bd} {x : Str} {v : V} {p : Pr} (h : KvAt H kvs bd) (hv : PrAt H v p) : KvAt H (putK kvs (Sum.inr x) v) (putB bd x p) := by
  unfold putK putB
  by_cases c : x ∈ Bk.keys bd
  · rw [if_pos ((any_keys h).mpr c), if_pos c]
    exact h.put_in hv
  · rw [if_neg (fun z => c ((any_keys h).mp z)), if_neg c]
    exact pairedApp h (.cons ⟨rfl, hv⟩ .nil)
theorem keys_repl (x : Str) (p : Pr) : ∀ bd : Bd, keys (bd.map fun e => if e.1 = x then (e.1, p) else e) = keys bd
  | [] => rfl
  | (y, q) :: bd => by
    show (if y = x then (y, p) else (y, q)).1 :: keys _ = y :: keys bd
    rw [keys_repl x p bd]
    by_cases h : y = x
    · rw [if_pos h]
    · rw [if_neg h]
theorem nd_putB {bd : Bd} {x : Str} {p : Pr} (n : (keys bd).Nodup) : (keys (putB bd x p)).Nodup := by
  unfold putB
  by_cases c : x ∈ keys bd
  · rw [if_pos c, keys_repl]
    exact n
  · rw [if_neg c, keys_app]
    exact nd_snoc n c
theorem keys_putB {bd : Bd} {x y : Str} {p : Pr} : y ∈ keys (putB bd x p) ↔ y = x ∨ y ∈ keys bd := by
  unfold putB
  by_cases c : x ∈ keys bd
  · rw [if_pos c, keys_repl]
    exact ⟨.inr, fun h => h.elim (fun e => by rw [e]; exact c) id⟩
  · rw [if_neg c, keys_app, List.mem_append]
    exact ⟨fun h => h.elim .inr fun h => .inl (List.mem_singleton.mp h), fun h => h.elim (fun e => .inr (List.mem_singleton.mpr e)) .inl⟩
theorem lookup_repl (x y : Str) (p : Pr) : ∀ bd : Bd, x ∈ keys bd → (bd.map fun e => if e.1 = x then (e.1, p) else e).lookup y = if y = x then some p else bd.lookup y
  | [], h => by cases h
  | (z, q) :: bd, h => by
    rw [List.map_cons]
    have tl : ∀ r : Pr, z ≠ x → (bd.map fun e => if e.1 = x then (e.1, p) else e).lookup y = if y = x then some p else bd.lookup y := fun _ n =>
      lookup_repl x y p bd ((List.mem_cons.mp h).elim (fun e => absurd e.symm n) id)
    by_cases c : z = x
    · subst c
      rw [if_pos rfl, lookup_cons', lookup_cons']
      by_cases d : z = y
      · subst d
        rw [if_pos rfl, if_pos rfl]
      · rw [if_neg d, if_neg d, if_neg (Ne.symm d)]
        by_cases m : z ∈ keys bd
        · rw [lookup_repl z y p bd m, if_neg (Ne.symm d)]
        · have : (bd.map fun e => if e.1 = z then (e.1, p) else e) = bd := by
            refine (List.map_congr_left fun e he => ?_).trans (List.map_id bd)
            rw [if_neg (fun q => m (List.mem_map.mpr ⟨e, he, q⟩))]
            rfl
          rw [this]
    · rw [if_neg c, lookup_cons', lookup_cons', tl p c]
      by_cases d : z = y
      · subst d
        rw [if_pos rfl, if_neg c, if_pos rfl]
      · rw [if_neg d, if_neg d]
theorem lookup_snoc (x y : Str) (p : Pr) : ∀ bd : Bd, x ∉ keys bd → (bd ++ [(x, p)]).lookup y = if y = x then some p else bd.lookup y
  | [], _ => by
    show List.lookup y [(x, p)] = _
    rw [lookup_cons']
    by_cases d : x = y
    · rw [if_pos d, if_pos d.symm]
    · rw [if_neg d, if_neg (Ne.symm d)]
  | (z, q) :: bd, h => by
    rw [List.cons_append, lookup_cons', lookup_cons', lookup_snoc x y p bd (fun m => h (List.mem_cons_of_mem _ m))]
    by_cases d : z = y
    · subst d
      rw [if_pos rfl, if_pos rfl, if_neg (fun e => h (by rw [← e]; exact List.mem_cons_self))]
    · rw [if_neg d, if_neg d]
theorem lookup_putB {bd : Bd} {x y : Str} {p : Pr} : (putB bd x p).lookup y = if y = x then some p else bd.lookup y := by
  unfold putB
  by_cases c : x ∈ keys bd
  · rw [if_pos c]
    exact lookup_repl x y p bd c
  · rw [if_neg c]
    exact lookup_snoc x y p bd c
theorem mem_putB {bd : Bd} {x : Str} {p : Pr} {e : Str × Pr} (h : e ∈ putB bd x p) : e = (x, p) ∨ e ∈ bd := by
  unfold putB at h
  by_cases c : x ∈ keys bd
  · rw [if_pos c] at h
    obtain ⟨a, ha, rfl⟩ := List.mem_map.mp h
    by_cases d : a.1 = x
    · rw [if_pos d, d]
      exact .inl rfl
    · rw [if_neg d]
      exact .inr ha
  · rw [if_neg c] at h
    exact (List.mem_append.mp h).elim .inr fun h => .inl (List.mem_singleton.mp h)
theorem len_putB (bd : Bd) (x : Str) (p : Pr) : (putB bd x p).length ≤ bd.length + 1 := by
  unfold putB
  split
  · rw [List.length_map]; omega
  · rw [List.length_append, List.length_cons, List.length_nil]; omega
theorem len_putB1 (bd : Bd) (x : Str) (p : Pr) : bd.length ≤ (putB bd x p).length := by
  unfold putB
  split
  · rw [List.length_map]; exact Nat.le_refl _
  · rw [List.length_append, List.length_cons, List.length_nil]; omega
theorem len_putB_in {bd : Bd} {x : Str} {p : Pr} (h : x ∈ keys bd) : (putB bd x p).length = bd.length := by
  unfold putB
  rw [if_pos h, List.length_map]
/-! ### merged -/
def mrgB (a b : Bd) : Bd := b.foldl (fun acc e => putB acc e.1 e.2) a
theorem KvAt.mrg {H : Hp} : ∀ {kb ka : List (Key × V)} {b a : Bd}, KvAt H kb b → KvAt H ka a → KvAt H (mergeK ka kb) (mrgB a b)
  | _, _, _, _, .nil, h => h
  | (k, v) :: kb, ka, (y, p) :: b, a, .cons r t, h => by
    have e1 : k = Sum.inr y := r.1
    subst e1
    exact KvAt.mrg (kb := kb) (b := b) t (h.put r.2)
theorem nd_mrgB : ∀ {b a : Bd}, (keys a).Nodup → (keys (mrgB a b)).Nodup
  | [], _, h => h
  | e :: b, a, h => nd_mrgB (b := b) (nd_putB h)
theorem lookup_mrgB (y : Str) : ∀ {b a : Bd}, (keys b).Nodup → (mrgB a b).lookup y = (b.lookup y).or (a.lookup y)
  | [], a, _ => rfl
  | (x, p) :: b, a, h => by
    obtain ⟨h1, h2⟩ := List.nodup_cons.mp (show (x :: keys b).Nodup from h)
    show (mrgB (putB a x p) b).lookup y = _
    rw [lookup_mrgB y h2, lookup_putB, lookup_cons']
    by_cases d : x = y
    · subst d
      rw [lookup_none h1, if_pos rfl, if_pos rfl]
      rfl
    · rw [if_neg (Ne.symm d), if_neg d]
theorem mem_mrgB : ∀ {b a : Bd} {e : Str × Pr}, e ∈ mrgB a b → e ∈ a ∨ e ∈ b
  | [], _, _, h => .inl h
  | (x, p) :: b, a, e, h => by
    rcases mem_mrgB (b := b) h with h | h
    · rcases mem_putB h with h | h
      · rw [h]
        exact .inr List.mem_cons_self
      · exact .inl h
    · exact .inr (List.mem_cons_of_mem _ h)
theorem keys_mrgB {y : Str} : ∀ {b a : Bd}, y ∈ keys (mrgB a b) ↔ y ∈ keys a ∨ y ∈ keys b
  | [], a => by
    show y ∈ keys a ↔ y ∈ keys a ∨ y ∈ []
    simp
  | (x, p) :: b, a => by
    show y ∈ keys (mrgB (putB a x p) b) ↔ _
    rw [keys_mrgB, keys_putB]
    show _ ↔ y ∈ keys a ∨ y ∈ x :: keys b
    rw [List.mem_cons]
    constructor
    · rintro ((h | h) | h)
      · exact .inr (.inl h)
      · exact .inl h
      · exact .inr (.inr h)
    · rintro (h | h | h)
      · exact .inl (.inr h)
      · exact .inl (.inl h)
      · exact .inr h
theorem len_mrgB : ∀ (b a : Bd), (mrgB a b).length ≤ a.length + b.length
  | [], a => Nat.le_refl _
  | (x, p) :: b, a => by
    have h1 := len_mrgB b (putB a x p)
    have h2 := len_putB a x p
    show (mrgB (putB a x p) b).length ≤ a.length + (b.length + 1)
    omega
theorem mrg_nil : ∀ {b a : Bd}, (keys (a ++ b)).Nodup → mrgB a b = a ++ b
  | [], a, _ => (List.append_nil a).symm
  | (x, p) :: b, a, h => by
    have hx : x ∉ keys a := fun m => by
      rw [keys_app] at h
      exact (List.nodup_append.mp h).2.2 x m x List.mem_cons_self rfl
    show mrgB (putB a x p) b = _
    have e : putB a x p = a ++ [(x, p)] := if_neg hx
    rw [e, mrg_nil (by rw [List.append_assoc]; exact h), List.append_assoc]
    rfl
theorem mem_lookup {bd : Bd} {e : Str × Pr} (n : (keys bd).Nodup) : e ∈ bd ↔ bd.lookup e.1 = some e.2 := ⟨fun h => lookup_of_mem' n h, fun h => mem_of_lookup' h⟩
theorem perm_of_lookup {a b : Bd} (na : (keys a).Nodup) (nb : (keys b).Nodup) (h : ∀ x, a.lookup x = b.lookup x) : a.Perm b := by
  refine (List.perm_ext_iff_of_nodup (nodup_of_keys na) (nodup_of_keys nb)).mpr fun e => ?_
  rw [mem_lookup na, mem_lookup nb, h]
theorem BdOk.perm {a b : Bd} (h : BdOk a) (p : a.Perm b) : BdOk b :=
  ⟨by rw [← p.length_eq]; exact h.l1, by rw [← p.length_eq]; exact h.l6, fun e he => h.ok e (p.mem_iff.mpr he), (keys_perm p).nodup_iff.mp h.nd⟩
theorem BdOk.s {a : Bd} (h : BdOk a) : ∀ e ∈ a, PrS e.2 := fun e he => (h.ok e he).2.s
theorem BdOk.key {a : Bd} (h : BdOk a) {x : Str} (hx : x ∈ keys a) : Ans x := by
  obtain ⟨e, he, rfl⟩ := List.mem_map.mp hx
  exact (h.ok e he).1
theorem keys_len (a : Bd) : (keys a).length = a.length := List.length_map ..
end Bk
end
section
set_option Elab.async false
set_option linter.all false
set_option maxRecDepth 100000
set_option maxHeartbeats 4000000
/-! pairs_of. -/
namespace Bk
open PySem PySem.Spec PyProof.Rows L2
section
variable {P : Program} {w : World} {K : PySem.W.Frag} {mg : Str → Option Value} {base : Heap}
theorem take_snoc {α : Type} {xs : List α} {i : Nat} {x : α} (h : xs[i]? = some x) : xs.take (i + 1) = xs.take i ++ [x] := by
  rw [List.take_succ, h]
  rfl
abbrev spPairsOf : Sp := fun vs H Q _ => ∃ d bd, vs = [.ref d] ∧ DictAt H d bd ∧ BdOk bd ∧ ∀ d' H' bd', H d' = none → Same H H' → DictAt H' d' bd' → bd'.Perm bd → Asc (keys bd') → Q (.ref d') H'
theorem sc19 : FnScope ["commands", "name"] ["commands"] (defScope (top 19)) := ⟨rfl, rfl, rfl, by decide +kernel, rfl, by decide +kernel, by decide +kernel⟩
theorem ok_pairs_of {f : Addr} {fd : FuncData} (F : Fun K "pairs_of" "pairs_of" (top 19) f fd) (T : Tx K mg) (N5 : Kn P w K mg base L2.CX0 2 "is_answer" ["value"] spAnswer) (N18 : Kn P w K mg base L2.CX0 3 "is_pair" ["value"] spPair) :
    FnOk P w K mg base L2.CX0 4 f fd ["commands"] spPairsOf := by
  refine F.ok sc19 (fun vs H Q E h => ?_) (fun cdv A outer s H vs Q E hr h => ?_)
  · obtain ⟨d, bd, rfl, _⟩ := h
    rfl
  · obtain ⟨d, bd, rfl, ⟨kvs, hd, hkv⟩, hb, q⟩ := h
    obtain ⟨tC, eC⟩ := T.mC
    refine ⟨_, pss_cons (ps_if (pw_or (pt_not (pt_val (p_isi PyProof.Rows.boot_dict T.isi T.dct (pv 0))))
        (pw_or1 (pt_not (pt_chain op_le op_le pe_int (pe_callB call_lenD (by rfl) T.len PySem.boot_len (pa_cons (pv 0) pa_nil)) (pe_glob (v := .int 6) (by rfl) eC ⟨_, rfl⟩))))).pt pss_never pss_nil)
      (pss_cons (ps_if (pt_not (pt_val (pe_callB (cr_all rfl) (by rfl) T.all boot_all (pa_cons (pe_lock (pe_lc rfl sc19.nd (pi_keys (pv 0)) (blkOk_by (own := [("name", 1)]) (by rfl)) (fun _ _ _ _ _ => pg_name (i := 1) sc19.nd rfl (.inl rfl)) (fun _ _ _ _ _ => pts_nil)
          (fun _ _ _ _ _ => pe_and (pk0 N5 hr (by omega) (pa_cons (pv 1) pa_nil)) (pe_one (pk0 N18 hr (by omega) (pa_cons (pe_dget (hu_of hr) (pv 0) (pv 1) fun _ _ => rfl) pa_nil)))))) pa_nil)))) pss_never pss_nil)
      (pss_one (ps_ret (pe_dc rfl sc19.nd (pi_list (pe_callB (call_sortedD rfl) (by rfl) T.srt boot_sorted (pa_cons (pv 0) pa_nil))) (blkOk_by (own := [("name", 1)]) (by rfl)) (fun _ _ _ _ _ => pg_name (i := 1) sc19.nd rfl (.inl rfl)) (fun _ _ _ _ _ => pts_nil)
          (fun _ _ _ _ _ => pv 1) (fun _ _ _ _ _ => pe_dget (hu_of hr) (pv 0) (pv 1) fun _ _ => rfl))))), ?_⟩
    have hl := hkv.length
    have h1 := hb.l1
    have h6 := hb.l6
    refine ⟨.ref d, rfl, isi_mk (tyDk hd) kit_dd ⟨true, rfl, iteF ?_⟩⟩
    refine ⟨.ref d, rfl, d, kvs, rfl, hd, 1, _, rfl, rfl, _, rfl, iteP (by omega) ⟨_, 6, rfl, rfl, _, rfl, iteNS (by omega) ?_⟩⟩
    refine ⟨d, _, hd, True.intro, fun od => ⟨.ref d, rfl, d, od, rfl, .inl ⟨kvs, upd_same, fun D nD => ?_⟩⟩⟩
    have t0 : Tps H (upd H d (.frz od (.dK kvs))) := lock_tps hd
    refine lc_same walk_keys (fun i acc => acc = (List.replicate i true).map V.bl) nD rfl (fun H1 s1 => s1 _ _ upd_same) (fun i v acc H1 H2 hi ea s1 eD hy => ?_) fun acc H1 ea s1 eD => ?_
    · obtain ⟨rfl, k, v, ek, rfl⟩ := hy
      obtain ⟨x, p, eb, rfl, hv⟩ := hkv.get ek
      have hm : (x, p) ∈ bd := List.mem_of_getElem? eb
      obtain ⟨hx, hp⟩ := hb.ok _ hm
      refine ⟨rfl, yesT (iteT ⟨.str x, rfl, ⟨x, rfl, hx⟩, fun H3 s3 => ⟨true, rfl, iteT ?_⟩⟩)⟩
      rcases hkv.look x with ⟨v', p', e1, e2, e3⟩ | ⟨e1, e2⟩
      · rw [lookup_of_mem' hb.nd hm] at e2
        cases e2
        refine ⟨.ref d, rfl, .str x, rfl, d, v', rfl, dget_rd (k := Sum.inr x) (.inr ⟨od, s3 _ _ (s1 _ _ upd_same)⟩) e1, ⟨v', p, rfl, e3.tps (t0.trans (s1.trans s3).tps), hp⟩, fun H4 s4 => lc_fin nD s1 eD (s3.trans s4) ?_ ?_⟩
        · rw [ea, List.length_map, List.length_replicate]
          omega
        · rw [ea, ← repl_snoc, List.map_append]
          rfl
      · rw [lookup_of_mem' hb.nd hm] at e2
        cases e2
    · refine ⟨s1 _ _ upd_same, D, List.replicate kvs.length true, rfl, sql (by rw [upd_ne (fun z => by rw [z, s1 _ _ upd_same] at eD; cases eD), eD, ea]), ?_⟩
      rw [alls_true]
      refine ⟨true, rfl, iteF ?_⟩
      have s2 : Same H (upd H1 d (.dK kvs)) := lock_same hd s1
      have h2 := s2 _ _ hd
      refine ⟨.ref d, rfl, d, kvs, keys bd, rfl, .inl h2, hkv.keys, by rw [keys_len]; omega, fun ys p py sy np => ?_⟩
      have s3 : Same H (upd (upd H1 d (.dK kvs)) p (.lst (ys.map V.str))) := s2.put np
      refine ⟨p, rfl, ⟨_, sql upd_same⟩, fun D2 nD2 => ?_⟩
      have ly : ys.length = bd.length := by rw [py.length_eq, keys_len]
      have ny : ys.Nodup := py.nodup_iff.mpr hb.nd
      refine dc_same (walk_list (K := K)) (fun i acc => ∃ bi : Bd, KvAt H acc bi ∧ keys bi = ys.take i ∧ ∀ e ∈ bi, e ∈ bd) nD2 ⟨[], .nil, rfl, fun _ h => by cases h⟩ (fun H3 s4 => sql (s4 _ _ upd_same)) (fun i v acc H3 H4 hi ea s4 eD2 hy => ?_) fun acc H3 ea s4 eD2 => ?_
      · obtain ⟨rfl, ex⟩ := hy
        obtain ⟨y, hy, rfl⟩ := at_map ex
        obtain ⟨bi, b1, b2, b3⟩ := ea
        refine ⟨rfl, yesT (iteT ⟨.str y, rfl, ?_⟩)⟩
        have hky : y ∈ keys bd := py.mem_iff.mp (List.mem_of_getElem? hy)
        rcases hkv.look y with ⟨v', p', e1, e2, e3⟩ | ⟨e1, e2⟩
        · refine ⟨.ref d, rfl, .str y, rfl, d, v', rfl, dget_rd (k := Sum.inr y) (.inl ((s3.trans s4) _ _ hd)) e1, dc_fin (k := Sum.inr y) rfl nD2 s4 eD2 (Same.refl _) ?_ ?_⟩
          · rw [b1.length]
            have := congrArg List.length b2
            rw [keys_len, List.length_take] at this
            omega
          · refine ⟨bi ++ [(y, p')], b1.put_new ?_ e3, ?_, ?_⟩
            · rw [b2]
              intro m
              obtain ⟨j, hj⟩ := List.mem_iff_getElem?.mp m
              rw [List.getElem?_take] at hj
              split at hj
              · rename_i c
                have := (List.getElem?_inj (i := j) (j := i) (by rw [List.length_map] at hi; omega) ny).mp (by rw [hj, hy])
                omega
              · cases hj
            · rw [keys_app, b2, take_snoc hy]
              rfl
            · intro e he
              rcases List.mem_append.mp he with he | he
              · exact b3 e he
              · rw [List.mem_singleton.mp he]
                exact mem_of_lookup' e2
        · exact absurd (lookup_isSome_mem.mpr hky) (by rw [e2]; simp)
      · obtain ⟨bi, b1, b2, b3⟩ := ea
        rw [List.length_map, List.take_length] at b2
        have sF : Same H H3 := s3.trans s4
        refine q D2 H3 bi (s3.free nD2) sF ⟨acc, eD2, b1.tps sF.tps⟩ ?_ ?_
        · refine perm_of_sub (nodup_of_keys (by rw [b2]; exact ny)) b3 ?_
          have := congrArg List.length b2
          rw [keys_len] at this
          omega
        · rw [b2]
          exact nf_asc (sorted_nf sy) ny
end
end Bk
end
section
set_option Elab.async false
set_option linter.all false
set_option maxRecDepth 100000
set_option maxHeartbeats 4000000
/-! What is known of the classes; is_command, outcomes_in, require_book, require_command. -/
namespace Bk
open PySem PySem.Spec PyProof.Rows L2
/-- the types of what a drawn value may be, but texts -/
def TL : List String := ["NoneType", "bool", "int", "tuple", "list", "dict"]
abbrev veT : List Value := [.type "ValueError", .type "Exception", .type "BaseException", .type "object"]
/-- what is known of the classes -/
structure Bx (K : PySem.W.Frag) (mg : Str → Option Value) (C CI CO CU fU : Addr) : Prop where
  T : Tx K mg
  cls : Cls K C
  na : NoAttr K C oF
  c1 : PySem.W.findIn K (.ref C) "__class__" = some (some (.builtin "object.__class__"))
  c2 : PySem.W.specialIn K (.builtin "object.__class__") "__get__" = some (some (.builtin "getset_descriptor.__get__"))
  c3 : PySem.W.takesIn K (.builtin "object.__class__") = some true
  c4 : PySem.W.mroIn K C (.type "object") = some true
  kB : PySem.W.kitOne K (.ref C) (.ref C) = some true
  kT : ∀ T, T ∈ "str" :: TL → PySem.W.kitOne K (.type T) (.ref C) = some false
  mB : mg "Book" = some (.ref C)
  mI : mg "InvalidBook" = some (.ref CI)
  mO : mg "InvalidOperation" = some (.ref CO)
  mU : mg "UnknownName" = some (.ref CU)
  ex : Exms K CI CO CU
  eI : PySem.W.excIn K CI veT "ValueError.__new__" = true
  eO : PySem.W.excIn K CO veT "ValueError.__new__" = true
  kI : PySem.W.keepIn K (.ref CI) = true
  kO : PySem.W.keepIn K (.ref CO) = true
  sI : PySem.W.subIn K (.ref CI) (.type "BaseException") = some true
  sO : PySem.W.subIn K (.ref CO) (.type "BaseException") = some true
  tI : PySem.W.typeIn K (.ref CI) = some (.type "type")
  tO : PySem.W.typeIn K (.ref CO) = some (.type "type")
  xU : KxC K CU
  iU : PySem.W.findIn K (.ref CU) "__init__" = some (some (.ref fU))
  fU : PySem.W.typeIn K (.ref fU) = some (.type "function")
/-- a drawn value that is no text -/
def OddN (K : PySem.W.Frag) (H : Hp) (x : V) : Prop := ∃ T, T ∈ TL ∧ TyX K H x (.type T)
/-- a drawn value -/
def OddT (K : PySem.W.Frag) (H : Hp) (x : V) : Prop := ∃ T, T ∈ "str" :: TL ∧ TyX K H x (.type T)
/-- .. and whether it is a command of bd -/
def OddV (K : PySem.W.Frag) (H : Hp) (x : V) (bd : Bd) (c : Bool) : Prop := (∃ s, x = .str s ∧ c = (bd.lookup s).isSome) ∨ (c = false ∧ OddN K H x)
theorem tyx_same {K : PySem.W.Frag} {H H' : Hp} {x : V} {t : Value} (h : TyX K H x t) (s : Same H H') : TyX K H' x t := by
  cases h with
  | base h =>
    cases h with
    | non => exact .base .non
    | bl x => exact .base (.bl x)
    | int i => exact .base (.int i)
    | str x => exact .base (.str x)
    | flt x => exact .base (.flt x)
    | lst e => exact .base (.lst (s _ _ e))
    | frz e => exact .base (.frz (s _ _ e))
    | tup e => exact .base (.tup (s _ _ e))
    | dK e => exact .base (.dK (s _ _ e))
    | dT e => exact .base (.dT (s _ _ e))
    | ins e cl ha hn htk ho => exact .base (.ins (s _ _ e) cl ha hn htk ho)
  | byt b => exact .byt b
  | set e => exact .set (s _ _ e)
  | kList e c => exact .kList e c
  | kTuple e c => exact .kTuple e c
  | kDict e c => exact .kDict e c
  | fTuple e => exact .fTuple (s _ _ e)
  | fDict e => exact .fDict (s _ _ e)
theorem OddN.same {K : PySem.W.Frag} {H H' : Hp} {x : V} (h : OddN K H x) (s : Same H H') : OddN K H' x := by
  obtain ⟨T, m, h⟩ := h
  exact ⟨T, m, tyx_same h s⟩
theorem OddT.same {K : PySem.W.Frag} {H H' : Hp} {x : V} (h : OddT K H x) (s : Same H H') : OddT K H' x := by
  obtain ⟨T, m, h⟩ := h
  exact ⟨T, m, tyx_same h s⟩
theorem OddV.same {K : PySem.W.Frag} {H H' : Hp} {x : V} {bd : Bd} {c : Bool} (h : OddV K H x bd c) (s : Same H H') : OddV K H' x bd c := by
  rcases h with h | ⟨h, g⟩
  · exact .inl h
  · exact .inr ⟨h, g.same s⟩
theorem kit_TL {K : PySem.W.Frag} {T : String} (h : T ∈ TL) : PySem.W.kitOne K (.type T) (.type "str") = some false := by
  have : ∀ T ∈ TL, kitB T "str" = some false := by decide +kernel
  exact kit_ty (this T h)
section
variable {P : Program} {w : World} {K : PySem.W.Frag} {mg : Str → Option Value} {base : Heap} {C CI CO CU fU : Addr}
theorem Bx.ty (B : Bx K mg C CI CO CU fU) {H : Hp} {b : Addr} {bd : Bd} (h : BookAt C H b bd) : TyX K H (.ref b) (.ref C) := by
  obtain ⟨dx, d, h, _⟩ := h
  exact .base (.ins h B.cls B.c1 B.c2 B.c3 B.c4)
/-! ### raise -/
theorem ps_rI {X : Cx} {W : WX} {m : Str} {j : Nat} {p p2 pos pos' : Pos} (B : Bx X.K X.mg C CI CO CU fU) (hc : X.calm = true) (tk : Takes X W) (hg : Gl X "InvalidBook") : PS X (.Raise (some (.Call (.Name "InvalidBook" p) [.Constant (.str m) j p2] [] pos)) none pos') (fun _ σ H => W (.ref CI) none σ H) :=
  ps_raise hc tk (pmk_own F.excBase_ValueError B.eI B.mI B.kI (raises_own B.sI B.tI) hg)
theorem ps_rO {X : Cx} {W : WX} {m : Str} {j : Nat} {p p2 pos pos' : Pos} (B : Bx X.K X.mg C CI CO CU fU) (hc : X.calm = true) (tk : Takes X W) (hg : Gl X "InvalidOperation") : PS X (.Raise (some (.Call (.Name "InvalidOperation" p) [.Constant (.str m) j p2] [] pos)) none pos') (fun _ σ H => W (.ref CO) none σ H) :=
  ps_raise hc tk (pmk_own F.excBase_ValueError B.eO B.mO B.kO (raises_own B.sO B.tO) hg)
/-! ### UnknownName.__init__ -/
abbrev spUI (CU : Addr) : Sp := fun vs H Q _ => ∃ a x, vs = [.ref a, x] ∧ H a = some (exo a CU none) ∧ ∀ dx, H dx = none → dx ≠ a → Q .non (upd (upd H dx (exd dx [("name", x)])) a (exo a CU (some dx)))
theorem sc12 : FnScope ["self", "name"] ["self", "name"] (defScope (inClass (top 12) 0)) := ⟨rfl, rfl, rfl, by decide +kernel, rfl, by decide +kernel, by decide +kernel⟩
theorem ok_uinit {f : Addr} {fd : FuncData} (B : Bx K mg C CI CO CU fU) (F : Fun K "__init__" "UnknownName.__init__" (inClass (top 12) 0) f fd) : FnOk P w K mg base L2.CX0 1 f fd ["self", "name"] (spUI CU) := by
  refine F.ok sc12 (fun vs H Q E h => ?_) (fun cdv A outer s H vs Q E hr h => ?_)
  · obtain ⟨a, x, rfl, _⟩ := h
    rfl
  · obtain ⟨a, x, rfl, ha, q⟩ := h
    refine ⟨_, pss_one (ps_kst (pv 0) (pv 1)), ?_⟩
    exact ⟨x, rfl, .ref a, rfl, a, CU, rfl, B.xU, B.ex.nn, ha, q⟩
/-! ### is_command -/
abbrev spIsCmd (K : PySem.W.Frag) (C : Addr) : Sp := fun vs H Q _ => ∃ b bd x c, vs = [.ref b, x] ∧ BookAt C H b bd ∧ OddV K H x bd c ∧ ∀ H', Same H H' → Q (.bl c) H'
theorem sc21 : FnScope ["book", "value"] ["book", "value"] (defScope (top 21)) := ⟨rfl, rfl, rfl, by decide +kernel, rfl, by decide +kernel, by decide +kernel⟩
theorem ok_is_cmd {f : Addr} {fd : FuncData} (B : Bx K mg C CI CO CU fU) (F : Fun K "is_command" "is_command" (top 21) f fd) : FnOk P w K mg base L2.CX0 1 f fd ["book", "value"] (spIsCmd K C) := by
  refine F.ok sc21 (fun vs H Q E h => ?_) (fun cdv A outer s H vs Q E hr h => ?_)
  · obtain ⟨b, bd, x, c, rfl, _⟩ := h
    rfl
  · obtain ⟨b, bd, x, c, rfl, ⟨dx, d, hb, kvs, hd, hkv⟩, ho, q⟩ := h
    refine ⟨_, pss_one (ps_ret (pe_and (p_isi PyProof.Rows.boot_str B.T.isi B.T.str (pv 1)) (pe_one (pe_cmp (pc_din (hu_of hr) (pv 1) (pe_fld (pv 0) rfl)))))), ?_⟩
    refine ⟨x, rfl, ?_⟩
    rcases ho with ⟨z, rfl, rfl⟩ | ⟨rfl, T, hT, ty⟩
    · refine isi_mk (.base (.str z)) kit_ss ⟨true, rfl, iteT ?_⟩
      refine ⟨.str z, rfl, .ref b, rfl, b, C, dx, _, .ref d, rfl, hb, B.cls, B.na, rfl, d, valV kvs (Sum.inr z), rfl, .inl ⟨kvs, Sum.inr z, .inl hd, rfl, rfl⟩, ?_⟩
      rcases hkv.look z with ⟨v, p, e1, e2, _⟩ | ⟨e1, e2⟩
      · rw [e1]
        rw [e2] at q
        exact q H (Same.refl _)
      · rw [e1]
        rw [e2] at q
        exact q H (Same.refl _)
    · exact isi_mk ty (kit_TL hT) ⟨false, rfl, iteF (q H (Same.refl _))⟩
/-! ### outcomes_in -/
abbrev spOutc (C : Addr) : Sp := fun vs H Q _ => ∃ b bd x p, vs = [.ref b, .str x] ∧ BookAt C H b bd ∧ bd.lookup x = some p ∧ PrOk p ∧ ∀ t H' os, Same H H' → H' t = some (.tup (os.map V.str)) → os.Perm ("failed" :: p.2) → Nf os → Q (.ref t) H'
theorem sc22 : FnScope ["book", "command"] ["book", "command"] (defScope (top 22)) := ⟨rfl, rfl, rfl, by decide +kernel, rfl, by decide +kernel, by decide +kernel⟩
theorem ok_outc {f : Addr} {fd : FuncData} (B : Bx K mg C CI CO CU fU) (F : Fun K "outcomes_in" "outcomes_in" (top 22) f fd) : FnOk P w K mg base L2.CX0 1 f fd ["book", "command"] (spOutc C) := by
  refine F.ok sc22 (fun vs H Q E h => ?_) (fun cdv A outer s H vs Q E hr h => ?_)
  · obtain ⟨b, bd, x, p, rfl, _⟩ := h
    rfl
  · obtain ⟨b, bd, x, p, rfl, ⟨dx, d, hb, kvs, hd, hkv⟩, hx, hp, q⟩ := h
    obtain ⟨tF, eF⟩ := B.T.fl
    refine ⟨_, pss_one (ps_ret (pe_callTy call_tuple_of (by rfl) B.T.tup PyProof.Rows.boot_tuple (pa_cons (pe_callB cr_sortedS (by rfl) B.T.srt boot_sorted (pa_cons (pe_lst (pa_cons (pe_glob (v := .str "failed") (by rfl) eF ⟨_, rfl⟩)
      (StX.pa_star (pe_ix ix_tup (pe_dget (hu_of hr) (pe_fld (pv 0) rfl) (pv 1) fun _ _ => rfl) pe_int fun _ _ => rfl) pa_nil))) pa_nil)) pa_nil))), ?_⟩
    rcases hkv.look x with ⟨v, p', e1, e2, a, b2, rfl, h1, h2⟩ | ⟨e1, e2⟩
    · rw [hx] at e2
      cases e2
      have h3 := hp.l3
      refine ⟨.ref b, rfl, b, C, dx, _, .ref d, rfl, hb, B.cls, B.na, rfl, .str x, rfl, d, .ref a, rfl, dget_rd (k := Sum.inr x) (.inl hd) e1, ?_⟩
      refine ⟨a, _, 1, .ref b2, rfl, rfl, sqt h1, rfl, b2, _, rfl, .inl (sqt h2), ?_⟩
      refine ⟨by show (V.str "failed" :: (p.2.map V.str ++ [])).length ≤ _; rw [List.append_nil, List.length_cons, List.length_map, sizeLine_eq]; omega, fun l nl => ?_⟩
      refine ⟨l, "failed" :: p.2, rfl, ?_, by rw [List.length_cons]; omega, fun ys l2 py sy nl2 => ?_⟩
      · refine sql ?_
        rw [upd_same, List.append_nil]
        rfl
      · refine ⟨l2, _, rfl, .inl ⟨sql upd_same, fun l3 nl3 => ?_⟩⟩
        exact q l3 _ ys (((Same.new nl).put nl2).put nl3) upd_same py (sorted_nf sy)
    · rw [hx] at e2
      cases e2
end
end Bk
end
section
set_option Elab.async false
set_option linter.all false
set_option maxRecDepth 100000
set_option maxHeartbeats 4000000
/-! require_book, require_command. -/
namespace Bk
open PySem PySem.Spec PyProof.Rows L2
section
variable {P : Program} {w : World} {K : PySem.W.Frag} {mg : Str → Option Value} {base : Heap} {C CI CO CU fU : Addr}
abbrev spReqB (K : PySem.W.Frag) (C CI : Addr) : Sp := fun vs H Q E => (∃ b bd, vs = [.ref b] ∧ BookAt C H b bd ∧ ∀ H', Same H H' → Q .non H') ∨ ∃ x, vs = [x] ∧ OddT K H x ∧ ∀ H', Same H H' → E (.ref CI) none H'
theorem sc23 : FnScope ["book"] ["book"] (defScope (top 23)) := ⟨rfl, rfl, rfl, by decide +kernel, rfl, by decide +kernel, by decide +kernel⟩
theorem ok_reqb {f : Addr} {fd : FuncData} (B : Bx K mg C CI CO CU fU) (F : Fun K "require_book" "require_book" (top 23) f fd) : FnOk P w K mg base (L2.CX P w) 1 f fd ["book"] (spReqB K C CI) := by
  refine okX F sc23 (fun vs H Q E h => ?_) (fun cdv A outer s H vs Q E hr h => ?_)
  · rcases h with ⟨b, bd, rfl, _⟩ | ⟨x, rfl, _⟩ <;> rfl
  · refine ⟨_, pss_one (ps_if (pt_not (pt_val (p_isiC B.T.isi B.mB (pv 0)))) (pss_one (ps_rI B rfl (takes_of rfl rfl rfl rfl) (by rfl))) pss_nil), ?_⟩
    rcases h with ⟨b, bd, rfl, hb, q⟩ | ⟨x, rfl, ⟨T, hT, ty⟩, q⟩
    · exact ⟨.ref b, rfl, isi_mkC (B.ty hb) B.kB ⟨true, rfl, iteF (q H (Same.refl _))⟩⟩
    · exact ⟨x, rfl, isi_mkC ty (B.kT T hT) ⟨false, rfl, iteT (q H (Same.refl _))⟩⟩
abbrev spReqC (K : PySem.W.Frag) (C CU : Addr) : Sp := fun vs H Q E => ∃ b bd x c, vs = [.ref b, x] ∧ BookAt C H b bd ∧ OddV K H x bd c ∧ (c = true → ∀ H', Same H H' → Q .non H') ∧ (c = false → ∀ d H', Same H H' → H' d = some (.xd [("name", x)]) → E (.ref CU) (some d) H')
theorem sc24 : FnScope ["book", "command"] ["book", "command"] (defScope (top 24)) := ⟨rfl, rfl, rfl, by decide +kernel, rfl, by decide +kernel, by decide +kernel⟩
theorem ok_reqc {f : Addr} {fd : FuncData} (B : Bx K mg C CI CO CU fU) (F : Fun K "require_command" "require_command" (top 24) f fd) (N21 : Kn P w K mg base L2.CX0 1 "is_command" ["book", "value"] (spIsCmd K C))
    {fdU : FuncData} (FU : FnOk P w K mg base L2.CX0 1 fU fdU ["self", "name"] (spUI CU)) (bU : Binds K fdU ["self", "name"] []) :
    FnOk P w K mg base (L2.CX P w) 3 f fd ["book", "command"] (spReqC K C CU) := by
  refine okX F sc24 (fun vs H Q E h => ?_) (fun cdv A outer s H vs Q E hr h => ?_)
  · obtain ⟨b, bd, x, c, rfl, _⟩ := h
    rfl
  · obtain ⟨b, bd, x, c, rfl, hb, ho, q1, q2⟩ := h
    refine ⟨_, pss_one (ps_if (pt_not (pt_val (pk0 N21 hr (by omega) (pa_cons (pv 0) (pa_cons (pv 1) pa_nil))))) (pss_one (ps_raise rfl (takes_of rfl rfl rfl rfl) (pmk_kex (dvs := []) B.xU B.iU B.fU FU hr bU .nil pass0 (by rfl) B.mU (pa_cons (pv 1) pa_nil)))) pss_nil), ?_⟩
    refine ⟨.ref b, rfl, x, rfl, b, bd, x, c, rfl, hb, ho, fun H1 s1 => ⟨c, rfl, ?_⟩⟩
    cases c with
    | true => exact iteF (q1 rfl H1 s1)
    | false =>
      refine iteT ⟨x, rfl, by show 1 ≤ 1000; decide, fun a na => ?_⟩
      refine ⟨a, x, rfl, upd_same, fun dx ndx ne => ⟨rfl, dx, [("name", x)], upd_same, ?_, ?_, ?_⟩⟩
      · rw [upd_ne ne, upd_same]
      · rw [upd_ne ne] at ndx
        exact ndx
      · have ndx' : H1 dx = none := by
          rw [upd_ne ne] at ndx
          exact ndx
        refine q2 rfl dx _ (s1.trans fun e o he => ?_) upd_same
        have n1 : e ≠ dx := ne_of_none he ndx'
        have n2 : e ≠ a := ne_of_none he na
        rw [upd_ne n1, del_ne n2, upd_ne n2, upd_ne n1, upd_ne n2]
        exact he
end
end Bk
end
section
set_option Elab.async false
set_option linter.all false
set_option maxRecDepth 100000
set_option maxHeartbeats 4000000
/-! Book: made, of, commands. -/
namespace Bk
open PySem PySem.Spec PyProof.Rows L2
theorem hu65 {k : Nat} {A : Around} (hr : Room k A) : A.units + 65 < cLine := by
  have := hr.un
  omega
theorem kv_inr {H : Hp} : ∀ {kvs : List (Key × V)} {bd : Bd}, KvAt H kvs bd → ∃ ks : List (Str × V), kvs = inrs ks ∧ ks.map (·.1) = keys bd
  | _, _, .nil => ⟨[], rfl, rfl⟩
  | (k, v) :: kvs, (y, p) :: bd, .cons r t => by
    obtain ⟨ks, e1, e2⟩ := kv_inr t
    have e3 : k = Sum.inr y := r.1
    subst e3
    exact ⟨(y, v) :: ks, by rw [e1] <;> rfl, by show y :: ks.map (·.1) = y :: keys bd; rw [e2]⟩
/-- what is to be shown where a new book of bd is made -/
abbrev NewBk (C : Addr) (H : Hp) (bd : Bd) (Q : VK) : Prop := ∀ b dx d H' bd', H b = none → H d = none → Same H H' → H' b = some (.ins C dx [(oF, .ref d)]) → DictAt H' d bd' → bd'.Perm bd → Asc (keys bd') → Q (.ref b) H'
theorem NewBk.same {C : Addr} {H H1 : Hp} {bd : Bd} {Q : VK} (h : NewBk C H bd Q) (s : Same H H1) : NewBk C H1 bd Q := fun b dx d H' bd' n1 n2 s' h1 h2 p a => h b dx d H' bd' (s.free n1) (s.free n2) (s.trans s') h1 h2 p a
section
variable {P : Program} {w : World} {K : PySem.W.Frag} {mg : Str → Option Value} {base : Heap} {C CI CO CU fU : Addr}
abbrev spIni (C : Addr) : Sp := fun vs H Q _ => ∃ b dx d bd, vs = [.ref b, .ref d] ∧ H b = some (.ins C dx []) ∧ DictAt H d bd ∧ BdOk bd ∧
  ∀ d' H' bd', H d' = none → Same H H' → DictAt H' d' bd' → bd'.Perm bd → Asc (keys bd') → Q .non (upd H' b (.ins C dx [(oF, .ref d')]))
/-- what Book(**..) asks -/
abbrev spKw (C : Addr) : V → List (Str × V) → Hp → VK → XK → Prop := fun x kvs H Q E => (∀ q ∈ kvs, q.1 ≠ "this_book") ∧ kvs.length ≤ sizeLine ∧ (kvs.map (·.1)).Nodup ∧ ∀ d, H d = none → spIni C [x, .ref d] (upd H d (.dK (inrs kvs))) Q E
theorem scM0 : FnScope ["this_book", "commands"] ["this_book", "commands"] (defScope (meth 0)) := ⟨rfl, rfl, rfl, by decide +kernel, rfl, by decide +kernel, by decide +kernel⟩
theorem ok_init {f : Addr} {fd : FuncData} (B : Bx K mg C CI CO CU fU) (F : Fun K "__init__" "Book.__init__" (meth 0) f fd) (N19 : Kn P w K mg base L2.CX0 4 "pairs_of" ["commands"] spPairsOf) : FnKw P w K mg base L2.CX0 5 f (spKw C) := by
  obtain ⟨oc, od, kV, doc, pm, an, cdv, ct, osl, rfl, lk, hcd⟩ := F.ex
  refine fn_kw (qual := "Book.__init__") lk hcd scM0 StX.cxUp_none fun A outer s H vs Q E hr h => ?_
  obtain ⟨b, dx, d, bd, rfl, hb, hd, hbd, q⟩ := h
  refine ⟨_, pss_one (ps_fld (pv 0) (pk0 N19 hr (Nat.le_refl _) (pa_cons (pv 1) pa_nil)) rfl), ?_⟩
  refine ⟨.ref d, rfl, d, bd, rfl, hd, hbd, fun d' H' bd' nd s' hd' p a => ?_⟩
  exact ⟨.ref b, rfl, b, C, dx, [], rfl, s' _ _ hb, B.cls, B.na, by decide, q d' H' bd' nd s' hd' p a⟩
theorem mk_new {H : Hp} {kvs : List (Str × V)} {bd : Bd} {Q : VK} {E : XK} (h : KvAt H (inrs kvs) bd) (ok : BdOk bd) (q : NewBk C H bd Q) :
    ∀ x dx, H x = none → H dx = none → dx ≠ x → spKw C (.ref x) kvs (upd (upd H dx (.own x)) x (.ins C dx [])) (fun v H2 => v = .non ∧ Q (.ref x) H2) E := by
  intro x dx nx ndx ne
  have ek : kvs.map (·.1) = keys bd := by
    obtain ⟨ks, e1, e2⟩ := kv_inr h
    have e3 : kvs = ks := by
      have inj : ∀ {a b : List (Str × V)}, inrs a = inrs b → a = b := by
        intro a
        induction a with
        | nil =>
          intro b e
          cases b with
          | nil => rfl
          | cons _ _ => cases e
        | cons p a ih =>
          intro b e
          cases b with
          | nil => cases e
          | cons r b =>
            obtain ⟨e1, e2⟩ := List.cons.inj e
            have e3 := Sum.inr.inj (Prod.mk.inj e1).1
            have e4 := (Prod.mk.inj e1).2
            rw [ih e2, show p = r from Prod.ext e3 e4]
      exact inj e1
    rw [e3, e2]
  have lk : kvs.length = bd.length := by
    have := congrArg List.length ek
    rw [List.length_map, keys_len] at this
    exact this
  have s0 : Same H (upd (upd H dx (.own x)) x (.ins C dx [])) := (Same.new ndx).put (by rw [upd_ne (Ne.symm ne)]; exact nx)
  have l6 := ok.l6
  refine ⟨fun e he z => ?_, by rw [lk, sizeLine_eq]; omega, by rw [ek]; exact ok.nd, fun d nd => ?_⟩
  · have hk := (ok.key (by rw [← ek]; exact List.mem_map.mpr ⟨e, he, rfl⟩)).nm
    rw [z] at hk
    exact absurd hk (by decide)
  · have s1 : Same H (upd (upd (upd H dx (.own x)) x (.ins C dx [])) d (.dK (inrs kvs))) := s0.put nd
    have nd' : d ≠ x := fun z => by
      rw [z, upd_same] at nd
      cases nd
    refine ⟨x, dx, d, bd, rfl, ?_, ⟨_, upd_same, h.tps s1.tps⟩, ok, fun d' H' bd' n s' hd' p a => ⟨rfl, ?_⟩⟩
    · rw [upd_ne (Ne.symm nd'), upd_same]
    · have hx' : H' x = some (.ins C dx []) := s' _ _ (by rw [upd_ne (Ne.symm nd'), upd_same])
      have ne' : d' ≠ x := fun z => by
        obtain ⟨k', h1, _⟩ := hd'
        rw [z, hx'] at h1
        cases h1
      have sF : Same H (upd H' x (.ins C dx [(oF, .ref d')])) := (s1.trans s').chg nx
      have hT : Tps H' (upd H' x (.ins C dx [(oF, .ref d')])) := fun c xs hc => by
        rw [upd_ne (fun z => by rw [z, hx'] at hc; cases hc)]
        exact hc
      refine q x dx d' _ bd' nx (s1.free n) sF upd_same ?_ p a
      obtain ⟨k', h1, h2⟩ := hd'
      exact ⟨k', by rw [upd_ne ne']; exact h1, h2.tps hT⟩
/-! ### of -/
abbrev spOf (C : Addr) : Sp := fun vs H Q _ => ∃ d bd, vs = [.ref C, .ref d] ∧ DictAt H d bd ∧ BdOk bd ∧ NewBk C H bd Q
theorem scM1 : FnScope ["cls", "commands", "pairs"] ["cls", "commands"] (defScope (meth 1)) := ⟨rfl, rfl, rfl, by decide +kernel, rfl, by decide +kernel, by decide +kernel⟩
theorem ok_of {f fI : Addr} {fd : FuncData} (B : Bx K mg C CI CO CU fU) (F : Fun K "of" "Book.of" (meth 1) f fd) (N19 : Kn P w K mg base L2.CX0 4 "pairs_of" ["commands"] spPairsOf) (M : Mk K C fI) (FI : FnKw P w K mg base L2.CX0 5 fI (spKw C)) :
    FnOk P w K mg base L2.CX0 7 f fd ["cls", "commands"] (spOf C) := by
  refine F.ok scM1 (fun vs H Q E h => ?_) (fun cdv A outer s H vs Q E hr h => ?_)
  · obtain ⟨d, bd, rfl, _⟩ := h
    rfl
  · obtain ⟨d, bd, rfl, hd, hbd, q⟩ := h
    refine ⟨_, pss_cons (ps_set (i := 2) scM1.nd rfl (.inl rfl) (pk0 N19 hr (by omega) (pa_cons (pv 1) pa_nil))) (pss_one (ps_ret (pe_makeD M FI hr (pv 0) (pv 2) pass0))), ?_⟩
    refine ⟨.ref d, rfl, d, bd, rfl, hd, hbd, fun d' H' bd' nd s' hd' p a => ?_⟩
    obtain ⟨kvs, h1, h2⟩ := hd'
    obtain ⟨ks, rfl, _⟩ := kv_inr h2
    refine ⟨.ref C, rfl, rfl, .ref d', rfl, d', ks, rfl, h1, mk_new h2 (hbd.perm p.symm) fun b dx d2 H2 bd2 n1 n2 s2 e1 e2 p2 a2 => ?_⟩
    exact q b dx d2 H2 bd2 (s'.free n1) (s'.free n2) (s'.trans s2) e1 e2 (p2.trans p) a2
/-! ### commands -/
abbrev spCmds (C : Addr) : Sp := fun vs H Q _ => ∃ b bd, vs = [.ref b] ∧ BookAt C H b bd ∧ ∀ t H', Same H H' → H' t = some (.tup ((keys bd).map V.str)) → Q (.ref t) H'
theorem scM2 : FnScope ["self"] ["self"] (defScope (meth 2)) := ⟨rfl, rfl, rfl, by decide +kernel, rfl, by decide +kernel, by decide +kernel⟩
theorem ok_cmds {f : Addr} {fd : FuncData} (B : Bx K mg C CI CO CU fU) (F : Fun K "commands" "Book.commands" (meth 2) f fd) : FnOk P w K mg base L2.CX0 1 f fd ["self"] (spCmds C) := by
  refine F.ok scM2 (fun vs H Q E h => ?_) (fun cdv A outer s H vs Q E hr h => ?_)
  · obtain ⟨b, bd, rfl, _⟩ := h
    rfl
  · obtain ⟨b, bd, rfl, ⟨dx, d, hb, kvs, hd, hkv⟩, q⟩ := h
    refine ⟨_, pss_one (ps_ret (pe_callTy (call_tupD rfl) (by rfl) B.T.tup PyProof.Rows.boot_tuple (pa_cons (pe_fld (pv 0) rfl) pa_nil))), ?_⟩
    refine ⟨.ref b, rfl, b, C, dx, _, .ref d, rfl, hb, B.cls, B.na, rfl, d, kvs, rfl, .inl hd, fun p np => ?_⟩
    rw [hkv.kvs]
    exact q p _ (Same.new np) upd_same
end
end Bk
end
section
set_option Elab.async false
set_option linter.all false
set_option maxRecDepth 100000
set_option maxHeartbeats 4000000
/-! Book: __len__, __str__, __contains__, __eq__, takes, answers, outcomes, __getitem__. -/
namespace Bk
open PySem PySem.Spec PyProof.Rows L2
section
variable {P : Program} {w : World} {K : PySem.W.Frag} {mg : Str → Option Value} {base : Heap} {C CI CO CU fU : Addr}
abbrev spLen (C : Addr) : Sp := fun vs H Q _ => ∃ b bd, vs = [.ref b] ∧ BookAt C H b bd ∧ ∀ H', Same H H' → Q (.int bd.length) H'
theorem scM12 : FnScope ["self"] ["self"] (defScope (meth 12)) := ⟨rfl, rfl, rfl, by decide +kernel, rfl, by decide +kernel, by decide +kernel⟩
theorem ok_len {f : Addr} {fd : FuncData} (B : Bx K mg C CI CO CU fU) (F : Fun K "__len__" "Book.__len__" (meth 12) f fd) : FnOk P w K mg base L2.CX0 1 f fd ["self"] (spLen C) := by
  refine F.ok scM12 (fun vs H Q E h => ?_) (fun cdv A outer s H vs Q E hr h => ?_)
  · obtain ⟨b, bd, rfl, _⟩ := h
    rfl
  · obtain ⟨b, bd, rfl, ⟨dx, d, hb, kvs, hd, hkv⟩, q⟩ := h
    refine ⟨_, pss_one (ps_ret (pe_callB call_lenD (by rfl) B.T.len PySem.boot_len (pa_cons (pe_fld (pv 0) rfl) pa_nil))), ?_⟩
    refine ⟨.ref b, rfl, b, C, dx, _, .ref d, rfl, hb, B.cls, B.na, rfl, d, kvs, rfl, hd, ?_⟩
    rw [hkv.length]
    exact q H (Same.refl _)
def bookTxt (n : Nat) : Str := "book of " ++ (toString (n : Int) : String) ++ " commands"
abbrev spStr (C : Addr) : Sp := fun vs H Q _ => ∃ b bd, vs = [.ref b] ∧ BookAt C H b bd ∧ bd.length ≤ 6 ∧ ∀ H', Same H H' → Q (.str (bookTxt bd.length)) H'
theorem scM14 : FnScope ["self"] ["self"] (defScope (meth 14)) := ⟨rfl, rfl, rfl, by decide +kernel, rfl, by decide +kernel, by decide +kernel⟩
theorem len_app (a b : Str) : (a ++ b).length = a.length + b.length := by
  show (a.cps ++ b.cps).size = a.cps.size + b.cps.size
  exact Array.size_append
theorem txt_small (n : Nat) (h : n ≤ 6) : ((n : Int).natAbs.log2 < 1920) ∧ ((Str.empty ++ "book of ").length ≤ sizeLine ∧ (Str.empty ++ "book of " ++ (toString (n : Int) : String)).length ≤ sizeLine ∧ (Str.empty ++ "book of " ++ (toString (n : Int) : String) ++ " commands").length ≤ sizeLine) ∧
    Str.empty ++ "book of " ++ (toString (n : Int) : String) ++ " commands" = bookTxt n := by
  have e : (Str.empty ++ "book of " : Str) = "book of " := by decide +kernel
  rw [e, sizeLine_eq]
  have e : n = 0 ∨ n = 1 ∨ n = 2 ∨ n = 3 ∨ n = 4 ∨ n = 5 ∨ n = 6 := by omega
  have l1 : (Str.ofString "book of ").length = 8 := by decide +kernel
  have l2 : (Str.ofString " commands").length = 9 := by decide +kernel
  have l3 : (Str.ofString (toString (n : Int))).length ≤ 1 := by
    rcases e with e | e | e | e | e | e | e <;> subst e <;> decide +kernel
  refine ⟨?_, ⟨?_, ?_, ?_⟩, rfl⟩
  · rcases e with e | e | e | e | e | e | e <;> subst e <;> decide +kernel
  · rw [l1]
    omega
  · rw [len_app, l1]
    omega
  · rw [len_app, len_app, l1, l2]
    omega
theorem ok_str {f : Addr} {fd : FuncData} (B : Bx K mg C CI CO CU fU) (F : Fun K "__str__" "Book.__str__" (meth 14) f fd) : FnOk P w K mg base L2.CX0 1 f fd ["self"] (spStr C) := by
  refine F.ok scM14 (fun vs H Q E h => ?_) (fun cdv A outer s H vs Q E hr h => ?_)
  · obtain ⟨b, bd, rfl, _⟩ := h
    rfl
  · obtain ⟨b, bd, rfl, ⟨dx, d, hb, kvs, hd, hkv⟩, l6, q⟩ := h
    refine ⟨_, pss_one (ps_ret (pe_joined (.cons pe_str (.cons (pe_fmt (pe_callB call_lenD (by rfl) B.T.len PySem.boot_len (pa_cons (pe_fld (pv 0) rfl) pa_nil))) (.cons pe_str .nil))))), ?_⟩
    obtain ⟨t1, ⟨t2, t3, t4⟩, t5⟩ := txt_small bd.length l6
    refine ⟨"book of ", rfl, t2, .ref b, rfl, b, C, dx, _, .ref d, rfl, hb, B.cls, B.na, rfl, d, kvs, rfl, hd, .inr ⟨kvs.length, rfl, ?_, ?_⟩⟩
    · rw [hkv.length]
      exact t1
    · rw [hkv.length]
      refine ⟨_, rfl, t3, " commands", rfl, t4, ?_⟩
      show Q (.str _) H
      rw [t5]
      exact q H (Same.refl _)
theorem scM10 : FnScope ["self", "value"] ["self", "value"] (defScope (meth 10)) := ⟨rfl, rfl, rfl, by decide +kernel, rfl, by decide +kernel, by decide +kernel⟩
theorem ok_cont {f : Addr} {fd : FuncData} (F : Fun K "__contains__" "Book.__contains__" (meth 10) f fd) (N21 : Kn P w K mg base L2.CX0 1 "is_command" ["book", "value"] (spIsCmd K C)) : FnOk P w K mg base L2.CX0 2 f fd ["self", "value"] (spIsCmd K C) := by
  refine F.ok scM10 (fun vs H Q E h => ?_) (fun cdv A outer s H vs Q E hr h => ?_)
  · obtain ⟨b, bd, x, c, rfl, _⟩ := h
    rfl
  · obtain ⟨b, bd, x, c, rfl, hb, ho, q⟩ := h
    refine ⟨_, pss_one (ps_ret (pk0 N21 hr (Nat.le_refl _) (pa_cons (pv 0) (pa_cons (pv 1) pa_nil)))), ?_⟩
    exact ⟨.ref b, rfl, x, rfl, b, bd, x, c, rfl, hb, ho, q⟩
abbrev spEqB (K : PySem.W.Frag) (C : Addr) : Sp := fun vs H Q _ => (∃ b bd b' bd', vs = [.ref b, .ref b'] ∧ BookAt C H b bd ∧ BookAt C H b' bd' ∧ BdOk bd ∧ BdOk bd' ∧ ∀ H', Same H H' → Q (.bl (sameB bd bd')) H') ∨
  ∃ b bd x, vs = [.ref b, x] ∧ BookAt C H b bd ∧ OddT K H x ∧ ∀ H', Same H H' → Q (.bl false) H'
theorem scM13 : FnScope ["self", "other"] ["self", "other"] (defScope (meth 13)) := ⟨rfl, rfl, rfl, by decide +kernel, rfl, by decide +kernel, by decide +kernel⟩
theorem ok_eq {f : Addr} {fd : FuncData} (B : Bx K mg C CI CO CU fU) (F : Fun K "__eq__" "Book.__eq__" (meth 13) f fd) : FnOk P w K mg base L2.CX0 1 f fd ["self", "other"] (spEqB K C) := by
  refine F.ok scM13 (fun vs H Q E h => ?_) (fun cdv A outer s H vs Q E hr h => ?_)
  · rcases h with ⟨b, bd, b', bd', rfl, _⟩ | ⟨b, bd, x, rfl, _⟩ <;> rfl
  · refine ⟨_, pss_one (ps_ret (pe_and (p_isiC B.T.isi B.mB (pv 1)) (pe_one (pe_cmpR (op_eqB (hu65 hr)) (pe_fld (pv 0) rfl) (pe_fld (pv 1) rfl) (by with_unfolding_all rfl))))), ?_⟩
    rcases h with ⟨b, bd, b', bd', rfl, hb, hb', ok1, ok2, q⟩ | ⟨b, bd, x, rfl, hb, ⟨T, hT, ty⟩, q⟩
    · refine ⟨.ref b', rfl, isi_mkC (B.ty hb') B.kB ⟨true, rfl, iteT ?_⟩⟩
      obtain ⟨dx, d, hb, kvs, hd, hkv⟩ := hb
      obtain ⟨dx', d', hb', kvs', hd', hkv'⟩ := hb'
      exact ⟨.ref b, rfl, b, C, dx, _, .ref d, rfl, hb, B.cls, B.na, rfl, .ref b', rfl, b', C, dx', _, .ref d', rfl, hb', B.cls, B.na, rfl, d, d', kvs, kvs', bd, bd', rfl, rfl, hd, hd', hkv, hkv', ok1.s, ok2.s, q H (Same.refl _)⟩
    · exact ⟨x, rfl, isi_mkC ty (B.kT T hT) ⟨false, rfl, iteF (q H (Same.refl _))⟩⟩
/-! ### what asks for a command -/
abbrev spGet (K : PySem.W.Frag) (C CU : Addr) (R : Pr → Hp → VK → Prop) : Sp := fun vs H Q E => ∃ b bd x c, vs = [.ref b, x] ∧ BookAt C H b bd ∧ BdOk bd ∧ OddV K H x bd c ∧ (c = true → ∀ s p H', x = .str s → bd.lookup s = some p → Same H H' → R p H' Q) ∧
  (c = false → ∀ d H', Same H H' → H' d = some (.xd [("name", x)]) → E (.ref CU) (some d) H')
theorem OddV.yes {H : Hp} {x : V} {bd : Bd} (h : OddV K H x bd true) : ∃ s p, x = .str s ∧ bd.lookup s = some p := by
  rcases h with ⟨s, rfl, e⟩ | ⟨e, _⟩
  · obtain ⟨p, e⟩ := Option.isSome_iff_exists.mp e.symm
    exact ⟨s, p, rfl, e⟩
  · cases e
abbrev RTak : Pr → Hp → VK → Prop := fun p H Q => Q (.int p.1) H
abbrev RAns : Pr → Hp → VK → Prop := fun p H Q => ∀ a, H a = some (.tup (p.2.map V.str)) → Q (.ref a) H
abbrev ROut : Pr → Hp → VK → Prop := fun p H Q => ∀ t H' os, Same H H' → H' t = some (.tup (os.map V.str)) → os.Perm ("failed" :: p.2) → Nf os → Q (.ref t) H'
abbrev RItm : Pr → Hp → VK → Prop := fun p H Q => ∀ v, PrAt H v p → Q v H
section
variable (B : Bx K mg C CI CO CU fU) (N24 : Kn P w K mg base (L2.CX P w) 3 "require_command" ["book", "command"] (spReqC K C CU))
include B N24
theorem scM3 : FnScope ["self", "command"] ["self", "command"] (defScope (meth 3)) := ⟨rfl, rfl, rfl, by decide +kernel, rfl, by decide +kernel, by decide +kernel⟩
theorem scM4 : FnScope ["self", "command"] ["self", "command"] (defScope (meth 4)) := ⟨rfl, rfl, rfl, by decide +kernel, rfl, by decide +kernel, by decide +kernel⟩
theorem scM5 : FnScope ["self", "command"] ["self", "command"] (defScope (meth 5)) := ⟨rfl, rfl, rfl, by decide +kernel, rfl, by decide +kernel, by decide +kernel⟩
theorem scM9 : FnScope ["self", "command"] ["self", "command"] (defScope (meth 9)) := ⟨rfl, rfl, rfl, by decide +kernel, rfl, by decide +kernel, by decide +kernel⟩
theorem ok_takes {f : Addr} {fd : FuncData} (F : Fun K "takes" "Book.takes" (meth 3) f fd) : FnOk P w K mg base (L2.CX P w) 4 f fd ["self", "command"] (spGet K C CU RTak) := by
  refine okX F (scM3 B N24) (fun vs H Q E h => ?_) (fun cdv A outer s H vs Q E hr h => ?_)
  · obtain ⟨b, bd, x, c, rfl, _⟩ := h
    rfl
  · obtain ⟨b, bd, x, c, rfl, hb, ok, ho, q1, q2⟩ := h
    refine ⟨_, pss_cons (ps_expr (pk (E := E) N24 hr (Nat.le_refl _) (passes_call (takes_of rfl rfl rfl rfl) fun _ _ _ _ h => h) (pa_cons (pv 0) (pa_cons (pv 1) pa_nil)))) (pss_one (ps_ret (pe_ix ix_tup (pe_dget (hu_of hr) (pe_fld (pv 0) rfl) (pv 1) fun _ _ => rfl) pe_int fun _ _ => rfl))), ?_⟩
    refine ⟨.ref b, rfl, x, rfl, b, bd, x, c, rfl, hb, ho, fun ec H1 s1 => ?_, q2⟩
    subst ec
    obtain ⟨z, p, rfl, hz⟩ := ho.yes
    obtain ⟨dx, d, hb, kvs, hd, hkv⟩ := hb
    rcases hkv.look z with ⟨v, p', e1, e2, a, b2, rfl, h1, h2⟩ | ⟨e1, e2⟩
    · rw [hz] at e2
      cases e2
      exact ⟨.ref b, rfl, b, C, dx, _, .ref d, rfl, s1 _ _ hb, B.cls, B.na, rfl, .str z, rfl, d, .ref a, rfl, dget_rd (k := Sum.inr z) (.inl (s1 _ _ hd)) e1, a, _, 0, .int p.1, rfl, rfl, sqt (s1 _ _ h1), rfl, q1 rfl z p H1 rfl hz s1⟩
    · rw [hz] at e2
      cases e2
theorem ok_answers {f : Addr} {fd : FuncData} (F : Fun K "answers" "Book.answers" (meth 4) f fd) : FnOk P w K mg base (L2.CX P w) 4 f fd ["self", "command"] (spGet K C CU RAns) := by
  refine okX F (scM4 B N24) (fun vs H Q E h => ?_) (fun cdv A outer s H vs Q E hr h => ?_)
  · obtain ⟨b, bd, x, c, rfl, _⟩ := h
    rfl
  · obtain ⟨b, bd, x, c, rfl, hb, ok, ho, q1, q2⟩ := h
    refine ⟨_, pss_cons (ps_expr (pk (E := E) N24 hr (Nat.le_refl _) (passes_call (takes_of rfl rfl rfl rfl) fun _ _ _ _ h => h) (pa_cons (pv 0) (pa_cons (pv 1) pa_nil)))) (pss_one (ps_ret (pe_ix ix_tup (pe_dget (hu_of hr) (pe_fld (pv 0) rfl) (pv 1) fun _ _ => rfl) pe_int fun _ _ => rfl))), ?_⟩
    refine ⟨.ref b, rfl, x, rfl, b, bd, x, c, rfl, hb, ho, fun ec H1 s1 => ?_, q2⟩
    subst ec
    obtain ⟨z, p, rfl, hz⟩ := ho.yes
    obtain ⟨dx, d, hb, kvs, hd, hkv⟩ := hb
    rcases hkv.look z with ⟨v, p', e1, e2, a, b2, rfl, h1, h2⟩ | ⟨e1, e2⟩
    · rw [hz] at e2
      cases e2
      exact ⟨.ref b, rfl, b, C, dx, _, .ref d, rfl, s1 _ _ hb, B.cls, B.na, rfl, .str z, rfl, d, .ref a, rfl, dget_rd (k := Sum.inr z) (.inl (s1 _ _ hd)) e1, a, _, 1, .ref b2, rfl, rfl, sqt (s1 _ _ h1), rfl, q1 rfl z p H1 rfl hz s1 b2 (s1 _ _ h2)⟩
    · rw [hz] at e2
      cases e2
theorem ok_item {f : Addr} {fd : FuncData} (F : Fun K "__getitem__" "Book.__getitem__" (meth 9) f fd) : FnOk P w K mg base (L2.CX P w) 4 f fd ["self", "command"] (spGet K C CU RItm) := by
  refine okX F (scM9 B N24) (fun vs H Q E h => ?_) (fun cdv A outer s H vs Q E hr h => ?_)
  · obtain ⟨b, bd, x, c, rfl, _⟩ := h
    rfl
  · obtain ⟨b, bd, x, c, rfl, hb, ok, ho, q1, q2⟩ := h
    refine ⟨_, pss_cons (ps_expr (pk (E := E) N24 hr (Nat.le_refl _) (passes_call (takes_of rfl rfl rfl rfl) fun _ _ _ _ h => h) (pa_cons (pv 0) (pa_cons (pv 1) pa_nil)))) (pss_one (ps_ret (pe_dget (hu_of hr) (pe_fld (pv 0) rfl) (pv 1) fun _ _ => rfl))), ?_⟩
    refine ⟨.ref b, rfl, x, rfl, b, bd, x, c, rfl, hb, ho, fun ec H1 s1 => ?_, q2⟩
    subst ec
    obtain ⟨z, p, rfl, hz⟩ := ho.yes
    obtain ⟨dx, d, hb, kvs, hd, hkv⟩ := hb
    rcases hkv.look z with ⟨v, p', e1, e2, hv⟩ | ⟨e1, e2⟩
    · rw [hz] at e2
      cases e2
      exact ⟨.ref b, rfl, b, C, dx, _, .ref d, rfl, s1 _ _ hb, B.cls, B.na, rfl, .str z, rfl, d, v, rfl, dget_rd (k := Sum.inr z) (.inl (s1 _ _ hd)) e1, q1 rfl z p H1 rfl hz s1 v (hv.tps s1.tps)⟩
    · rw [hz] at e2
      cases e2
theorem ok_outcomes {f : Addr} {fd : FuncData} (F : Fun K "outcomes" "Book.outcomes" (meth 5) f fd) (N22 : Kn P w K mg base L2.CX0 1 "outcomes_in" ["book", "command"] (spOutc C)) : FnOk P w K mg base (L2.CX P w) 4 f fd ["self", "command"] (spGet K C CU ROut) := by
  refine okX F (scM5 B N24) (fun vs H Q E h => ?_) (fun cdv A outer s H vs Q E hr h => ?_)
  · obtain ⟨b, bd, x, c, rfl, _⟩ := h
    rfl
  · obtain ⟨b, bd, x, c, rfl, hb, ok, ho, q1, q2⟩ := h
    refine ⟨_, pss_cons (ps_expr (pk (E := E) N24 hr (Nat.le_refl _) (passes_call (takes_of rfl rfl rfl rfl) fun _ _ _ _ h => h) (pa_cons (pv 0) (pa_cons (pv 1) pa_nil)))) (pss_one (ps_ret (pk0 N22 hr (by omega) (pa_cons (pv 0) (pa_cons (pv 1) pa_nil))))), ?_⟩
    refine ⟨.ref b, rfl, x, rfl, b, bd, x, c, rfl, hb, ho, fun ec H1 s1 => ?_, q2⟩
    subst ec
    obtain ⟨z, p, rfl, hz⟩ := ho.yes
    exact ⟨.ref b, rfl, .str z, rfl, b, bd, z, p, rfl, hb.same s1, hz, (ok.ok _ (mem_of_lookup' hz)).2, fun t H2 os s2 ht hp hn => q1 rfl z p H1 rfl hz s1 t H2 os s2 ht hp hn⟩
end
end
end Bk
end
section
set_option Elab.async false
set_option linter.all false
set_option maxRecDepth 100000
set_option maxHeartbeats 4000000
/-! Book: without, is_within. -/
namespace Bk
open PySem PySem.Spec PyProof.Rows L2 ClX
/-- a field, in a comprehension -/
theorem pe_fldK {X : Cx} {K : PySem.W.Frag} {e : Expr} {f : Str} {ta : TE} {pos : Pos} (hK : X.K = K) (he : PE X e ta) (hb : attributeBase e f X.env (eval e X.env) = eval e X.env) : PE X (.Attribute e f pos) (tFld K ta f) := by
  subst hK
  exact pe_fld he hb
def wo (bd : Bd) (s : Str) : Bd := bd.filter fun e => !decide (e.1 = s)
theorem wo_keys {bd : Bd} {s x : Str} : x ∈ keys (wo bd s) ↔ x ∈ keys bd ∧ x ≠ s := by
  unfold wo
  constructor
  · intro h
    obtain ⟨e, he, rfl⟩ := List.mem_map.mp h
    obtain ⟨h1, h2⟩ := List.mem_filter.mp he
    exact ⟨List.mem_map.mpr ⟨e, h1, rfl⟩, by simpa using h2⟩
  · rintro ⟨h, n⟩
    obtain ⟨e, he, rfl⟩ := List.mem_map.mp h
    exact List.mem_map.mpr ⟨e, List.mem_filter.mpr ⟨he, by simpa using n⟩, rfl⟩
theorem wo_nd {bd : Bd} {s : Str} (h : (keys bd).Nodup) : (keys (wo bd s)).Nodup := by
  have : (keys (wo bd s)).Sublist (keys bd) := (List.filter_sublist).map _
  exact this.nodup h
theorem wo_ok {bd : Bd} {s : Str} (h : BdOk bd) (l : bd.length ≠ 1) : BdOk (wo bd s) := by
  refine ⟨?_, ?_, fun e he => h.ok e (List.mem_filter.mp he).1, wo_nd h.nd⟩
  · -- two different keys: one is not s
    obtain ⟨e1, e2, rest, rfl⟩ : ∃ e1 e2 rest, bd = e1 :: e2 :: rest := by
      have := h.l1
      match bd, l, this with
      | e1 :: e2 :: r, _, _ => exact ⟨e1, e2, r, rfl⟩
      | [_], l, _ => exact absurd rfl l
    have nd := h.nd
    have n12 : e1.1 ≠ e2.1 := fun z => (List.nodup_cons.mp (show (e1.1 :: e2.1 :: keys rest).Nodup from nd)).1 (by rw [z]; exact List.mem_cons_self)
    by_cases c : e1.1 = s
    · have : e2 ∈ wo (e1 :: e2 :: rest) s := List.mem_filter.mpr ⟨List.mem_cons_of_mem _ List.mem_cons_self, by simpa using fun z => n12 (c.trans z.symm)⟩
      exact List.length_pos_of_mem this
    · have : e1 ∈ wo (e1 :: e2 :: rest) s := List.mem_filter.mpr ⟨List.mem_cons_self, by simpa using c⟩
      exact List.length_pos_of_mem this
  · exact Nat.le_trans (List.length_filter_le _ _) h.l6
theorem wo_snoc {bd : Bd} {s x : Str} {p : Pr} {i : Nat} (h : bd[i]? = some (x, p)) : wo (bd.take (i + 1)) s = if x = s then wo (bd.take i) s else wo (bd.take i) s ++ [(x, p)] := by
  rw [take_snoc h]
  unfold wo
  rw [List.filter_append]
  by_cases c : x = s
  · rw [if_pos c, List.filter_cons, if_neg (by simp [c])]
    simp
  · rw [if_neg c, List.filter_cons, if_pos (by simp [c])]
    rfl
section
variable {P : Program} {w : World} {K : PySem.W.Frag} {mg : Str → Option Value} {base : Heap} {C CI CO CU fU : Addr}
abbrev spWo (K : PySem.W.Frag) (C CO CU : Addr) : Sp := fun vs H Q E => ∃ b bd x c, vs = [.ref b, x] ∧ BookAt C H b bd ∧ BdOk bd ∧ OddV K H x bd c ∧ (c = true → ∀ s, x = .str s → (bd.length = 1 → ∀ H', Same H H' → E (.ref CO) none H') ∧ (bd.length ≠ 1 → NewBk C H (wo bd s) Q)) ∧
  (c = false → ∀ d H', Same H H' → H' d = some (.xd [("name", x)]) → E (.ref CU) (some d) H')
theorem scM6 : FnScope ["self", "command", "name"] ["self", "command"] (defScope (meth 6)) := ⟨rfl, rfl, rfl, by decide +kernel, rfl, by decide +kernel, by decide +kernel⟩
theorem ok_without {f fO fI p0 : Addr} {mc : Value} {fd fdO : FuncData} (B : Bx K mg C CI CO CU fU) (F : Fun K "without" "Book.without" (meth 6) f fd) (N24 : Kn P w K mg base (L2.CX P w) 3 "require_command" ["book", "command"] (spReqC K C CU))
    (rO : CRead K C mc) (cO : CMet K C mc "of" p0 fO) (FO : FnR P w K mg base L2.CX0 7 fO (spOf C)) : FnOk P w K mg base (L2.CX P w) 8 f fd ["self", "command"] (spWo K C CO CU) := by
  refine okX F scM6 (fun vs H Q E h => ?_) (fun cdv A outer s H vs Q E hr h => ?_)
  · obtain ⟨b, bd, x, c, rfl, _⟩ := h
    rfl
  · obtain ⟨b, bd, x, c, rfl, hb, ok, ho, q1, q2⟩ := h
    refine ⟨_, pss_cons (ps_expr (pk (E := E) N24 hr (by omega) (passes_call (takes_of rfl rfl rfl rfl) fun _ _ _ _ h => h) (pa_cons (pv 0) (pa_cons (pv 1) pa_nil))))
      (pss_cons (ps_if (pt_cmpR op_eq (pe_callB call_lenD (by rfl) B.T.len PySem.boot_len (pa_cons (pe_fld (pv 0) rfl) pa_nil)) pe_int (by with_unfolding_all rfl)) (pss_one (ps_rO B rfl (takes_of rfl rfl rfl rfl) (by rfl))) pss_nil)
      (pss_one (ps_ret (pe_cmeth (pl := ?pl) (pe_glob (v := .ref C) (by rfl) B.mB rfl) rO cO FO hr pass0 (pa_cons (pe_lock (pe_dc rfl scM6.nd (pi_keys (pe_fld (pv 0) rfl)) (blkOk_by (own := [("name", 2)]) (by rfl)) (fun _ _ _ _ _ => pg_name (i := 2) scM6.nd rfl (.inl rfl))
        (fun _ _ _ _ _ => pts_one (pt_cmpR op_ne (pv 2) (pv 1) (by with_unfolding_all rfl))) (fun _ _ _ _ _ => pv 2) (fun _ _ _ _ _ => pe_dget (hu_of hr) (pe_fldK (K := K) rfl (pv 0) rfl) (pv 2) fun _ _ => rfl))) pa_nil))))), ?_⟩
    refine ⟨.ref b, rfl, x, rfl, b, bd, x, c, rfl, hb, ho, fun ec H1 s1 => ?_, q2⟩
    subst ec
    obtain ⟨z, p, rfl, hz⟩ := ho.yes
    obtain ⟨q3, q4⟩ := q1 rfl z rfl
    obtain ⟨dx, d, hb, kvs, hd, hkv⟩ := hb.same s1
    have hl := hkv.length
    have h6 := ok.l6
    refine ⟨.ref b, rfl, b, C, dx, _, .ref d, rfl, hb, B.cls, B.na, rfl, d, kvs, rfl, hd, rfl, _, rfl, ?_⟩
    by_cases e1 : bd.length = 1
    · rw [decide_eq_true (by rw [hl, e1] <;> rfl)]
      exact iteT (q3 e1 H1 s1)
    · rw [decide_eq_false (fun y => e1 (by
        have := V.int.inj y
        omega))]
      refine iteF ⟨rfl, d, _, hd, True.intro, fun od => ⟨.ref b, rfl, b, C, dx, [(oF, .ref d)], .ref d, rfl, ?_, B.cls, B.na, rfl, d, od, rfl, .inl ⟨kvs, upd_same, fun D nD => ?_⟩⟩⟩
      · rw [upd_ne (fun y => by rw [y, hd] at hb; cases hb)]
        exact hb
      have hbL : (upd H1 d (.frz od (.dK kvs))) b = some (.ins C dx [(oF, .ref d)]) := by
        rw [upd_ne (fun y => by rw [y, hd] at hb; cases hb)]
        exact hb
      have t0 : Tps H1 (upd H1 d (.frz od (.dK kvs))) := lock_tps hd
      refine dc_same walk_keys (fun i acc => KvAt H1 acc (wo (bd.take i) z)) nD .nil (fun H3 s3 => s3 _ _ upd_same) (fun i v acc H3 H4 hi ea s3 eD hy => ?_) fun acc H3 ea s3 eD => ?_
      · obtain ⟨rfl, k, v, ek, rfl⟩ := hy
        obtain ⟨y, p', eb, rfl, hv⟩ := hkv.get ek
        refine ⟨rfl, .str y, rfl, .str z, rfl, rfl, _, rfl, ?_⟩
        have es := wo_snoc (s := z) eb
        by_cases c : y = z
        · subst c
          rw [if_pos rfl] at es
          rw [show decide (V.str y = V.str y) = true from decide_eq_true rfl]
          refine iteF ⟨acc, ?_, s3, eD⟩
          show KvAt H1 acc (wo (bd.take (i + 1)) y)
          rw [es]
          exact ea
        · rw [if_neg c] at es
          rw [decide_eq_false (fun e => c (V.str.inj e))]
          refine iteT ⟨.str y, rfl, .ref b, rfl, b, C, dx, _, .ref d, rfl, s3 _ _ hbL, B.cls, B.na, rfl, .str y, rfl, ?_⟩
          have hm : (y, p') ∈ bd := List.mem_of_getElem? eb
          rcases hkv.look y with ⟨v', p2, e3, e4, e5⟩ | ⟨e3, e4⟩
          · rw [lookup_of_mem' ok.nd hm] at e4
            cases e4
            refine ⟨d, v', rfl, dget_rd (k := Sum.inr y) (.inr ⟨od, s3 _ _ upd_same⟩) e3, dc_fin (k := Sum.inr y) rfl nD s3 eD (Same.refl _) ?_ ?_⟩
            · rw [ea.length]
              have : (wo (bd.take i) z).length ≤ (bd.take i).length := List.length_filter_le _ _
              rw [List.length_take] at this
              omega
            · show KvAt H1 (putK acc (Sum.inr y) v') (wo (bd.take (i + 1)) z)
              rw [es]
              refine ea.put_new ?_ e5
              intro m
              have m2 := (wo_keys.mp m).1
              obtain ⟨e, he, ey⟩ := List.mem_map.mp m2
              obtain ⟨j, hj⟩ := List.mem_iff_getElem?.mp he
              rw [List.getElem?_take] at hj
              split at hj
              · rename_i cj
                have k1 : (keys bd)[j]? = some y := by
                  rw [List.getElem?_map, hj, ← ey]
                  rfl
                have k2 : (keys bd)[i]? = some y := by
                  rw [List.getElem?_map, eb]
                  rfl
                have := (List.getElem?_inj (i := j) (j := i) (by rw [keys_len]; omega) ok.nd).mp (by rw [k1, k2])
                omega
              · cases hj
          · rw [lookup_of_mem' ok.nd hm] at e4
            cases e4
      · refine ⟨s3 _ _ upd_same, ?_⟩
        have s2 : Same H1 (upd H3 d (.dK kvs)) := lock_same hd s3
        have neD : D ≠ d := fun y => by
          rw [y, s3 _ _ upd_same] at eD
          cases eD
        have ea : KvAt H1 acc (wo (bd.take kvs.length) z) := ea
        rw [hl, List.take_length] at ea
        exact ⟨D, wo bd z, rfl, ⟨acc, by rw [upd_ne neD]; exact eD, ea.tps s2.tps⟩, wo_ok ok e1, (q4 e1).same (s1.trans s2)⟩
end
end Bk
end
section
set_option Elab.async false
set_option linter.all false
set_option maxRecDepth 100000
set_option maxHeartbeats 4000000
/-! Book: is_within, __or__. -/
namespace Bk
open PySem PySem.Spec PyProof.Rows L2 ClX
theorem op_eqDK {X : Cx} {K : PySem.W.Frag} (hK : X.K = K) (hu : X.A.units + 64 < cLine) : OpR X (compareOp .Eq) (rEqD K) := by
  subst hK
  exact op_eqD hu
theorem op_neDK {X : Cx} {K : PySem.W.Frag} (hK : X.K = K) (hu : X.A.units + 64 < cLine) : OpR X (compareOp .NotEq) (rNeD K) := by
  subst hK
  exact op_neD hu
def withinB (bd bo : Bd) : Bool := bd.all fun e => decide (bo.lookup e.1 = some e.2)
def sharedB (bd bo : Bd) : List Str := (keys bd).filter fun x => (bo.lookup x).isSome
def clashB (bd bo : Bd) : Bool := (sharedB bd bo).any fun x => !decide (bd.lookup x = bo.lookup x)
def orBad (bd bo : Bd) : Bool := clashB bd bo || decide ((6 : Int) < (bd.length : Int) + (bo.length : Int) - ((sharedB bd bo).length : Int))
theorem split_len {α : Type} (p : α → Bool) : ∀ xs : List α, (xs.filter p).length + (xs.filter fun x => !p x).length = xs.length
  | [] => rfl
  | x :: xs => by
    have ih := split_len p xs
    rw [List.filter_cons, List.filter_cons]
    cases h : p x with
    | true =>
      simp only [h, if_true, Bool.not_true, Bool.false_eq_true, if_false, List.length_cons]
      omega
    | false =>
      simp only [h, Bool.false_eq_true, if_false, Bool.not_false, if_true, List.length_cons]
      omega
theorem shared_sym {bd bo : Bd} (n1 : (keys bd).Nodup) (n2 : (keys bo).Nodup) : (sharedB bd bo).Perm (sharedB bo bd) := by
  refine (List.perm_ext_iff_of_nodup (n1.filter _) (n2.filter _)).mpr fun x => ?_
  show x ∈ (keys bd).filter (fun x => (bo.lookup x).isSome) ↔ x ∈ (keys bo).filter (fun x => (bd.lookup x).isSome)
  rw [List.mem_filter, List.mem_filter, lookup_isSome_mem, lookup_isSome_mem]
  exact And.comm
theorem mrg_len {bd bo : Bd} (n1 : (keys bd).Nodup) (n2 : (keys bo).Nodup) : (mrgB bd bo).length + (sharedB bd bo).length = bd.length + bo.length := by
  have hp : (keys (mrgB bd bo)).Perm (keys bd ++ (keys bo).filter fun x => !(bd.lookup x).isSome) := by
    refine (List.perm_ext_iff_of_nodup (nd_mrgB n1) ?_).mpr fun x => ?_
    · refine List.nodup_append.mpr ⟨n1, n2.filter _, fun a ha b hb e => ?_⟩
      subst e
      have := (List.mem_filter.mp hb).2
      rw [lookup_isSome_mem.mpr ha] at this
      cases this
    · rw [keys_mrgB, List.mem_append, List.mem_filter]
      constructor
      · rintro (h | h)
        · exact .inl h
        · by_cases c : x ∈ keys bd
          · exact .inl c
          · refine .inr ⟨h, ?_⟩
            rw [lookup_none c]
            rfl
      · rintro (h | ⟨h, _⟩)
        · exact .inl h
        · exact .inr h
  have l1 := hp.length_eq
  rw [List.length_append, keys_len, keys_len] at l1
  have l2 := (shared_sym n1 n2).length_eq
  have l3 := split_len (fun x => (bd.lookup x).isSome) (keys bo)
  rw [keys_len] at l3
  have l4 : (sharedB bo bd).length = ((keys bo).filter fun x => (bd.lookup x).isSome).length := rfl
  omega
theorem mrg_ok {bd bo : Bd} (o1 : BdOk bd) (o2 : BdOk bo) (h : orBad bd bo = false) : BdOk (mrgB bd bo) := by
  unfold orBad at h
  rw [Bool.or_eq_false_iff] at h
  have h2 := of_decide_eq_false h.2
  have l := mrg_len o1.nd o2.nd
  have l1 := o1.l1
  refine ⟨?_, by omega, fun e he => (mem_mrgB he).elim (o1.ok e) (o2.ok e), nd_mrgB o1.nd⟩
  have : (sharedB bd bo).length ≤ bo.length := by
    rw [(shared_sym o1.nd o2.nd).length_eq]
    have := List.length_filter_le (fun x => (bd.lookup x).isSome) (keys bo)
    rw [keys_len] at this
    exact this
  omega
section
variable {P : Program} {w : World} {K : PySem.W.Frag} {mg : Str → Option Value} {base : Heap} {C CI CO CU fU : Addr}
abbrev spWithin (K : PySem.W.Frag) (C CI : Addr) : Sp := fun vs H Q E => (∃ b bd o bo, vs = [.ref b, .ref o] ∧ BookAt C H b bd ∧ BookAt C H o bo ∧ BdOk bd ∧ BdOk bo ∧ ∀ H', Same H H' → Q (.bl (withinB bd bo)) H') ∨
  ∃ b bd x, vs = [.ref b, x] ∧ BookAt C H b bd ∧ OddT K H x ∧ ∀ H', Same H H' → E (.ref CI) none H'
theorem scM7 : FnScope ["self", "other", "name"] ["self", "other"] (defScope (meth 7)) := ⟨rfl, rfl, rfl, by decide +kernel, rfl, by decide +kernel, by decide +kernel⟩
theorem ok_within {f : Addr} {fd : FuncData} (B : Bx K mg C CI CO CU fU) (F : Fun K "is_within" "Book.is_within" (meth 7) f fd) (N23 : Kn P w K mg base (L2.CX P w) 1 "require_book" ["book"] (spReqB K C CI)) : FnOk P w K mg base (L2.CX P w) 2 f fd ["self", "other"] (spWithin K C CI) := by
  refine okX F scM7 (fun vs H Q E h => ?_) (fun cdv A outer s H vs Q E hr h => ?_)
  · rcases h with ⟨b, bd, o, bo, rfl, _⟩ | ⟨b, bd, x, rfl, _⟩ <;> rfl
  · refine ⟨_, pss_cons (ps_expr (pk (E := E) N23 hr (Nat.le_refl _) (passes_call (takes_of rfl rfl rfl rfl) fun _ _ _ _ h => h) (pa_cons (pv 1) pa_nil)))
      (pss_one (ps_ret (pe_callB (cr_all rfl) (by rfl) B.T.all boot_all (pa_cons (pe_lock (pe_lc rfl scM7.nd (pi_keys (pe_fld (pv 0) rfl)) (blkOk_by (own := [("name", 2)]) (by rfl)) (fun _ _ _ _ _ => pg_name (i := 2) scM7.nd rfl (.inl rfl)) (fun _ _ _ _ _ => pts_nil)
        (fun _ _ _ _ _ => pe_cmpR (op_eqDK (K := K) rfl hr.units) (pe_dget1 (hu_of hr) (pe_fldK (K := K) rfl (pv 1) rfl) (pv 2) ⟨rfl, rfl, rfl, rfl⟩) (pe_dget (hu_of hr) (pe_fldK (K := K) rfl (pv 0) rfl) (pv 2) fun _ _ => rfl) (by with_unfolding_all rfl)))) pa_nil)))), ?_⟩
    rcases h with ⟨b, bd, o, bo, rfl, hb, ho, ok1, ok2, q⟩ | ⟨b, bd, x, rfl, hb, hx, q⟩
    · refine ⟨.ref o, rfl, .inl ⟨o, bo, rfl, ho, fun H1 s1 => ?_⟩⟩
      obtain ⟨dx, d, hb, kvs, hd, hkv⟩ := hb.same s1
      obtain ⟨dx2, d2, ho, kvo, hd2, hkvo⟩ := ho.same s1
      have hl := hkv.length
      have h6 := ok1.l6
      have nf : ∀ {e : Addr} {od : Obj} {x y z}, H1 e = some (.ins x y z) → (upd H1 d (.frz od (.dK kvs))) e = some (.ins x y z) := fun {e od x y z} he => by
        rw [upd_ne (fun y => by rw [y, hd] at he; cases he)]
        exact he
      refine ⟨d, _, hd, True.intro, fun od => ⟨.ref b, rfl, b, C, dx, [(oF, .ref d)], .ref d, rfl, nf hb, B.cls, B.na, rfl, d, od, rfl, .inl ⟨kvs, upd_same, fun D nD => ?_⟩⟩⟩
      have t0 : Tps H1 (upd H1 d (.frz od (.dK kvs))) := lock_tps hd
      refine lc_same walk_keys (fun i acc => acc = ((bd.take i).map fun e => decide (bo.lookup e.1 = some e.2)).map V.bl) nD rfl (fun H3 s3 => s3 _ _ upd_same) (fun i v acc H3 H4 hi ea s3 eD hy => ?_) fun acc H3 ea s3 eD => ?_
      · obtain ⟨rfl, k, v, ek, rfl⟩ := hy
        obtain ⟨y, p', eb, rfl, hv⟩ := hkv.get ek
        have hm : (y, p') ∈ bd := List.mem_of_getElem? eb
        have r2 : Rd H4 d2 (.dK kvo) := Bk.Rd.same s3 (lock_rd (od := od) hd hd2)
        have r1 : Rd H4 d (.dK kvs) := .inr ⟨od, s3 _ _ upd_same⟩
        have tt := t0.trans s3.tps
        have fin : ∀ b : Bool, b = decide (bo.lookup y = some p') → LcE (upd H1 d (.frz od (.dK kvs))) D (fun i acc => acc = ((bd.take i).map fun e => decide (bo.lookup e.1 = some e.2)).map V.bl) i (V.bl b) H4 := fun b hb => by
          refine lc_fin nD s3 eD (Same.refl _) ?_ ?_
          · rw [ea, List.length_map, List.length_map, List.length_take]
            omega
          · show acc ++ [V.bl b] = _
            rw [ea, take_snoc eb, List.map_append, List.map_append, hb]
            rfl
        have look1 : ∃ v', valV kvs (Sum.inr y) = some v' ∧ PrAt H1 v' p' := by
          rcases hkv.look y with ⟨v', p2, e3, e4, e5⟩ | ⟨e3, e4⟩
          · rw [lookup_of_mem' ok1.nd hm] at e4
            cases e4
            exact ⟨v', e3, e5⟩
          · rw [lookup_of_mem' ok1.nd hm] at e4
            cases e4
        obtain ⟨v', e1, e2⟩ := look1
        have sp := shaped_prD ((ok1.ok _ hm).2.s)
        refine ⟨rfl, yesT (iteT ⟨.ref o, rfl, o, C, dx2, [(oF, .ref d2)], .ref d2, rfl, s3 _ _ (nf ho), B.cls, B.na, rfl, d2, rfl, .inl ⟨kvo, r2⟩, .str y, rfl, ?_⟩)⟩
        rcases hkvo.look y with ⟨v2, p2, e3, e4, e5⟩ | ⟨e3, e4⟩
        · refine ⟨some v2, dget_rd (k := Sum.inr y) r2 e3, .ref b, rfl, b, C, dx, [(oF, .ref d)], .ref d, rfl, s3 _ _ (nf hb), B.cls, B.na, rfl, .str y, rfl, d, v', rfl, dget_rd (k := Sum.inr y) r1 e1, prD p2, prD p', (e5.tps tt).dp, (e2.tps tt).dp, shaped_prD ((ok2.ok _ (mem_of_lookup' e4)).2.s), sp, fin _ ?_⟩
          rw [eqv_prD, e4]
          simp
        · refine ⟨none, dget_rd (k := Sum.inr y) r2 e3, .ref b, rfl, b, C, dx, [(oF, .ref d)], .ref d, rfl, s3 _ _ (nf hb), B.cls, B.na, rfl, .str y, rfl, d, v', rfl, dget_rd (k := Sum.inr y) r1 e1, .none, prD p', .non, (e2.tps tt).dp, rfl, sp, fin _ ?_⟩
          rw [e4]
          rfl
      · have neD : D ≠ d := fun y => by
          rw [y, s3 _ _ upd_same] at eD
          cases eD
        have ea : acc = ((bd.take kvs.length).map fun e => decide (bo.lookup e.1 = some e.2)).map V.bl := ea
        rw [hl, List.take_length] at ea
        refine ⟨s3 _ _ upd_same, D, bd.map fun e => decide (bo.lookup e.1 = some e.2), rfl, sql (by rw [upd_ne neD, eD, ea]), ?_⟩
        have e : (bd.map fun e => decide (bo.lookup e.1 = some e.2)).all id = withinB bd bo := by
          rw [List.all_map]
          rfl
        rw [e]
        exact q _ (s1.trans (lock_same hd s3))
    · exact ⟨x, rfl, .inr ⟨x, rfl, hx, q⟩⟩
end
end Bk
end
section
set_option Elab.async false
set_option linter.all false
set_option maxRecDepth 100000
set_option maxHeartbeats 4000000
/-! Book: __or__. -/
namespace Bk
open PySem PySem.Spec PyProof.Rows L2 ClX
section
variable {P : Program} {w : World} {K : PySem.W.Frag} {mg : Str → Option Value} {base : Heap} {C CI CO CU fU : Addr}
theorem keys_take (bd : Bd) (i : Nat) : keys (bd.take i) = (keys bd).take i := List.map_take
theorem shared_snoc {bd bo : Bd} {x : Str} {p : Pr} {i : Nat} (h : bd[i]? = some (x, p)) : sharedB (bd.take (i + 1)) bo = if (bo.lookup x).isSome = true then sharedB (bd.take i) bo ++ [x] else sharedB (bd.take i) bo := by
  show (keys (bd.take (i + 1))).filter _ = if _ then (keys (bd.take i)).filter _ ++ [x] else (keys (bd.take i)).filter _
  rw [take_snoc h, keys_app, List.filter_append]
  by_cases c : (bo.lookup x).isSome = true
  · rw [if_pos c, show keys [(x, p)] = [x] from rfl, List.filter_cons, if_pos c]
    rfl
  · rw [if_neg c, show keys [(x, p)] = [x] from rfl, List.filter_cons, if_neg c]
    simp
abbrev spOr (K : PySem.W.Frag) (C CO : Addr) : Sp := fun vs H Q E => (∃ b bd o bo, vs = [.ref b, .ref o] ∧ BookAt C H b bd ∧ BookAt C H o bo ∧ BdOk bd ∧ BdOk bo ∧ (orBad bd bo = true → ∀ H', Same H H' → E (.ref CO) none H') ∧ (orBad bd bo = false → NewBk C H (mrgB bd bo) Q)) ∨
  ∃ b bd x, vs = [.ref b, x] ∧ BookAt C H b bd ∧ OddT K H x ∧ ∀ H', Same H H' → E (.ref CO) none H'
theorem scM8 : FnScope ["self", "other", "both", "pairs", "name"] ["self", "other"] (defScope (meth 8)) := ⟨rfl, rfl, rfl, by decide +kernel, rfl, by decide +kernel, by decide +kernel⟩
theorem ok_or {f fI : Addr} {fd : FuncData} (B : Bx K mg C CI CO CU fU) (F : Fun K "__or__" "Book.__or__" (meth 8) f fd) (M : Mk K C fI) (FI : FnKw P w K mg base L2.CX0 5 fI (spKw C)) : FnOk P w K mg base (L2.CX P w) 7 f fd ["self", "other"] (spOr K C CO) := by
  refine okX F scM8 (fun vs H Q E h => ?_) (fun cdv A outer s H vs Q E hr h => ?_)
  · rcases h with ⟨b, bd, o, bo, rfl, _⟩ | ⟨b, bd, x, rfl, _⟩ <;> rfl
  · obtain ⟨tC, eC⟩ := B.T.mC
    refine ⟨_, pss_cons (ps_if (pt_not (pt_val (p_isiC B.T.isi B.mB (pv 1)))) (pss_one (ps_rO B rfl (takes_of rfl rfl rfl rfl) (by rfl))) pss_nil)
      (pss_cons (ps_lock (ps_setLc (i := 2) rfl scM8.nd rfl rfl (by rfl) (pi_keys (pe_fld (pv 0) rfl)) (blkOk_by (own := [("name", 4)]) (by rfl)) (fun _ _ _ _ _ => pg_name (i := 4) scM8.nd rfl (.inl rfl))
        (fun _ _ _ _ _ => pts_one (pt_cmp (pc_din (hu_of hr) (pv 4) (pe_fldK (K := K) rfl (pv 1) rfl)))) (fun _ _ _ _ _ => pv 4)))
      (pss_cons (ps_if (pt_val (pe_callB (cr_any rfl) (by rfl) B.T.any boot_any (pa_cons (pe_lc rfl scM8.nd (pi_list (pv 2)) (blkOk_by (own := [("name", 4)]) (by rfl)) (fun _ _ _ _ _ => pg_name (i := 4) scM8.nd rfl (.inl rfl)) (fun _ _ _ _ _ => pts_nil)
        (fun _ _ _ _ _ => pe_cmpR (op_neDK (K := K) rfl hr.units) (pe_dget (hu_of hr) (pe_fldK (K := K) rfl (pv 0) rfl) (pv 4) fun _ _ => rfl) (pe_dget (hu_of hr) (pe_fldK (K := K) rfl (pv 1) rfl) (pv 4) fun _ _ => rfl) (by with_unfolding_all rfl))) pa_nil))) (pss_one (ps_rO B rfl (takes_of rfl rfl rfl rfl) (by rfl))) pss_nil)
      (pss_cons (ps_if (pt_cmpR op_gt (pe_op op_sub (pe_op op_add (pe_callB call_lenD (by rfl) B.T.len PySem.boot_len (pa_cons (pe_fld (pv 0) rfl) pa_nil)) (pe_callB call_lenD (by rfl) B.T.len PySem.boot_len (pa_cons (pe_fld (pv 1) rfl) pa_nil)))
          (pe_callB call_len (by rfl) B.T.len PySem.boot_len (pa_cons (pv 2) pa_nil))) (pe_glob (v := .int 6) (by rfl) eC ⟨_, rfl⟩) (by with_unfolding_all rfl)) (pss_one (ps_rO B rfl (takes_of rfl rfl rfl rfl) (by rfl))) pss_nil)
      (pss_cons (ps_set (i := 3) scM8.nd rfl (.inl rfl) (pe_disp2 (pe_fld (pv 0) rfl) (pe_fld (pv 1) rfl)))
      (pss_one (ps_ret (pe_makeD M FI hr (pe_glob (v := .ref C) (by rfl) B.mB rfl) (pv 3) (pass0)))))))), ?_⟩
    rcases h with ⟨b, bd, o, bo, rfl, hb, ho, ok1, ok2, q1, q2⟩ | ⟨b, bd, x, rfl, hb, ⟨T, hT, ty⟩, q⟩
    · refine ⟨.ref o, rfl, isi_mkC (B.ty ho) B.kB ⟨true, rfl, iteF ?_⟩⟩
      obtain ⟨dx, d, hb, kvs, hd, hkv⟩ := hb
      obtain ⟨dx2, d2, ho, kvo, hd2, hkvo⟩ := ho
      have hl := hkv.length
      have h6 := ok1.l6
      have h6' := ok2.l6
      have nf : ∀ {e : Addr} {od : Obj} {x y z}, H e = some (.ins x y z) → (upd H d (.frz od (.dK kvs))) e = some (.ins x y z) := fun {e od x y z} he => by
        rw [upd_ne (fun y => by rw [y, hd] at he; cases he)]
        exact he
      have shl : (sharedB bd bo).length ≤ 6 := by
        have : (sharedB bd bo).length ≤ (keys bd).length := List.length_filter_le _ _
        rw [keys_len] at this
        omega
      refine ⟨d, _, hd, True.intro, fun od => ⟨.ref b, rfl, b, C, dx, [(oF, .ref d)], .ref d, rfl, nf hb, B.cls, B.na, rfl, d, od, rfl, .inl ⟨kvs, upd_same, fun D nD => ?_⟩⟩⟩
      refine lc_same walk_keys (fun i acc => acc = (sharedB (bd.take i) bo).map V.str) nD rfl (fun H3 s3 => s3 _ _ upd_same) (fun i v acc H3 H4 hi ea s3 eD hy => ?_) fun acc H3 ea s3 eD => ?_
      · obtain ⟨rfl, k, v, ek, rfl⟩ := hy
        obtain ⟨y, p', eb, rfl, hv⟩ := hkv.get ek
        have r2 : Rd H4 d2 (.dK kvo) := Bk.Rd.same s3 (lock_rd (od := od) hd hd2)
        have es := shared_snoc (bo := bo) eb
        refine ⟨rfl, .str y, rfl, .ref o, rfl, o, C, dx2, [(oF, .ref d2)], .ref d2, rfl, s3 _ _ (nf ho), B.cls, B.na, rfl, d2, valV kvo (Sum.inr y), rfl, dget_rd (k := Sum.inr y) r2 rfl, _, rfl, ?_⟩
        have el : (valV kvo (Sum.inr y)).isSome = (bo.lookup y).isSome := by
          rcases hkvo.look y with ⟨v2, p2, e3, e4, e5⟩ | ⟨e3, e4⟩
          · rw [e3, e4] <;> rfl
          · rw [e3, e4] <;> rfl
        rw [el]
        by_cases c : (bo.lookup y).isSome = true
        · rw [if_pos c] at es
          rw [c]
          refine iteT ⟨.str y, rfl, lc_fin nD s3 eD (Same.refl _) ?_ ?_⟩
          · have : (sharedB (bd.take i) bo).length ≤ (keys (bd.take i)).length := List.length_filter_le _ _
            rw [keys_len, List.length_take] at this
            rw [ea, List.length_map]
            omega
          · show acc ++ [V.str y] = (sharedB (bd.take (i + 1)) bo).map V.str
            rw [ea, es, List.map_append]
            rfl
        · rw [if_neg c] at es
          rw [Bool.not_eq_true] at c
          rw [c]
          refine iteF ⟨acc, ?_, s3, eD⟩
          show acc = (sharedB (bd.take (i + 1)) bo).map V.str
          rw [ea, es]
      have neD : D ≠ d := fun y => by
        rw [y, s3 _ _ upd_same] at eD
        cases eD
      have ea : acc = (sharedB (bd.take kvs.length) bo).map V.str := ea
      rw [hl, List.take_length] at ea
      refine ⟨s3 _ _ upd_same, ?_⟩
      have s1 : Same H (upd H3 d (.dK kvs)) := lock_same hd s3
      have eD1 : (upd H3 d (.dK kvs)) D = some (.lst ((sharedB bd bo).map V.str)) := by rw [upd_ne neD, eD, ea]
      refine ⟨.ref D, rfl, D, rfl, ⟨_, sql eD1⟩, fun D2 nD2 => ?_⟩
      refine lc_same (walk_list (K := K)) (fun i acc => acc = (((sharedB bd bo).take i).map fun x => !decide (bd.lookup x = bo.lookup x)).map V.bl) nD2 rfl (fun H4 s4 => sql (s4 _ _ eD1)) (fun i v acc H4 H5 hi ea s4 eD2 hy => ?_) fun acc H4 ea s4 eD2 => ?_
      · obtain ⟨rfl, ex⟩ := hy
        obtain ⟨y, hy, rfl⟩ := at_map ex
        have hm := List.mem_of_getElem? hy
        obtain ⟨m1, m2⟩ := List.mem_filter.mp hm
        have sF := s1.trans s4
        rcases hkv.look y with ⟨v1, p1, e1, e2, e3⟩ | ⟨e1, e2⟩
        · rcases hkvo.look y with ⟨v2, p2, e4, e5, e6⟩ | ⟨e4, e5⟩
          · refine ⟨rfl, yesT (iteT ⟨.ref b, rfl, b, C, dx, [(oF, .ref d)], .ref d, rfl, sF _ _ hb, B.cls, B.na, rfl, .str y, rfl, d, v1, rfl, dget_rd (k := Sum.inr y) (.inl (sF _ _ hd)) e1,
              .ref o, rfl, o, C, dx2, [(oF, .ref d2)], .ref d2, rfl, sF _ _ ho, B.cls, B.na, rfl, .str y, rfl, d2, v2, rfl, dget_rd (k := Sum.inr y) (.inl (sF _ _ hd2)) e4,
              prD p1, prD p2, (e3.tps sF.tps).dp, (e6.tps sF.tps).dp, shaped_prD (ok1.ok _ (mem_of_lookup' e2)).2.s, shaped_prD (ok2.ok _ (mem_of_lookup' e5)).2.s, lc_fin nD2 s4 eD2 (Same.refl _) ?_ ?_⟩)⟩
            · rw [ea, List.length_map, List.length_map, List.length_take]
              omega
            · show acc ++ _ = (((sharedB bd bo).take (i + 1)).map fun x => !decide (bd.lookup x = bo.lookup x)).map V.bl
              rw [ea, take_snoc hy, List.map_append, List.map_append, eqv_prD]
              show _ = _ ++ [V.bl (!decide (bd.lookup y = bo.lookup y))]
              rw [e2, e5]
              simp
          · rw [e5] at m2
            cases m2
        · exact absurd (lookup_isSome_mem.mpr m1) (by rw [e2]; simp)
      have ea : acc = (((sharedB bd bo).take ((sharedB bd bo).map V.str).length).map fun x => !decide (bd.lookup x = bo.lookup x)).map V.bl := ea
      rw [List.length_map, List.take_length] at ea
      refine ⟨D2, _, rfl, sql (by rw [eD2, ea]), ?_⟩
      have ec : ((sharedB bd bo).map fun x => !decide (bd.lookup x = bo.lookup x)).any id = clashB bd bo := by
        rw [List.any_map]
        rfl
      rw [ec]
      have sF := s1.trans s4
      refine ⟨clashB bd bo, rfl, ite2 (fun c => q1 (by unfold orBad; rw [c]; rfl) H4 sF) fun c => ?_⟩
      have eD3 := s4 _ _ eD1
      refine ⟨.ref b, rfl, b, C, dx, [(oF, .ref d)], .ref d, rfl, sF _ _ hb, B.cls, B.na, rfl, d, kvs, rfl, sF _ _ hd, .ref o, rfl, o, C, dx2, [(oF, .ref d2)], .ref d2, rfl, sF _ _ ho, B.cls, B.na, rfl, d2, kvo, rfl, sF _ _ hd2, _, _, rfl, rfl,
        .ref D, rfl, .ref D, _, rfl, lenL eD3, _, _, rfl, rfl, _, 6, rfl, rfl, _, rfl, ?_⟩
      rw [List.length_map, hkv.length, hkvo.length]
      refine ite2 (fun c2 => q1 (by unfold orBad; rw [c2, Bool.or_true]) H4 sF) fun c2 => ?_
      have bad : orBad bd bo = false := by
        unfold orBad
        rw [Bool.not_eq_true] at c c2
        rw [c, c2]
        rfl
      refine fun dn ndn => ?_
      have s5 : Same H4 (upd H4 dn (.dK [])) := Same.new ndn
      have nx : ∀ {e : Addr} {u : HO}, H4 e = some u → dn ≠ e := fun {e u} h z => by
        rw [← z, ndn] at h
        cases h
      have n1 := nx (sF _ _ hd)
      have n2 := nx (sF _ _ hd2)
      have n3 := nx (sF _ _ ho)
      have n4 := nx (sF _ _ hb)
      refine ⟨.ref b, rfl, b, C, dx, [(oF, .ref d)], .ref d, rfl, s5 _ _ (sF _ _ hb), B.cls, B.na, rfl, d, kvs, rfl, s5 _ _ (sF _ _ hd), upd_same, n1, ?_⟩
      have s6 : Same H4 (upd (upd H4 dn (.dK [])) dn (.dK (mergeK [] kvs))) := s5.chg ndn
      refine ⟨.ref o, rfl, o, C, dx2, [(oF, .ref d2)], .ref d2, rfl, s6 _ _ (sF _ _ ho), B.cls, B.na, rfl, d2, kvo, rfl, s6 _ _ (sF _ _ hd2), upd_same, n2, ?_, ?_⟩
      · rw [hkv.length, hkvo.length, sizeLine_eq]
        omega
      · have s7 : Same H4 (upd (upd (upd H4 dn (.dK [])) dn (.dK (mergeK [] kvs))) dn (.dK (mergeK (mergeK [] kvs) kvo))) := s6.chg ndn
        have k1 : KvAt H (mergeK (mergeK [] kvs) kvo) (mrgB bd bo) := by
          have := hkvo.mrg (hkv.mrg (.nil : KvAt H [] []))
          rw [mrg_nil (show (keys ([] ++ bd)).Nodup from ok1.nd)] at this
          exact this
        obtain ⟨ks, ek, _⟩ := kv_inr k1
        refine ⟨rfl, .ref dn, rfl, dn, ks, rfl, by rw [upd_same, ek], mk_new ?_ (mrg_ok ok1 ok2 bad) ((q2 bad).same (sF.trans s7))⟩
        rw [← ek]
        exact k1.tps (sF.trans s7).tps
    · exact ⟨x, rfl, isi_mkC ty (B.kT T hT) ⟨false, rfl, iteT (q H (Same.refl _))⟩⟩
end
end Bk
end
section
set_option Elab.async false
set_option linter.all false
set_option maxRecDepth 100000
set_option maxHeartbeats 4000000
/-! The law's dice: _law_dice, _law_roll, _law_one_of, _law_mixed. -/
namespace Bk
open PySem PySem.Spec PyProof.Rows L2
theorem op_powW {X : Cx} : OpR X (binaryOp .Pow) (rI (fun i j => 0 ≤ j ∧ (Builtin.Int.intBits i : Int) * j ≤ 2 ^ 27) fun i j => .int (i ^ j.toNat)) := opI fun _ _ _ _ _ _ _ hc q => pow_int hc.1 hc.2 q
section
variable {P : Program} {w : World} {K : PySem.W.Frag} {mg : Str → Option Value} {base : Heap}
abbrev spRoll : Sp := fun vs H Q _ => ∃ p n, vs = [.ref p, .int n] ∧ DiceAt H p ∧ 0 < n ∧ n ≤ 1000 ∧ ∀ r H', But p H H' → DiceAt H' p → 0 ≤ r → r < n → Q (.int r) H'
theorem sc27 : FnScope ["_law_dice_here", "_law_total", "_law_found", "_law_one", "_law_two"] ["_law_dice_here", "_law_total"] (defScope (top 27)) := ⟨rfl, rfl, rfl, by decide +kernel, rfl, by decide +kernel, by decide +kernel⟩
theorem ok_roll {f : Addr} {fd : FuncData} (F : Fun K "_law_roll" "_law_roll" (top 27) f fd) (T : Tx K mg) : FnOk P w K mg base L2.CX0 1 f fd ["_law_dice_here", "_law_total"] spRoll := by
  refine F.ok sc27 (fun vs H Q E h => ?_) (fun cdv A outer s H vs Q E hr h => ?_)
  · obtain ⟨p, n, rfl, _⟩ := h
    rfl
  · obtain ⟨p, n, rfl, ⟨x, y, z, hp, x0, x1, y0, y1, z0⟩, n0, n1, q⟩ := h
    refine ⟨_, pss_cons (ps_if (pt_cmpR op_gt (pe_ix ix_list (pv 0) pe_int fun _ _ => rfl) pe_int (by with_unfolding_all rfl))
        (pss_cons (ps_set (i := 2) sc27.nd rfl (.inl rfl) (pe_op op_mod (pe_callTy call_int1 (by rfl) T.int PyProof.Rows.boot_int (pa_cons (pe_ix ix_list (pv 0) pe_int fun _ _ => rfl) pa_nil)) (pv 1)))
        (pss_cons (ps_asg (pe_op op_fdiv (pe_ix ix_list (pv 0) pe_int fun _ _ => rfl) (pv 1)) (pg_sub (pv 0) pe_int set_list (by intro _; rfl)))
        (pss_one (ps_ret (pv 2))))) pss_nil)
      (pss_cons (ps_asg (pe_op op_add (pe_ix ix_list (pv 0) pe_int fun _ _ => rfl) pe_int) (pg_sub (pv 0) pe_int set_list (by intro _; rfl)))
      (pss_cons (ps_set (i := 3) sc27.nd rfl (.inl rfl) (pe_op op_mod (pe_callTy call_int1 (by rfl) T.int PyProof.Rows.boot_int (pa_cons (pe_op op_add (pe_ix ix_list (pv 0) pe_int fun _ _ => rfl) (pe_op op_mul pe_int (pe_ix ix_list (pv 0) pe_int fun _ _ => rfl))) pa_nil)) pe_int))
      (pss_cons (ps_set (i := 4) sc27.nd rfl (.inl rfl) (pe_op op_add (pe_op op_mul (pe_op op_mod (pe_callTy call_int1 (by rfl) T.int PyProof.Rows.boot_int (pa_cons (pe_op op_mul (pv 3) (pv 3)) pa_nil)) pe_int) (pv 3)) (pe_op op_mul pe_int (pe_ix ix_list (pv 0) pe_int fun _ _ => rfl))))
      (pss_cons (ps_set (i := 4) sc27.nd rfl (.inl rfl) (pe_op op_mod (pe_callTy call_int1 (by rfl) T.int PyProof.Rows.boot_int (pa_cons (pv 4) pa_nil)) pe_int))
      (pss_one (ps_ret (pe_op op_mod (pe_callTy call_int1 (by rfl) T.int PyProof.Rows.boot_int (pa_cons (pe_op op_fdiv (pv 4) pe_int) pa_nil)) (pv 1)))))))), ?_⟩
    have hq := sql (K := K) hp
    have emod : ∀ i : Int, 0 ≤ i % n ∧ i % n < n := fun i => ⟨Int.emod_nonneg _ (by omega), Int.emod_lt_of_pos _ n0⟩
    refine ⟨.ref p, rfl, p, _, 0, .int x, rfl, rfl, hq, rfl, x, 0, rfl, rfl, _, rfl, ite2 (fun c => ?_) fun c => ?_⟩
    · refine ⟨.ref p, rfl, p, _, 0, .int x, rfl, rfl, hq, rfl, .inl ⟨x, rfl, .int n, rfl, x, n, rfl, rfl, n0, ?_⟩⟩
      refine ⟨.ref p, rfl, p, _, 0, .int x, rfl, rfl, hq, rfl, .int n, rfl, x, n, rfl, rfl, ⟨n0, by omega⟩, ?_⟩
      refine ⟨.ref p, rfl, p, _, 0, 0, rfl, rfl, hp, rfl, .int (x % n), rfl, ?_⟩
      refine q _ _ (But.refl p H).own ⟨x / n, y, z, upd_same, Int.ediv_nonneg x0 (by omega), ?_, y0, y1, z0⟩ (emod x).1 (emod x).2
      exact Int.lt_of_le_of_lt (Int.ediv_le_self n x0) x1
    · refine ⟨.ref p, rfl, p, _, 2, .int z, rfl, rfl, hq, rfl, z, 1, rfl, rfl, ?_⟩
      refine ⟨.ref p, rfl, p, _, 2, 2, rfl, rfl, hp, rfl, ?_⟩
      have hp2 : (upd H p (.lst [V.int x, V.int y, V.int (z + 1)])) p = some (.lst [V.int x, V.int y, V.int (z + 1)]) := upd_same
      have hq2 := sql (K := K) hp2
      refine ⟨.ref p, rfl, p, [V.int x, V.int y, V.int (z + 1)], 1, .int y, rfl, rfl, hq2, rfl, .ref p, rfl, p, [V.int x, V.int y, V.int (z + 1)], 2, .int (z + 1), rfl, rfl, hq2, rfl, 1000193, z + 1, rfl, rfl, .inl ⟨by decide, by decide⟩, y, _, rfl, rfl, .inl ⟨_, rfl, _, 2305843009213693951, rfl, rfl, by show (0 : Int) < 2305843009213693951; decide, ?_⟩⟩
      have m1 : 0 ≤ (y + 1000193 * (z + 1)) % 2305843009213693951 := Int.emod_nonneg _ (by decide)
      have m2 : (y + 1000193 * (z + 1)) % 2305843009213693951 < 2305843009213693951 := Int.emod_lt_of_pos _ (by decide)
      have co : ∀ j : Int, CMul ((y + 1000193 * (z + 1)) % 2305843009213693951) j := fun j => .inl ⟨by omega, by omega⟩
      have co' : ∀ j : Int, CMul j ((y + 1000193 * (z + 1)) % 2305843009213693951) := fun j => .inr ⟨by omega, by omega⟩
      refine ⟨_, rfl, _, rfl, _, _, rfl, rfl, co _, .inl ⟨_, rfl, _, 2305843009213693921, rfl, rfl, by show (0 : Int) < 2305843009213693921; decide, _, rfl, _, _, rfl, rfl, co' _, ?_⟩⟩
      refine ⟨.ref p, rfl, p, [V.int x, V.int y, V.int (z + 1)], 2, .int (z + 1), rfl, rfl, hq2, rfl, 8221, z + 1, rfl, rfl, .inl ⟨by decide, by decide⟩, _, _, rfl, rfl, ?_⟩
      refine ⟨_, rfl, .inl ⟨_, rfl, _, 2305843009213693907, rfl, rfl, by show (0 : Int) < 2305843009213693907; decide, ?_⟩⟩
      refine ⟨_, rfl, _, 8192, rfl, rfl, ⟨by decide, by decide⟩, .inl ⟨_, rfl, .int n, rfl, _, n, rfl, rfl, n0, ?_⟩⟩
      exact q _ _ (But.refl p H).own ⟨x, y, z + 1, upd_same, x0, x1, y0, y1, by omega⟩ (emod _).1 (emod _).2
end
end Bk
end
section
set_option Elab.async false
set_option linter.all false
set_option maxRecDepth 100000
set_option maxHeartbeats 4000000
/-! _law_dice, _law_one_of, _law_mixed. -/
namespace Bk
open PySem PySem.Spec PyProof.Rows L2
theorem call_lenK {X : Cx} {K : PySem.W.Frag} (hK : X.K = K) : CallR X (.builtin "len") (fun xs H Q => ∃ x n, xs = [x] ∧ LenV K x H n ∧ Q (.int n) H) := by
  subst hK
  exact call_len
theorem erase_perm {α : Type} : ∀ {xs : List α} {k : Nat} {y : α}, xs[k]? = some y → (y :: xs.eraseIdx k).Perm xs
  | [], _, _, h => by simp at h
  | x :: xs, 0, y, h => by
    have e : x = y := by simpa using h
    subst e
    exact .refl _
  | x :: xs, k + 1, y, h => by
    have h : xs[k]? = some y := by simpa using h
    exact (List.Perm.swap x y _).trans ((erase_perm h).cons x)
section
variable {P : Program} {w : World} {K : PySem.W.Frag} {mg : Str → Option Value} {base : Heap}
abbrev spDice (K : PySem.W.Frag) : Sp := fun vs H Q _ => ∃ (a : Addr) (ns : List Int) (j : Nat), vs = [.ref a, .int ((j : Nat) : Int)] ∧ SqL K H a (ns.map V.int) ∧ ∀ p H', H p = none → Same H H' → DiceAt H' p → Q (.ref p) H'
theorem sc26 : FnScope ["_law_script", "_law_at", "_law_cell", "_law_great", "_law_mixed_here"] ["_law_script", "_law_at"] (defScope (top 26)) := ⟨rfl, rfl, rfl, by decide +kernel, rfl, by decide +kernel, by decide +kernel⟩
theorem big_pos : (0 : Int) < ((10 : Int) ^ (60 : Int).toNat) ^ (12 : Int).toNat := by decide +kernel
theorem big_lt : ((10 : Int) ^ (60 : Int).toNat) ^ (12 : Int).toNat < 2 ^ 4000 := by decide +kernel
theorem p60 : (0 : Int) ≤ 60 ∧ (Builtin.Int.intBits 10 : Int) * 60 ≤ 2 ^ 27 := by decide +kernel
theorem p12 : (0 : Int) ≤ 12 ∧ (Builtin.Int.intBits ((10 : Int) ^ (60 : Int).toNat) : Int) * 12 ≤ 2 ^ 27 := by decide +kernel
theorem p18 : (0 : Int) ≤ 18 ∧ (Builtin.Int.intBits 10 : Int) * 18 ≤ 2 ^ 27 := by decide +kernel
theorem ok_dice {f : Addr} {fd : FuncData} (F : Fun K "_law_dice" "_law_dice" (top 26) f fd) (T : Tx K mg) : FnOk P w K mg base L2.CX0 1 f fd ["_law_script", "_law_at"] (spDice K) := by
  refine F.ok sc26 (fun vs H Q E h => ?_) (fun cdv A outer s H vs Q E hr h => ?_)
  · obtain ⟨a, ns, j, rfl, _⟩ := h
    rfl
  · obtain ⟨a, ns, j, rfl, hs, q⟩ := h
    refine ⟨_, pss_cons (ps_set (i := 2) sc26.nd rfl (.inl rfl) (pe_op op_add (pe_op op_mul pe_int (pv 1)) pe_int))
      (pss_cons (ps_if (pt_cmpR op_lt (pv 1) (pe_callB call_len (by rfl) T.len PySem.boot_len (pa_cons (pv 0) pa_nil)) (by with_unfolding_all rfl)) (pss_one (ps_set (i := 2) sc26.nd rfl (.inl rfl) (pe_ix ix_list (pv 0) (pv 1) fun _ _ => rfl))) pss_nil)
      (pss_cons (ps_set (i := 3) sc26.nd rfl (.inl rfl) (pe_op op_mod (pe_callTy call_int1 (by rfl) T.int PyProof.Rows.boot_int (pa_cons (pe_callB call_abs (by rfl) T.abs boot_abs (pa_cons (pv 2) pa_nil)) pa_nil)) (pe_op op_powW (pe_op op_powW pe_int pe_int) pe_int)))
      (pss_cons (ps_set (i := 4) sc26.nd rfl (.inl rfl) (pe_op op_add (pe_op op_add (pe_op op_add (pe_op op_mul (pe_op op_mod (pe_callTy call_int1 (by rfl) T.int PyProof.Rows.boot_int (pa_cons (pv 3) pa_nil)) pe_int) pe_int) (pe_op op_mul pe_int (pv 1)))
          (pe_op op_mul pe_int (pe_callTy call_int1 (by rfl) T.int PyProof.Rows.boot_int (pa_cons (pe_cmpR op_lt (pv 2) pe_int (by with_unfolding_all rfl)) pa_nil)))) pe_int))
      (pss_one (ps_ret (pe_lst (pa_cons (pe_callB (call_max2 rfl) (by rfl) T.max boot_max (pa_cons pe_int (pa_cons (pe_op op_sub (pv 3) (pe_op op_powW pe_int pe_int)) pa_nil)))
        (pa_cons (pe_op op_mod (pe_callTy call_int1 (by rfl) T.int PyProof.Rows.boot_int (pa_cons (pv 4) pa_nil)) pe_int) (pa_cons pe_int pa_nil))))))))), ?_⟩
    have fin : ∀ y g : Int, 0 ≤ g → g < 2 ^ 4000 → ∀ p, H p = none → Q (.ref p) (upd H p (.lst [.int (if g - 10 ^ (18 : Int).toNat > 0 then g - 10 ^ (18 : Int).toNat else 0), .int (y % 2305843009213693907), .int 0])) := fun y g g0 g1 p np => by
      have hp : (0 : Int) ≤ 10 ^ (18 : Int).toNat := by decide +kernel
      refine q p _ np (Same.new np) ⟨_, _, 0, upd_same, ?_, ?_, Int.emod_nonneg _ (by decide), ?_, Int.le_refl _⟩
      · split <;> omega
      · split <;> omega
      · have := Int.emod_lt_of_pos y (show (0 : Int) < 2305843009213693907 by decide)
        omega
    have tail : ∀ c : Int, 0 ≤ (if c < 0 then -c else c) % ((10 : Int) ^ (60 : Int).toNat) ^ (12 : Int).toNat ∧ (if c < 0 then -c else c) % ((10 : Int) ^ (60 : Int).toNat) ^ (12 : Int).toNat < 2 ^ 4000 := fun c =>
      ⟨Int.emod_nonneg _ (Int.ne_of_gt big_pos), Int.lt_trans (Int.emod_lt_of_pos _ big_pos) big_lt⟩
    refine ⟨.int j, rfl, 31, j, rfl, rfl, .inl ⟨by decide, by decide⟩, _, 5, rfl, rfl, ?_⟩
    refine ⟨.int j, rfl, .ref a, rfl, .ref a, _, rfl, .inl ⟨_, hs, rfl⟩, j, _, rfl, rfl, _, rfl, ite2 (fun c => ?_) fun c => ?_⟩
    · rw [List.length_map] at c
      have c : j < ns.length := by
        have := of_decide_eq_true c
        omega
      refine ⟨.ref a, rfl, .int j, rfl, a, ns.map V.int, j, .int (ns[j]), rfl, rfl, hs, atI_nat (by rw [List.getElem?_map, List.getElem?_eq_getElem c] <;> rfl), ?_⟩
      refine ⟨_, rfl, _, rfl, .inl ⟨_, rfl, 10, 60, rfl, rfl, p60, _, 12, rfl, rfl, p12, _, _, rfl, rfl, big_pos, ?_⟩⟩
      refine ⟨_, rfl, .inl ⟨_, rfl, _, 2147483549, rfl, rfl, by show (0 : Int) < 2147483549; decide, _, 60013, rfl, rfl, .inr ⟨by decide, by decide⟩, _, rfl, 4099, j, rfl, rfl, .inl ⟨by decide, by decide⟩, _, _, rfl, rfl,
        _, rfl, _, 0, rfl, rfl, .inr ⟨_, rfl, 17, _, rfl, rfl, .inl ⟨by decide, by decide⟩, _, _, rfl, rfl, _, 43, rfl, rfl, ?_⟩⟩⟩
      refine ⟨_, rfl, 10, 18, rfl, rfl, p18, _, _, rfl, rfl, 0, _, rfl, _, rfl, .inl ⟨_, rfl, _, 2305843009213693907, rfl, rfl, by show (0 : Int) < 2305843009213693907; decide, by show 3 ≤ sizeLine; rw [sizeLine_eq]; omega, ?_⟩⟩
      exact fin _ _ (tail _).1 (tail _).2
    · refine ⟨_, rfl, _, rfl, .inl ⟨_, rfl, 10, 60, rfl, rfl, p60, _, 12, rfl, rfl, p12, _, _, rfl, rfl, big_pos, ?_⟩⟩
      refine ⟨_, rfl, .inl ⟨_, rfl, _, 2147483549, rfl, rfl, by show (0 : Int) < 2147483549; decide, _, 60013, rfl, rfl, .inr ⟨by decide, by decide⟩, _, rfl, 4099, j, rfl, rfl, .inl ⟨by decide, by decide⟩, _, _, rfl, rfl,
        _, rfl, _, 0, rfl, rfl, .inr ⟨_, rfl, 17, _, rfl, rfl, .inl ⟨by decide, by decide⟩, _, _, rfl, rfl, _, 43, rfl, rfl, ?_⟩⟩⟩
      refine ⟨_, rfl, 10, 18, rfl, rfl, p18, _, _, rfl, rfl, 0, _, rfl, _, rfl, .inl ⟨_, rfl, _, 2305843009213693907, rfl, rfl, by show (0 : Int) < 2305843009213693907; decide, by show 3 ≤ sizeLine; rw [sizeLine_eq]; omega, ?_⟩⟩
      exact fin _ _ (tail _).1 (tail _).2
/-! ### one of -/
abbrev spOne : Sp := fun vs H Q _ => ∃ p a xs, vs = [.ref p, .ref a] ∧ DiceAt H p ∧ H a = some (.lst xs) ∧ a ≠ p ∧ 0 < xs.length ∧ xs.length ≤ 1000 ∧ ∀ x H', But p H H' → DiceAt H' p → x ∈ xs → Q x H'
theorem sc28 : FnScope ["_law_dice_here", "_law_items"] ["_law_dice_here", "_law_items"] (defScope (top 28)) := ⟨rfl, rfl, rfl, by decide +kernel, rfl, by decide +kernel, by decide +kernel⟩
theorem ok_one {f : Addr} {fd : FuncData} (F : Fun K "_law_one_of" "_law_one_of" (top 28) f fd) (T : Tx K mg) (N27 : Kn P w K mg base L2.CX0 1 "_law_roll" ["_law_dice_here", "_law_total"] spRoll) : FnOk P w K mg base L2.CX0 2 f fd ["_law_dice_here", "_law_items"] spOne := by
  refine F.ok sc28 (fun vs H Q E h => ?_) (fun cdv A outer s H vs Q E hr h => ?_)
  · obtain ⟨p, a, xs, rfl, _⟩ := h
    rfl
  · obtain ⟨p, a, xs, rfl, hd, ha, ne, l0, l1, q⟩ := h
    refine ⟨_, pss_one (ps_ret (pe_ix ix_list (pv 1) (pk0 N27 hr (Nat.le_refl _) (pa_cons (pv 0) (pa_cons (pe_callB call_len (by rfl) T.len PySem.boot_len (pa_cons (pv 1) pa_nil)) pa_nil))) fun _ _ => rfl)), ?_⟩
    refine ⟨.ref a, rfl, .ref p, rfl, .ref a, rfl, .ref a, _, rfl, lenL ha, p, _, rfl, hd, by omega, by omega, fun r H1 b1 d1 r0 r1 => ?_⟩
    have hr1 : r.toNat < xs.length := by omega
    have er : r = ((r.toNat : Nat) : Int) := by omega
    have e2 : atI xs r = some xs[r.toNat] := by
      have := atI_nat (List.getElem?_eq_getElem hr1)
      rw [← er] at this
      exact this
    exact ⟨a, xs, r, xs[r.toNat], rfl, rfl, sql (b1 _ _ ha ne), e2, q _ H1 b1 d1 (List.getElem_mem hr1)⟩
end
end Bk
end
section
set_option Elab.async false
set_option linter.all false
set_option maxRecDepth 100000
set_option maxHeartbeats 4000000
/-! _law_mixed. -/
namespace Bk
open PySem PySem.Spec PyProof.Rows L2
theorem pe_popK {X : Cx} {K : PySem.W.Frag} {o e : Expr} {to : TE} {t : TA} {apos cpos : Pos} (hK : X.K = K) (ho : PE X o to) (ha : PA X [e] t)
    (hbase : attributeBase o "pop" X.env (eval o X.env) = eval o X.env := by rfl)
    (hfew : ((backTo cpos (starEach [e] X.env)).all (fun x => !x.1) && (backToKw cpos (keywordEach [] X.env)).all (fun x => x.1.isSome)
      && decide ([e].length + ([] : List Keyword).length + (if ([] : List Keyword).isEmpty then 0 else 1) < 30)) = true := by rfl)
    (hline : (apos.endLine == cpos.line) = true := by rfl) (hs : starEach [e] X.env = (false, eval e X.env) :: starEach [] X.env := by rfl) (hplain : (backTo cpos (starEach [] X.env)).any (·.1) = false := by rfl) :
    PE X (.Call (.Attribute o "pop" apos) [e] [] cpos) (tBM K "list" rPopAt to t) := by
  subst hK
  exact pe_bm PySem.F.plainAttrs_list PySem.F.slot_list_pop PySem.F.type_list_pop mt_popAt ho ha hbase hfew hline hs hplain
section
variable {P : Program} {w : World} {K : PySem.W.Frag} {mg : Str → Option Value} {base : Heap}
abbrev spMixed : Sp := fun vs H Q _ => ∃ p a xs, vs = [.ref p, .ref a] ∧ DiceAt H p ∧ H a = some (.lst xs) ∧ a ≠ p ∧ xs.length ≤ 1000 ∧ ∀ l H' ys, H l = none → But p H H' → DiceAt H' p → H' l = some (.lst ys) → ys.Perm xs → Q (.ref l) H'
theorem sc29 : FnScope ["_law_dice_here", "_law_items", "_law_left", "_law_turn"] ["_law_dice_here", "_law_items"] (defScope (top 29)) := ⟨rfl, rfl, rfl, by decide +kernel, rfl, by decide +kernel, by decide +kernel⟩
theorem DiceAt.some {H : Hp} {p : Addr} (h : DiceAt H p) : ∃ xs, H p = some (.lst xs) := by
  obtain ⟨x, y, z, h, _⟩ := h
  exact ⟨_, h⟩
theorem DiceAt.upd {H : Hp} {p q : Addr} {o : HO} (h : DiceAt H p) (n : q ≠ p) : DiceAt (upd H q o) p := by
  obtain ⟨x, y, z, h1, h2⟩ := h
  exact ⟨x, y, z, by rw [upd_ne (Ne.symm n)]; exact h1, h2⟩
theorem ok_mixed {f : Addr} {fd : FuncData} (F : Fun K "_law_mixed" "_law_mixed" (top 29) f fd) (T : Tx K mg) (N27 : Kn P w K mg base L2.CX0 1 "_law_roll" ["_law_dice_here", "_law_total"] spRoll) : FnOk P w K mg base L2.CX0 2 f fd ["_law_dice_here", "_law_items"] spMixed := by
  refine F.ok sc29 (fun vs H Q E h => ?_) (fun cdv A outer s H vs Q E hr h => ?_)
  · obtain ⟨p, a, xs, rfl, _⟩ := h
    rfl
  · obtain ⟨p, a, xs, rfl, hd, ha, ne, l1, q⟩ := h
    refine ⟨_, pss_cons (ps_set (i := 2) sc29.nd rfl (.inr rfl) (pe_callTy call_list_of (by rfl) T.lst PyProof.Rows.boot_list (pa_cons (pv 1) pa_nil)) (by rfl) (.inl rfl))
      (pss_one (ps_ret (pe_lc rfl sc29.nd (pi_range1 (by rfl) T.rng (pa_cons (pe_callB call_len (by rfl) T.len PySem.boot_len (pa_cons (pv 1) pa_nil)) pa_nil)) (blkOk_by (own := [("_law_turn", 3)]) (by rfl)) (fun _ _ _ _ _ => pg_name (i := 3) sc29.nd rfl (.inl rfl)) (fun _ _ _ _ _ => pts_nil)
        (fun _ _ _ _ _ => pe_popK (K := K) rfl (pv 2) (pa_cons (pk0 N27 hr (Nat.le_refl _) (pa_cons (pv 0) (pa_cons (pe_callB (call_lenK (K := K) rfl) (by rfl) T.len PySem.boot_len (pa_cons (pv 2) pa_nil)) pa_nil))) pa_nil))))), ?_⟩
    obtain ⟨dz, hdz⟩ := hd.some
    refine ⟨.ref a, rfl, a, xs, rfl, .inl (sql ha), fun L nL => ?_⟩
    have neL : L ≠ p := fun z => by
      rw [z, hdz] at nL
      cases nL
    have s1 : Same H (upd H L (.lst xs)) := Same.new nL
    refine ⟨.ref a, rfl, .ref a, xs.length, rfl, lenL (s1 _ _ ha), xs.length, rfl, by omega, by omega, fun D nD => ?_⟩
    have nD0 : H D = none := s1.free nD
    have neDL : D ≠ L := fun z => by
      rw [z, upd_same] at nD
      cases nD
    have neD : D ≠ p := fun z => by
      rw [z, s1 _ _ hdz] at nD
      cases nD
    refine lc_it (walk_range (lo := 0) (n := (xs.length : Int).toNat)) (fun i H' => ∃ acc rest, H' D = some (.lst acc) ∧ H' L = some (.lst rest) ∧ (acc ++ rest).Perm xs ∧ acc.length = i ∧ But p H H' ∧ DiceAt H' p) ?_ (fun _ _ _ _ => True.intro) (fun i x H1 H2 hi hP hy => ?_) fun H1 hP => ?_
    · exact ⟨[], xs, upd_same, by rw [upd_ne (Ne.symm neDL), upd_same], .refl _, rfl, (s1.put nD).but, hd.same (s1.put nD)⟩
    · obtain ⟨acc, rest, e1, e2, hp, hl, hb, hdd⟩ := hP
      obtain ⟨rfl, rfl⟩ := hy
      have lp := hp.length_eq
      rw [List.length_append] at lp
      refine ⟨rfl, yesT (iteT ⟨.ref L, rfl, .inl ⟨rfl, rest, sql e2⟩, .ref p, rfl, .ref L, rfl, .ref L, rest.length, rfl, lenL e2, p, _, rfl, hdd, by omega, by omega, fun r H3 b3 d3 r0 r1 => ?_⟩)⟩
      have hr1 : r.toNat < rest.length := by omega
      refine ⟨L, rest, r, r.toNat, rest[r.toNat], rfl, rfl, b3 _ _ e2 neL, by omega, by omega, seqIndex_of r0 r1, List.getElem?_eq_getElem hr1, acc, ?_, thou (by omega), acc ++ [rest[r.toNat]], rest.eraseIdx r.toNat, upd_same, ?_, ?_, ?_, ?_, ?_⟩
      · rw [upd_ne neDL]
        exact b3 _ _ e1 neD
      · rw [upd_ne (Ne.symm neDL), upd_same]
      · rw [List.append_assoc]
        refine List.Perm.trans ?_ hp
        exact List.Perm.append_left acc (erase_perm (List.getElem?_eq_getElem hr1))
      · rw [List.length_append, hl]
        rfl
      · exact ((hb.trans b3).chg nL).chg nD0
      · exact (d3.upd neL).upd neD
    · obtain ⟨acc, rest, e1, e2, hp, hl, hb, hdd⟩ := hP
      have lp := hp.length_eq
      rw [List.length_append, hl] at lp
      have er : rest = [] := List.eq_nil_of_length_eq_zero (by omega)
      rw [er, List.append_nil] at hp
      exact q D H1 acc nD0 hb hdd e1 hp
end
end Bk
end
section
set_option Elab.async false
set_option linter.all false
set_option maxRecDepth 100000
set_option maxHeartbeats 4000000
/-! _law_name. -/
namespace Bk
open PySem PySem.Spec PyProof.Rows L2
theorem op_notIn_seqK {X : Cx} {K : PySem.W.Frag} (hK : X.K = K) : OpR X (compareOp .NotIn) (rIn K true) := by
  subst hK
  exact op_notIn_seq
theorem inV_dec {x : Str} {xs : List Str} : inV (.str x) (xs.map V.str) = decide (x ∈ xs) := by
  by_cases h : x ∈ xs
  · rw [decide_eq_true h]
    unfold inV
    rw [List.any_eq_true]
    exact ⟨.str x, List.mem_map.mpr ⟨x, h, rfl⟩, by show (x == x) = true; exact beq_self_eq_true x⟩
  · rw [decide_eq_false h]
    exact inV_str h
def qw (c : Nat) : Str := "q" ++ ⟨#[c]⟩
def okN (xs : List Str) (x : Str) : Bool := !decide (x ∈ xs) && !decide (x ∈ resv)
def spareL (wd : Str) : List Str := wd :: letS.cps.toList.map qw
theorem let_is : ∀ c ∈ letS.cps.toList, isLet c = true := by decide +kernel
theorem qw_name : ∀ c ∈ letS.cps.toList, nameB (qw c) = true := by decide +kernel
theorem qw_free : ∀ c ∈ letS.cps.toList, qw c ∉ resv := by decide +kernel
theorem qw_nd : (letS.cps.toList.map qw).Nodup := by decide +kernel
theorem let_len : letS.cps.toList.length = 26 := by decide +kernel
theorem sub_len {α : Type} [DecidableEq α] : ∀ {a b : List α}, a.Nodup → (∀ x ∈ a, x ∈ b) → a.length ≤ b.length
  | [], _, _, _ => Nat.zero_le _
  | x :: a, b, n, h => by
    obtain ⟨n1, n2⟩ := List.nodup_cons.mp n
    have hx : x ∈ b := h x List.mem_cons_self
    have := sub_len (b := b.erase x) n2 fun y hy => (List.mem_erase_of_ne (fun e => n1 (by rw [← e]; exact hy))).mpr (h y (List.mem_cons_of_mem _ hy))
    rw [List.length_erase_of_mem hx] at this
    have := List.length_pos_of_mem hx
    rw [List.length_cons]
    omega
/-- among the words one is free -/
theorem spare_free {wd : Str} {xs : List Str} (h : xs.length ≤ 25) : ∃ x r, (spareL wd).filter (okN xs) = x :: r := by
  by_cases c : ∃ x ∈ letS.cps.toList.map qw, x ∉ xs
  · obtain ⟨x, hx, hn⟩ := c
    have hm : x ∈ (spareL wd).filter (okN xs) := by
      refine List.mem_filter.mpr ⟨List.mem_cons_of_mem _ hx, ?_⟩
      obtain ⟨c, hc, rfl⟩ := List.mem_map.mp hx
      unfold okN
      rw [decide_eq_false hn, decide_eq_false (qw_free c hc)]
      rfl
    cases e : (spareL wd).filter (okN xs) with
    | nil =>
      rw [e] at hm
      cases hm
    | cons y r => exact ⟨y, r, rfl⟩
  · have := sub_len qw_nd (b := xs) fun x hx => Classical.byContradiction fun n => c ⟨x, hx, n⟩
    rw [List.length_map, let_len] at this
    omega
theorem nameB_of {x : Str} (h1 : 1 ≤ x.length) (h8 : x.length ≤ 8) (h : ∀ c ∈ x.cps.toList, isLet c = true) : nameB x = true := by
  unfold nameB
  rw [decide_eq_true h1, decide_eq_true h8, List.all_eq_true.mpr h]
  rfl
theorem filt_snoc {α : Type} {f : α → Bool} {xs : List α} {i : Nat} {x : α} (h : xs[i]? = some x) : (xs.take (i + 1)).filter f = if f x = true then (xs.take i).filter f ++ [x] else (xs.take i).filter f := by
  rw [take_snoc h, List.filter_append, List.filter_cons]
  by_cases c : f x = true
  · rw [if_pos c, if_pos c]
    rfl
  · rw [if_neg c, if_neg c]
    simp
section
variable {P : Program} {w : World} {K : PySem.W.Frag} {mg : Str → Option Value} {base : Heap}
abbrev spNam : Sp := fun vs H Q _ => ∃ (p a : Addr) (xs : List Str), vs = [.ref p, .ref a] ∧ DiceAt H p ∧ H a = some (.lst (xs.map V.str)) ∧ a ≠ p ∧ xs.length ≤ 25 ∧ ∀ x H', But p H H' → DiceAt H' p → Ans x → x ∉ xs → Q (.str x) H'
abbrev N30 : List Str := ["_law_dice_here", "_law_taken", "_law_letters", "_law_word", "_law_turn", "_law_spare", "_law_letter", "_law_one"]
theorem sc30 : FnScope N30 ["_law_dice_here", "_law_taken"] (defScope (top 30)) := ⟨rfl, rfl, rfl, by decide +kernel, rfl, by decide +kernel, by decide +kernel⟩
theorem ok_name {f : Addr} {fd : FuncData} (F : Fun K "_law_name" "_law_name" (top 30) f fd) (T : Tx K mg) (N27 : Kn P w K mg base L2.CX0 1 "_law_roll" ["_law_dice_here", "_law_total"] spRoll)
    (N28 : Kn P w K mg base L2.CX0 2 "_law_one_of" ["_law_dice_here", "_law_items"] spOne) : FnOk P w K mg base L2.CX0 3 f fd ["_law_dice_here", "_law_taken"] spNam := by
  refine F.ok sc30 (fun vs H Q E h => ?_) (fun cdv A outer s H vs Q E hr h => ?_)
  · obtain ⟨p, a, xs, rfl, _⟩ := h
    rfl
  · obtain ⟨p, a, xs, rfl, hd, ha, ne, l25, q⟩ := h
    refine ⟨_, pss_cons (ps_asg (pe_tup (pa_cons pe_str (pa_cons pe_str pa_nil))) (pg_two (K := K) (i := 2) (j := 3) rfl sc30.nd rfl rfl (.inl rfl) (.inl rfl) rfl (.inr rfl) (.inr rfl)))
      (pss_cons (ps_for PassesOwn.never rfl (pi_range1 (by rfl) T.rng (pa_cons (pk0 N28 hr (Nat.le_refl _) (pa_cons (pv 0) (pa_cons (pe_lst (pa_cons pe_int (pa_cons pe_int (pa_cons pe_int (pa_cons pe_int (pa_cons pe_int (pa_cons pe_int (pa_cons pe_int pa_nil)))))))) pa_nil))) pa_nil)) (pg_name (i := 4) sc30.nd rfl (.inl rfl))
        (pss_one (ps_set (i := 3) sc30.nd rfl (.inl rfl) (pe_op op_add_str (pv 3) (pe_ix ix_str (pv 2) (pk0 N27 hr (by omega) (pa_cons (pv 0) (pa_cons pe_int pa_nil))) fun _ _ => rfl)))))
      (pss_cons (ps_set (i := 5) sc30.nd rfl (.inl rfl) (pe_op op_cat (pe_lst (pa_cons (pv 3) pa_nil)) (pe_lc rfl sc30.nd (pi_str (pv 2)) (blkOk_by (own := [("_law_letter", 6)]) (by rfl)) (fun _ _ _ _ _ => pg_name (i := 6) sc30.nd rfl (.inl rfl)) (fun _ _ _ _ _ => pts_nil)
        (fun _ _ _ _ _ => pe_op op_add_str pe_str (pv 6)))))
      (pss_one (ps_ret (pe_ix ix_list (pe_lc rfl sc30.nd (pi_list (pv 5)) (blkOk_by (own := [("_law_one", 7)]) (by rfl)) (fun _ _ _ _ _ => pg_name (i := 7) sc30.nd rfl (.inl rfl))
        (fun _ _ _ _ _ => pts_one (pw_and (pt_cmpR (op_notIn_seqK (K := K) rfl) (pv 7) (pv 1) (by with_unfolding_all rfl)) (pw_and1 (pt_cmpR (op_notIn_seqK (K := K) rfl) (pv 7) (pe_tup (pa_cons pe_str (pa_cons pe_str (pa_cons pe_str (pa_cons pe_str pa_nil))))) (by with_unfolding_all rfl)))).pt)
        (fun _ _ _ _ _ => pv 7)) pe_int fun _ _ => rfl))))), ?_⟩
    obtain ⟨dz, hdz⟩ := hd.some
    refine ⟨by show 2 ≤ sizeLine; rw [sizeLine_eq]; omega, fun t nt => ⟨t, _, rfl, sqt upd_same, rfl, _, _, rfl, _, _, rfl, rfl, ?_⟩⟩
    have s0 : Same H (upd H t (.tup [.str letS, .str ""])) := Same.new nt
    refine ⟨.ref p, rfl, by show 7 ≤ sizeLine; rw [sizeLine_eq]; omega, fun l nl => ?_⟩
    have nel : l ≠ p := fun z => by
      rw [z] at nl
      cases (s0 _ _ hdz).symm.trans nl
    have s1 : Same H (upd (upd H t (.tup [.str letS, .str ""])) l (.lst [.int 1, .int 1, .int 2, .int 3, .int 4, .int 6, .int 8])) := s0.put nl
    refine ⟨p, l, [.int 1, .int 1, .int 2, .int 3, .int 4, .int 6, .int 8], rfl, hd.same s1, upd_same, nel, by decide, by decide, fun x H1 b1 d1 hx => ?_⟩
    have bd1 : But p H H1 := s1.but.trans b1
    obtain ⟨n, rfl, n1, n8⟩ : ∃ n : Nat, x = .int n ∧ 1 ≤ n ∧ n ≤ 8 := by
      simp only [List.mem_cons, List.not_mem_nil, or_false] at hx
      rcases hx with h | h | h | h | h | h | h
      · exact ⟨1, h, by omega, by omega⟩
      · exact ⟨1, h, by omega, by omega⟩
      · exact ⟨2, h, by omega, by omega⟩
      · exact ⟨3, h, by omega, by omega⟩
      · exact ⟨4, h, by omega, by omega⟩
      · exact ⟨6, h, by omega, by omega⟩
      · exact ⟨8, h, by omega, by omega⟩
    refine ⟨(n : Int), rfl, by omega, by omega, ?_⟩
    refine for_it (walk_range (lo := 0) (n := (n : Int).toNat)) (fun i σ H' => ∃ (wd : Str) (t : Option V), σ = [some (.ref p), some (.ref a), some (.str letS), some (.str wd), t, none, none, none] ∧ wd.length = i ∧ (∀ c ∈ wd.cps.toList, isLet c = true) ∧ But p H H' ∧ DiceAt H' p)
      ⟨"", none, rfl, rfl, (fun c hc => by cases hc), bd1, d1⟩ (fun _ _ _ _ _ => True.intro) (fun i x σ H2 H3 hi hP hy => ?_) fun σ H2 hP => ?_
    · obtain ⟨wd, t, rfl, hl, hw, b2, d2⟩ := hP
      obtain ⟨rfl, rfl⟩ := hy
      refine ⟨.str wd, rfl, .str letS, rfl, .ref p, rfl, p, 26, rfl, d2, by decide, by decide, fun r H4 b4 d4 r0 r1 => ?_⟩
      have hr1 : r.toNat < letS.cps.toList.length := by
        rw [let_len]
        omega
      have e2 : atI letS.cps.toList r = some letS.cps.toList[r.toNat] := by
        have := atI_nat (List.getElem?_eq_getElem hr1)
        rw [show ((r.toNat : Nat) : Int) = r by omega] at this
        exact this
      refine ⟨letS, r, letS.cps.toList[r.toNat], rfl, rfl, str_sz (n := 26) (by decide +kernel) (by omega), e2, wd, ⟨#[letS.cps.toList[r.toNat]]⟩, rfl, rfl, ?_, wd ++ ⟨#[letS.cps.toList[r.toNat]]⟩, _, rfl, ?_, fun c hc => ?_, b2.trans b4, d4⟩
      · have : (⟨#[letS.cps.toList[r.toNat]]⟩ : Str).length = 1 := rfl
        rw [hl, this, sizeLine_eq]
        omega
      · rw [len_app, hl]
        rfl
      · have e : (wd ++ (⟨#[letS.cps.toList[r.toNat]]⟩ : Str)).cps.toList = wd.cps.toList ++ [letS.cps.toList[r.toNat]] := by
          show (wd.cps ++ #[_]).toList = _
          simp
        rw [e] at hc
        rcases List.mem_append.mp hc with hc | hc
        · exact hw c hc
        · rw [List.mem_singleton.mp hc]
          exact let_is _ (List.getElem_mem hr1)
    · obtain ⟨wd, t, rfl, hl, hw, b2, d2⟩ := hP
      have hl : wd.length = n := by omega
      have hnm : nameB wd = true := nameB_of (by omega) (by omega) hw
      refine ⟨.str wd, rfl, by show 1 ≤ sizeLine; rw [sizeLine_eq]; omega, fun l1 nl1 => ⟨.str letS, rfl, letS, rfl, fun D nD => ?_⟩⟩
      refine lc_same walk_str (fun i acc => acc = ((letS.cps.toList.take i).map qw).map V.str) nD rfl (fun _ _ => True.intro) (fun i v acc H3 H4 hi ea s3 eD hy => ?_) fun acc H3 ea s3 eD => ?_
      · obtain ⟨rfl, c, hc, rfl⟩ := hy
        have hc' : letS.cps.toList[i]? = some c := by
          rw [Array.getElem?_toList]
          exact hc
        have hi : i < letS.cps.toList.length := by
          rw [Array.length_toList]
          exact hi
        rw [let_len] at hi
        refine ⟨rfl, yesT (iteT ⟨.str ⟨#[c]⟩, rfl, "q", ⟨#[c]⟩, rfl, rfl, ?_, lc_fin nD s3 eD (Same.refl _) ?_ ?_⟩)⟩
        · show (Str.ofString "q").length + 1 ≤ _
          rw [show (Str.ofString "q").length = 1 by decide +kernel, sizeLine_eq]
          omega
        · rw [ea, List.length_map, List.length_map, List.length_take]
          omega
        · show acc ++ [V.str (qw c)] = _
          rw [ea, take_snoc hc', List.map_append, List.map_append]
          rfl
      · have eL : letS.cps.size = letS.cps.toList.length := (Array.length_toList).symm
        have ea : acc = ((letS.cps.toList.take letS.cps.size).map qw).map V.str := ea
        rw [eL, List.take_length] at ea
        have s4 : Same H2 H3 := (Same.new nl1).trans s3
        refine ⟨l1, D, [.str wd], acc, rfl, rfl, s3 _ _ upd_same, eD, ?_, fun l2 nl2 => ?_⟩
        · rw [ea, List.length_map, List.length_map, let_len]
          show 1 + 26 ≤ _
          rw [sizeLine_eq]
          omega
        have el : [V.str wd] ++ acc = (spareL wd).map V.str := by
          rw [ea]
          rfl
        rw [el]
        have s5 : Same H2 (upd H3 l2 (.lst ((spareL wd).map V.str))) := s4.put nl2
        have haE : (upd H3 l2 (.lst ((spareL wd).map V.str))) a = some (.lst (xs.map V.str)) := s5 _ _ (b2 _ _ ha ne)
        refine ⟨.ref l2, rfl, l2, rfl, ⟨_, sql upd_same⟩, fun D2 nD2 => ?_⟩
        refine lc_same (walk_list (K := K)) (fun i acc => acc = (((spareL wd).take i).filter (okN xs)).map V.str) nD2 rfl (fun H4 s6 => sql (s6 _ _ upd_same)) (fun i v acc H4 H5 hi ea s6 eD2 hy => ?_) fun acc H4 ea s6 eD2 => ?_
        · obtain ⟨rfl, ex⟩ := hy
          obtain ⟨y, hy, rfl⟩ := at_map ex
          have es := filt_snoc (f := okN xs) hy
          have hlen : (spareL wd).length = 27 := by
            show (letS.cps.toList.map qw).length + 1 = 27
            rw [List.length_map, let_len]
          rw [List.length_map, hlen] at hi
          have le : acc.length ≤ 27 := by
            rw [ea, List.length_map]
            refine Nat.le_trans (List.length_filter_le _ _) ?_
            rw [List.length_take]
            omega
          refine ⟨rfl, .str y, rfl, .ref a, rfl, a, xs.map V.str, rfl, .inl (sql (s6 _ _ haE)), rfl, flats xs, _, rfl, ?_⟩
          rw [inV_dec]
          refine ite2 (fun c1 => ?_) fun c1 => ?_
          · refine ⟨.str y, rfl, by show 4 ≤ sizeLine; rw [sizeLine_eq]; omega, fun t nt => ⟨t, resv.map V.str, rfl, .inr (sqt upd_same), rfl, flats _, _, rfl, ?_⟩⟩
            rw [inV_dec]
            have c1 : (!decide (y ∈ xs)) = true := c1
            refine ite2 (fun c2 => ?_) fun c2 => ?_
            · have c2 : (!decide (y ∈ resv)) = true := c2
              rw [if_pos (by unfold okN; rw [c1, c2]; rfl)] at es
              refine ⟨.str y, rfl, lc_fin nD2 s6 eD2 (Same.new nt) (by omega) ?_⟩
              show acc ++ [V.str y] = (((spareL wd).take (i + 1)).filter (okN xs)).map V.str
              rw [es, ea, List.map_append]
              rfl
            · have c2 : (!decide (y ∈ resv)) = false := by simpa using c2
              rw [if_neg (by unfold okN; rw [c1, c2]; simp)] at es
              refine ⟨acc, ?_, s6.put nt, ?_⟩
              · show acc = (((spareL wd).take (i + 1)).filter (okN xs)).map V.str
                rw [es]
                exact ea
              · rw [upd_ne (ne_of_none eD2 nt)]
                exact eD2
          · have c1 : (!decide (y ∈ xs)) = false := by simpa using c1
            rw [if_neg (by unfold okN; rw [c1]; simp)] at es
            refine iteF ⟨acc, ?_, s6, eD2⟩
            show acc = (((spareL wd).take (i + 1)).filter (okN xs)).map V.str
            rw [es]
            exact ea
        · have ea : acc = (((spareL wd).take ((spareL wd).map V.str).length).filter (okN xs)).map V.str := ea
          rw [List.length_map, List.take_length] at ea
          obtain ⟨x, r, er⟩ := spare_free (wd := wd) l25
          rw [er] at ea
          have hm : x ∈ (spareL wd).filter (okN xs) := by
            rw [er]
            exact List.mem_cons_self
          obtain ⟨m1, m2⟩ := List.mem_filter.mp hm
          unfold okN at m2
          rw [Bool.and_eq_true] at m2
          refine ⟨D2, acc, 0, .str x, rfl, rfl, sql eD2, by rw [ea]; exact atI_nat (j := 0) rfl, q x H4 ((b2.trans s5.but).trans s6.but) (d2.same (s5.trans s6)) ⟨?_, by simpa using m2.2⟩ (by simpa using m2.1)⟩
          rcases List.mem_cons.mp m1 with e | m
          · rw [e]
            exact hnm
          · obtain ⟨c, hc, rfl⟩ := List.mem_map.mp m
            exact qw_name c hc
end
end Bk
end
section
set_option Elab.async false
set_option linter.all false
set_option maxRecDepth 100000
set_option maxHeartbeats 4000000
/-! _law_names, _law_outcomes. -/
namespace Bk
open PySem PySem.Spec PyProof.Rows L2
theorem But.to {p q : Addr} {H H1 : Hp} {xs : List V} (b : But p H H1) (n : q ≠ p) {o : HO} (h : H q = some o) : H1 q = some o := b q o h n
theorem ne_p {H : Hp} {p q : Addr} (d : DiceAt H p) (n : H q = none) : q ≠ p := fun z => by
  obtain ⟨xs, h⟩ := d.some
  rw [z, h] at n
  cases n
section
variable {P : Program} {w : World} {K : PySem.W.Frag} {mg : Str → Option Value} {base : Heap}
abbrev spNames : Sp := fun vs H Q _ => ∃ (p : Addr) (n : Nat), vs = [.ref p, .int (n : Int)] ∧ DiceAt H p ∧ n ≤ 25 ∧ ∀ (l : Addr) (H' : Hp) (xs : List Str), H l = none → But p H H' → DiceAt H' p → H' l = some (.lst (xs.map V.str)) → xs.length = n → xs.Nodup → (∀ x ∈ xs, Ans x) → Q (.ref l) H'
theorem sc31 : FnScope ["_law_dice_here", "_law_size", "_law_found", "_law_turn"] ["_law_dice_here", "_law_size"] (defScope (top 31)) := ⟨rfl, rfl, rfl, by decide +kernel, rfl, by decide +kernel, by decide +kernel⟩
theorem ok_names {f : Addr} {fd : FuncData} (F : Fun K "_law_names" "_law_names" (top 31) f fd) (T : Tx K mg) (N30' : Kn P w K mg base L2.CX0 3 "_law_name" ["_law_dice_here", "_law_taken"] spNam) : FnOk P w K mg base L2.CX0 4 f fd ["_law_dice_here", "_law_size"] spNames := by
  refine F.ok sc31 (fun vs H Q E h => ?_) (fun cdv A outer s H vs Q E hr h => ?_)
  · obtain ⟨p, n, rfl, _⟩ := h
    rfl
  · obtain ⟨p, n, rfl, hd, l25, q⟩ := h
    refine ⟨_, pss_cons (ps_set (i := 2) sc31.nd rfl (.inl rfl) (pe_lst pa_nil))
      (pss_cons (ps_for PassesOwn.never rfl (pi_range1 (by rfl) T.rng (pa_cons (pv 1) pa_nil)) (pg_name (i := 3) sc31.nd rfl (.inl rfl))
        (pss_one (ps_expr (pe_bm PySem.F.plainAttrs_list PySem.F.slot_list_append PySem.F.type_list_append mt_append (pv 2) (pa_cons (pk0 N30' hr (Nat.le_refl _) (pa_cons (pv 0) (pa_cons (pv 2) pa_nil))) pa_nil)))))
      (pss_one (ps_ret (pv 2)))), ?_⟩
    refine ⟨by show 0 ≤ sizeLine; omega, fun l nl => ?_⟩
    have nel := ne_p hd nl
    refine ⟨.int n, rfl, n, rfl, by omega, by omega, ?_⟩
    refine for_it (walk_range (lo := 0) (n := (n : Int).toNat)) (fun i σ H' => ∃ (t : Option V) (xs : List Str), σ = [some (.ref p), some (.int n), some (.ref l), t] ∧ H' l = some (.lst (xs.map V.str)) ∧ xs.length = i ∧ xs.Nodup ∧ (∀ x ∈ xs, Ans x) ∧ But p H H' ∧ DiceAt H' p)
      ⟨none, [], rfl, upd_same, rfl, List.nodup_nil, (fun _ h => by cases h), (Same.new nl).but, hd.upd nel⟩ (fun _ _ _ _ _ => True.intro) (fun i x σ H2 H3 hi hP hy => ?_) fun σ H2 hP => ?_
    · obtain ⟨t, xs, rfl, hl, hn, nd, an, b2, d2⟩ := hP
      obtain ⟨rfl, rfl⟩ := hy
      refine ⟨.ref l, rfl, .inl ⟨rfl, _, sql hl⟩, .ref p, rfl, .ref l, rfl, p, l, xs, rfl, d2, hl, nel, by omega, fun x H4 b4 d4 ax nx => ?_⟩
      refine ⟨l, xs.map V.str, .str x, rfl, rfl, b4 _ _ hl nel, thou (by rw [List.length_map]; omega), _, xs ++ [x], rfl, ?_, ?_, nd_snoc nd nx, fun y hy => ?_, (b2.trans b4).chg nl, d4.upd nel⟩
      · rw [upd_same, List.map_append]
        rfl
      · rw [List.length_append, hn]
        rfl
      · rcases List.mem_append.mp hy with hy | hy
        · exact an y hy
        · rw [List.mem_singleton.mp hy]
          exact ax
    · obtain ⟨t, xs, rfl, hl, hn, nd, an, b2, d2⟩ := hP
      exact ⟨.ref l, rfl, q l H2 xs nl b2 d2 hl (by omega) nd an⟩
abbrev spOutL : Sp := fun vs H Q _ => ∃ (d : Addr) (bd : Bd) (x : Str) (p : Pr), vs = [.ref d, .str x] ∧ DictAt H d bd ∧ bd.lookup x = some p ∧ PrOk p ∧ ∀ (l : Addr) (H' : Hp) (os : List Str), H l = none → Same H H' → H' l = some (.lst (os.map V.str)) → os.Perm ("failed" :: p.2) → Nf os → Q (.ref l) H'
theorem sc33 : FnScope ["_law_pairs_here", "_law_command"] ["_law_pairs_here", "_law_command"] (defScope (top 33)) := ⟨rfl, rfl, rfl, by decide +kernel, rfl, by decide +kernel, by decide +kernel⟩
theorem ok_outl {f : Addr} {fd : FuncData} (F : Fun K "_law_outcomes" "_law_outcomes" (top 33) f fd) (T : Tx K mg) : FnOk P w K mg base L2.CX0 1 f fd ["_law_pairs_here", "_law_command"] spOutL := by
  refine F.ok sc33 (fun vs H Q E h => ?_) (fun cdv A outer s H vs Q E hr h => ?_)
  · obtain ⟨d, bd, x, p, rfl, _⟩ := h
    rfl
  · obtain ⟨d, bd, x, p, rfl, ⟨kvs, hd, hkv⟩, hx, hp, q⟩ := h
    refine ⟨_, pss_one (ps_ret (pe_callB cr_sortedS (by rfl) T.srt boot_sorted (pa_cons (pe_op op_cat (pe_callTy call_list_of (by rfl) T.lst PyProof.Rows.boot_list (pa_cons (pe_ix ix_tup (pe_dget (hu_of hr) (pv 0) (pv 1) fun _ _ => rfl) pe_int fun _ _ => rfl) pa_nil)) (pe_lst (pa_cons pe_str pa_nil))) pa_nil))), ?_⟩
    rcases hkv.look x with ⟨v, p', e1, e2, a, b, rfl, h1, h2⟩ | ⟨e1, e2⟩
    · rw [hx] at e2
      cases e2
      have h3 := hp.l3
      refine ⟨.ref d, rfl, .str x, rfl, d, .ref a, rfl, dget_rd (k := Sum.inr x) (.inl hd) e1, a, _, 1, .ref b, rfl, rfl, sqt h1, rfl, b, _, rfl, .inr (sqt h2), fun l1 n1 => ?_⟩
      refine ⟨by show 1 ≤ sizeLine; rw [sizeLine_eq]; omega, fun l2 n2 => ?_⟩
      have ne12 : l1 ≠ l2 := fun z => by
        rw [← z, upd_same] at n2
        cases n2
      refine ⟨l1, l2, p.2.map V.str, [.str "failed"], rfl, rfl, by rw [upd_ne ne12, upd_same], upd_same, by rw [List.length_map, sizeLine_eq]; show _ + 1 ≤ _; omega, fun l3 n3 => ?_⟩
      have sF := ((Same.new n1).put (o := .lst [.str "failed"]) n2).put (o := .lst (p.2.map V.str ++ [.str "failed"])) n3
      refine ⟨l3, p.2 ++ [("failed" : Str)], rfl, sql (by rw [upd_same, List.map_append] <;> rfl), by rw [List.length_append]; show _ + 1 < 64; omega, fun ys l4 py sy n4 => ?_⟩
      exact q l4 _ ys (sF.free n4) (sF.put n4) upd_same (py.trans (List.perm_append_comm)) (sorted_nf sy)
    · rw [hx] at e2
      cases e2
end
end Bk
end
section
set_option Elab.async false
set_option linter.all false
set_option maxRecDepth 100000
set_option maxHeartbeats 4000000
/-! _law_pairs. -/
namespace Bk
open PySem PySem.Spec PyProof.Rows L2
theorem cut0 (xs : List V) (k : Nat) : cutV xs none (some (k : Int)) = xs.take k := by
  unfold cutV
  rw [HT.sIx_none, HT.sIx_nat, List.drop_zero, Nat.sub_zero]
  rcases Nat.le_total k xs.length with h | h
  · rw [Nat.min_eq_left h]
  · rw [Nat.min_eq_right h, List.take_length, List.take_of_length_le h]
theorem perm_strs {ys : List V} {xs : List Str} (h : ys.Perm (xs.map V.str)) : ∃ zs : List Str, ys = zs.map V.str ∧ zs.Perm xs := by
  let g : V → Str := fun v => match v with
    | .str x => x
    | _ => Str.empty
  have e : (xs.map V.str).map g = xs := by
    rw [List.map_map]
    exact List.map_id xs
  refine ⟨ys.map g, ?_, by rw [← e]; exact h.map g⟩
  rw [List.map_map]
  refine ((List.map_congr_left fun y hy => ?_).trans (List.map_id ys)).symm
  obtain ⟨x, _, rfl⟩ := List.mem_map.mp (h.mem_iff.mp hy)
  rfl
section
variable {P : Program} {w : World} {K : PySem.W.Frag} {mg : Str → Option Value} {base : Heap}
abbrev spPairs : Sp := fun vs H Q _ => ∃ p : Addr, vs = [.ref p, .int 6, .int 3] ∧ DiceAt H p ∧ ∀ (d : Addr) (H' : Hp) (bd : Bd), H d = none → But p H H' → DiceAt H' p → DictAt H' d bd → BdOk bd → Q (.ref d) H'
abbrev N32 : List Str := ["_law_dice_here", "_law_most", "_law_answers", "_law_names_here", "_law_pool", "_law_found", "_law_word", "_law_some"]
theorem sc32 : FnScope N32 ["_law_dice_here", "_law_most", "_law_answers"] (defScope (top 32)) := ⟨rfl, rfl, rfl, by decide +kernel, rfl, by decide +kernel, by decide +kernel⟩
theorem ok_pairs {f : Addr} {fd : FuncData} (F : Fun K "_law_pairs" "_law_pairs" (top 32) f fd) (T : Tx K mg) (N27 : Kn P w K mg base L2.CX0 1 "_law_roll" ["_law_dice_here", "_law_total"] spRoll)
    (N29 : Kn P w K mg base L2.CX0 2 "_law_mixed" ["_law_dice_here", "_law_items"] spMixed) (N31 : Kn P w K mg base L2.CX0 4 "_law_names" ["_law_dice_here", "_law_size"] spNames) :
    FnOk P w K mg base L2.CX0 5 f fd ["_law_dice_here", "_law_most", "_law_answers"] spPairs := by
  refine F.ok sc32 (fun vs H Q E h => ?_) (fun cdv A outer s H vs Q E hr h => ?_)
  · obtain ⟨p, rfl, _⟩ := h
    rfl
  · obtain ⟨p, rfl, hd, q⟩ := h
    refine ⟨_, pss_cons (ps_par (i := 3) (j := 4) rfl sc32.nd rfl rfl (by decide) rfl rfl (pa_cons (pk0 N31 hr (Nat.le_refl _) (pa_cons (pv 0) (pa_cons (pe_op op_add pe_int (pk0 N27 hr (by omega) (pa_cons (pv 0) (pa_cons (pv 1) pa_nil)))) pa_nil))) (pa_cons (pk0 N31 hr (Nat.le_refl _) (pa_cons (pv 0) (pa_cons pe_int pa_nil))) pa_nil)) (by rfl))
      (pss_cons (ps_set (i := 5) sc32.nd rfl (.inl rfl) pe_dnewK)
      (pss_cons (ps_for PassesOwn.never rfl (pi_list (pe_callB cr_sortedS (by rfl) T.srt boot_sorted (pa_cons (pv 3) pa_nil))) (pg_name (i := 6) sc32.nd rfl (.inl rfl))
        (pss_cons (ps_set (i := 7) sc32.nd rfl (.inl rfl) (pe_slice sl_list (pk0 N29 hr (by omega) (pa_cons (pv 0) (pa_cons (pv 4) pa_nil))) po_none (po_some (pe_op op_add pe_int (pk0 N27 hr (by omega) (pa_cons (pv 0) (pa_cons (pv 2) pa_nil)))))))
        (pss_one (ps_dput (hu_of hr) (pv 5) (pv 6) (pe_tup (pa_cons (pk0 N27 hr (by omega) (pa_cons (pv 0) (pa_cons pe_int pa_nil))) (pa_cons (pe_callTy call_tuple_of (by rfl) T.tup PyProof.Rows.boot_tuple (pa_cons (pe_callB cr_sortedS (by rfl) T.srt boot_sorted (pa_cons (pv 7) pa_nil)) pa_nil)) pa_nil))) (by rfl)))))
      (pss_one (ps_ret (pv 5))))), ?_⟩
    refine ⟨.ref p, rfl, .ref p, rfl, .int 6, rfl, p, 6, rfl, hd, by decide, by decide, fun r H1 b1 d1 r0 r1 => ⟨1, r, rfl, rfl, p, (1 + r).toNat, by rw [show (((1 + r).toNat : Nat) : Int) = 1 + r by omega], d1, by omega, fun l1 H2 ns n1 b2 d2 e1 el en ea => ?_⟩⟩
    refine ⟨.ref p, rfl, p, 4, rfl, d2, by omega, fun l2 H3 ps n2 b3 d3 f1 fl fn fa => ?_⟩
    refine ⟨_, _, rfl, fun d nd => ?_⟩
    have ne1 := ne_p d1 n1
    have ne2 := ne_p d2 n2
    have ned := ne_p d3 nd
    have e1' := b3 _ _ e1 ne1
    have bA : But p H H3 := (b1.trans b2).trans b3
    have s0 : Same H3 (upd H3 d (.dK [])) := Same.new nd
    have hln : ns.length ≤ 6 := by omega
    refine ⟨.ref l1, rfl, l1, ns, rfl, sql (s0 _ _ e1'), by omega, fun ys l3 py sy n3 => ?_⟩
    have s1 : Same H3 (upd (upd H3 d (.dK [])) l3 (.lst (ys.map V.str))) := s0.put n3
    have n3' : H3 l3 = none := s0.free n3
    have ne3 := ne_p d3 n3'
    have yn : ys.Nodup := py.nodup_iff.mpr en
    refine ⟨l3, rfl, ⟨_, sql upd_same⟩, ?_⟩
    refine for_it (walk_list (K := K) (a := l3) (xs := ys.map V.str)) (fun i σ H' => ∃ (t u : Option V) (acc : List (Key × V)) (bi : Bd), σ = [some (.ref p), some (.int 6), some (.int 3), some (.ref l1), some (.ref l2), some (.ref d), t, u] ∧
        H' d = some (.dK acc) ∧ KvAt H' acc bi ∧ keys bi = ys.take i ∧ (∀ e ∈ bi, Ans e.1 ∧ PrOk e.2) ∧ H' l3 = some (.lst (ys.map V.str)) ∧ H' l2 = some (.lst (ps.map V.str)) ∧ But p H H' ∧ DiceAt H' p)
      ⟨none, none, [], [], rfl, ?_, .nil, rfl, (fun _ h => by cases h), upd_same, s1 _ _ f1, bA.trans s1.but, d3.same s1⟩ (fun i σ H' hi hP => ?_) (fun i x σ H4 H5 hi hP hy => ?_) fun σ H4 hP => ?_
    · rw [upd_ne (fun z => by rw [← z, upd_same] at n3; cases n3), upd_same]
    · obtain ⟨t, u, acc, bi, rfl, g1, g2, g3, g4, g5, g6, g7, g8⟩ := hP
      exact sql g5
    · obtain ⟨t, u, acc, bi, rfl, g1, g2, g3, g4, g5, g6, g7, g8⟩ := hP
      obtain ⟨rfl, ex⟩ := hy
      obtain ⟨y, hy, rfl⟩ := at_map ex
      obtain ⟨z0, hz0⟩ := g8.some
      have hdn : H d = none := by
        have h3 : But p H H3 := bA
        exact h3.free nd ned
      refine ⟨.ref p, rfl, .ref l2, rfl, p, l2, ps.map V.str, rfl, g8, g6, ne2, by rw [List.length_map]; omega, fun m H6 zs nm b6 d6 k1 kp => ?_⟩
      obtain ⟨ws, rfl, wp⟩ := perm_strs kp
      refine ⟨.ref p, rfl, .int 3, rfl, p, 3, rfl, d6, by decide, by decide, fun r2 H7 b7 d7 r20 r21 => ⟨1, r2, rfl, rfl, 1 + r2, rfl, m, _, rfl, sql (b7 _ _ k1 (ne_p g8 nm)), fun m2 nm2 => ?_⟩⟩
      have ek : cutV (ws.map V.str) none (some (1 + r2)) = (ws.take (1 + r2).toNat).map V.str := by
        have := cut0 (ws.map V.str) (1 + r2).toNat
        rw [show (((1 + r2).toNat : Nat) : Int) = 1 + r2 by omega] at this
        rw [this, List.map_take]
      rw [ek]
      have nem2 := ne_p d7 nm2
      have wl : ws.length = 4 := by rw [wp.length_eq, fl]
      have wan : ∀ x ∈ ws.take (1 + r2).toNat, Ans x := fun x hx => fa x (wp.mem_iff.mp (List.mem_of_mem_take hx))
      have wnd : (ws.take (1 + r2).toNat).Nodup := (List.take_sublist _ _).nodup (wp.nodup_iff.mpr fn)
      have s8 : Same H7 (upd H7 m2 (.lst ((ws.take (1 + r2).toNat).map V.str))) := Same.new nm2
      have wtl : (ws.take (1 + r2).toNat).length = (1 + r2).toNat := by
        rw [List.length_take, wl]
        omega
      refine ⟨.ref p, rfl, p, 3, rfl, d7.same s8, by decide, by decide, fun r3 H8 b8 d8 r30 r31 => ?_⟩
      have k2 := b8 _ _ upd_same nem2
      refine ⟨.ref m2, rfl, m2, _, rfl, sql k2, by omega, fun os m3 po so nm3 => ⟨m3, _, rfl, .inl ⟨sql upd_same, fun m4 nm4 => ?_⟩⟩⟩
      refine ⟨by show 2 ≤ sizeLine; rw [sizeLine_eq]; omega, fun m5 nm5 => ⟨.ref d, rfl, .str y, rfl, d, ?_⟩⟩
      have s9 : Same H8 (upd (upd (upd H8 m3 (.lst (os.map V.str))) m4 (.tup (os.map V.str))) m5 (.tup [.int r3, .ref m4])) := ((Same.new nm3).put nm4).put nm5
      have b9 : But p H5 H8 := ((b6.trans b7).trans s8.but).trans b8
      have g1' := s9 _ _ (b9 _ _ g1 ned)
      have hl4 : acc.length ≤ 6 := by
        rw [g2.length]
        have := congrArg List.length g3
        rw [keys_len, List.length_take] at this
        have := py.length_eq
        omega
      refine ⟨_, rfl, .inl ⟨acc, Sum.inr y, g1', rfl, thou (by omega), rfl⟩, ?_⟩
      have t9 : Tps H5 (upd (upd (upd H8 m3 (.lst (os.map V.str))) m4 (.tup (os.map V.str))) m5 (.tup [.int r3, .ref m4])) := (b9.tps hz0).trans s9.tps
      have ne45 : m4 ≠ m5 := fun z => by
        rw [← z, upd_same] at nm5
        cases nm5
      have hv : PrAt (upd (upd (upd H8 m3 (.lst (os.map V.str))) m4 (.tup (os.map V.str))) m5 (.tup [.int r3, .ref m4])) (.ref m5) (r3, os) := ⟨m5, m4, rfl, upd_same, by rw [upd_ne ne45, upd_same]⟩
      have yk : y ∉ keys bi := by
        rw [g3]
        intro mm
        obtain ⟨j, hj⟩ := List.mem_iff_getElem?.mp mm
        rw [List.getElem?_take] at hj
        split at hj
        · rename_i c
          have := (List.getElem?_inj (i := j) (j := i) (by rw [List.length_map] at hi; omega) yn).mp (by rw [hj, hy])
          omega
        · cases hj
      have k9 : KvAt _ _ (bi ++ [(y, (r3, os))]) := (g2.tps t9).put_new yk hv
      have tU : ∀ {o : List (Key × V)}, Tps (upd (upd (upd H8 m3 (.lst (os.map V.str))) m4 (.tup (os.map V.str))) m5 (.tup [.int r3, .ref m4])) (upd (upd (upd (upd H8 m3 (.lst (os.map V.str))) m4 (.tup (os.map V.str))) m5 (.tup [.int r3, .ref m4])) d (.dK o)) := fun {o} c xs hc => by
        rw [upd_ne (fun z => by rw [z, g1'] at hc; cases hc)]
        exact hc
      have nel3 : l3 ≠ d := fun z => by
        rw [z, g1] at g5
        cases g5
      have nel2 : l2 ≠ d := fun z => by
        rw [z, g1] at g6
        cases g6
      have osn : os.Nodup := po.nodup_iff.mpr wnd
      refine ⟨_, _, _, bi ++ [(y, (r3, os))], rfl, upd_same, k9.tps tU, ?_, fun e he => ?_, ?_, ?_, ((g7.trans b9).trans s9.but).chg hdn, (d8.same s9).upd ned⟩
      · rw [keys_app, g3, take_snoc hy]
        rfl
      · rcases List.mem_append.mp he with he | he
        · exact g4 e he
        · rw [List.mem_singleton.mp he]
          have hyn : y ∈ ns := py.mem_iff.mp (List.mem_of_getElem? hy)
          have ol := po.length_eq
          exact ⟨ea y hyn, ⟨r30, by show r3 ≤ 2; omega, by show 1 ≤ os.length; omega, by show os.length ≤ 3; omega, fun x hx => wan x (po.mem_iff.mp hx), nf_asc (sorted_nf so) osn⟩⟩
      · rw [upd_ne nel3]
        exact s9 _ _ (b9 _ _ g5 ne3)
      · rw [upd_ne nel2]
        exact s9 _ _ (b9 _ _ g6 ne2)
    · obtain ⟨t, u, acc, bi, rfl, g1, g2, g3, g4, g5, g6, g7, g8⟩ := hP
      rw [List.length_map, List.take_length] at g3
      have lb : bi.length = ns.length := by
        have := congrArg List.length g3
        rw [keys_len] at this
        rw [this, py.length_eq]
      exact ⟨.ref d, rfl, q d H4 bi (bA.free nd ned) g7 g8 ⟨acc, g1, g2⟩ ⟨by omega, by omega, g4, by rw [g3]; exact yn⟩⟩
end
end Bk
end
section
set_option Elab.async false
set_option linter.all false
set_option maxRecDepth 100000
set_option maxHeartbeats 4000000
/-! _law_odd. -/
namespace Bk
open PySem PySem.Spec PyProof.Rows L2
/-- a drawn odd value -/
def OddO (K : PySem.W.Frag) (H : Hp) (v : V) : Prop := ∃ D, Sh K H v D ∧ OkD D ∧ ((∃ s, v = .str s) ∨ OddN K H v)
theorem OddO.same {K : PySem.W.Frag} {H H' : Hp} {v : V} (h : OddO K H v) (s : Same H H') : OddO K H' v := by
  obtain ⟨D, h1, h2, h3⟩ := h
  exact ⟨D, h1.upd s, h2, h3.imp id fun h => h.same s⟩
def AllO (K : PySem.W.Frag) (H : Hp) (xs : List V) : Prop := ∀ x ∈ xs, OddO K H x
theorem AllO.nil {K : PySem.W.Frag} {H : Hp} : AllO K H [] := fun _ h => by cases h
theorem AllO.cons {K : PySem.W.Frag} {H : Hp} {x : V} {xs : List V} (h : OddO K H x) (t : AllO K H xs) : AllO K H (x :: xs) := fun y hy => (List.mem_cons.mp hy).elim (fun e => by rw [e]; exact h) (t y)
theorem AllO.app {K : PySem.W.Frag} {H : Hp} {xs ys : List V} (h : AllO K H xs) (t : AllO K H ys) : AllO K H (xs ++ ys) := fun y hy => (List.mem_append.mp hy).elim (h y) (t y)
theorem AllO.same {K : PySem.W.Frag} {H H' : Hp} {xs : List V} (h : AllO K H xs) (s : Same H H') : AllO K H' xs := fun y hy => (h y hy).same s
/-- the heap without what stands at p -/
def hidP (H : Hp) (p : Addr) : Hp := fun b => if b = p then none else H b
theorem hid_but {H H' : Hp} {p : Addr} (b : But p H H') : Same (hidP H p) H' := fun c o h => by
  unfold hidP at h
  by_cases e : c = p
  · rw [if_pos e] at h
    cases h
  · rw [if_neg e] at h
    exact b c o h e
theorem hid_hid {H H' : Hp} {p : Addr} (b : But p H H') : Same (hidP H p) (hidP H' p) := fun c o h => by
  unfold hidP at h ⊢
  by_cases e : c = p
  · rw [if_pos e] at h
    cases h
  · rw [if_neg e] at h ⊢
    exact b c o h e
theorem hid_at {H : Hp} {p t : Addr} {o u : HO} (hp : H p = some u) (e : H t = some o) (n : o ≠ u) : hidP H p t = some o := by
  unfold hidP
  rw [if_neg (fun z => n (by rw [z, hp] at e; exact (Option.some.inj e).symm))]
  exact e
section
variable {K : PySem.W.Frag} {H : Hp}
theorem oo_non : OddO K H .non := ⟨.none, .inl .non, ⟨by decide +kernel, by decide +kernel, by decide +kernel⟩, .inr ⟨"NoneType", by decide, .base .non⟩⟩
theorem oo_bl (b : Bool) : OddO K H (.bl b) := ⟨.bool b, .inl (.bl b), ⟨by cases b <;> decide +kernel, by cases b <;> decide +kernel, by cases b <;> decide +kernel⟩, .inr ⟨"bool", by decide, .base (.bl b)⟩⟩
theorem oo_int {i : Int} (h : OkD (.int i)) : OddO K H (.int i) := ⟨.int i, .inl (.int i), h, .inr ⟨"int", by decide, .base (.int i)⟩⟩
theorem oo_str {s : Str} (h : OkD (.str s)) : OddO K H (.str s) := ⟨.str s, .inl (.str s), h, .inl ⟨s, rfl⟩⟩
theorem oo_tup {a : Addr} {xs : List V} {ds : List PyData} (e : H a = some (.tup xs)) (h : DpAll K H xs ds) (ok : OkD (.tuple ds)) : OddO K H (.ref a) := ⟨.tuple ds, .inl (.tup (sqt e) h), ok, .inr ⟨"tuple", by decide, .base (.tup e)⟩⟩
theorem oo_lst {a : Addr} {xs : List V} {ds : List PyData} (e : H a = some (.lst xs)) (h : DpAll K H xs ds) (ok : OkD (.list ds)) : OddO K H (.ref a) := ⟨.list ds, .inl (.lst (sql e) h), ok, .inr ⟨"list", by decide, .base (.lst e)⟩⟩
theorem oo_d0 {a : Addr} (e : H a = some (.dK [])) : OddO K H (.ref a) := ⟨.dict [], .inr (.inl ⟨a, rfl, e, rfl⟩), ⟨by decide +kernel, by decide +kernel, by decide +kernel⟩, .inr ⟨"dict", by decide, .base (.dK e)⟩⟩
theorem oo_d1 {a : Addr} (e : H a = some (.dK [(Sum.inr "x", .int 1)])) : OddO K H (.ref a) := ⟨.dict [(.str "x", .int 1)], .inr (.inr ⟨a, rfl, e, rfl⟩), ⟨by decide +kernel, by decide +kernel, by decide +kernel⟩, .inr ⟨"dict", by decide, .base (.dK e)⟩⟩
end
theorem z_le (n : Nat) (h : n ≤ 100 := by decide) : n ≤ sizeLine := by
  rw [sizeLine_eq]
  omega
theorem pw50 : (0 : Int) ≤ 50 ∧ (Builtin.Int.intBits 10 : Int) * 50 ≤ 2 ^ 27 := by decide +kernel
theorem ok50 : OkD (.int ((10 : Int) ^ (50 : Int).toNat)) := ⟨by decide +kernel, by decide +kernel, by decide +kernel⟩
section
variable {P : Program} {w : World} {K : PySem.W.Frag} {mg : Str → Option Value} {base : Heap}
abbrev spOdd (K : PySem.W.Frag) : Sp := fun vs H Q _ => ∃ p : Addr, vs = [.ref p] ∧ DiceAt H p ∧ ∀ v H', But p H H' → DiceAt H' p → OddO K (hidP H' p) v → Q v H'
theorem sc34 : FnScope ["_law_dice_here", "_law_some"] ["_law_dice_here"] (defScope (top 34)) := ⟨rfl, rfl, rfl, by decide +kernel, rfl, by decide +kernel, by decide +kernel⟩
theorem ok_odd {f : Addr} {fd : FuncData} (F : Fun K "_law_odd" "_law_odd" (top 34) f fd) (T : Tx K mg) (N28 : Kn P w K mg base L2.CX0 2 "_law_one_of" ["_law_dice_here", "_law_items"] spOne) : FnOk P w K mg base L2.CX0 3 f fd ["_law_dice_here"] (spOdd K) := by
  refine F.ok sc34 (fun vs H Q E h => ?_) (fun cdv A outer s H vs Q E hr h => ?_)
  · obtain ⟨p, rfl, _⟩ := h
    rfl
  · obtain ⟨p, rfl, hd, q⟩ := h
    refine ⟨_, pss_cons (ps_set (i := 1) sc34.nd rfl (.inl rfl) (pe_lst (pa_cons pe_non (pa_cons pe_bl (pa_cons pe_bl (pa_cons pe_int (pa_cons pe_int (pa_cons (pe_un un_neg pe_int) (pa_cons pe_int (pa_cons pe_int (pa_cons (pe_op op_powW pe_int pe_int)
        (pa_cons pe_str (pa_cons pe_str (pa_cons pe_str (pa_cons pe_str (pa_cons pe_str (pa_cons pe_str (pa_cons pe_str pa_nil))))))))))))))))))
      (pss_cons (ps_set (i := 1) sc34.nd rfl (.inl rfl) (pe_op op_cat (pv 1) (pe_lst (pa_cons pe_str (pa_cons pe_str (pa_cons pe_str (pa_cons pe_str (pa_cons pe_str (pa_cons (pe_tup pa_nil) (pa_cons (pe_lst pa_nil) (pa_cons pe_dnewK
        (pa_cons (pe_tup (pa_cons pe_str pa_nil)) (pa_cons (pe_lst (pa_cons pe_str pa_nil)) (pa_cons (pe_disp (pps_cons pe_str pe_int pps_nil) (by rfl) (by rfl) (by simp) (by decide)) (pa_cons (pe_tup (pa_cons (pe_tup pa_nil) pa_nil)) (pa_cons (pe_tup (pa_cons pe_non pa_nil)) pa_nil))))))))))))))))
      (pss_cons (ps_set (i := 1) sc34.nd rfl (.inl rfl) (pe_op op_cat (pv 1) (pe_lst (pa_cons (pe_tup (pa_cons pe_str pa_nil)) (pa_cons (pe_tup (pa_cons pe_str pa_nil)) pa_nil)))))
      (pss_one (ps_ret (pk0 N28 hr (Nat.le_refl _) (pa_cons (pv 0) (pa_cons (pv 1) pa_nil))))))), ?_⟩
    refine ⟨1, rfl, 10, 50, rfl, rfl, pw50, z_le 16, fun l1 n1 => ?_⟩
    have okI : ∀ i : Int, i ∈ ([0, 1, -1, 2, 3] : List Int) → OkD (.int i) := by
      intro i hi
      simp only [List.mem_cons, List.not_mem_nil, or_false] at hi
      rcases hi with rfl | rfl | rfl | rfl | rfl <;> exact ⟨by decide +kernel, by decide +kernel, by decide +kernel⟩
    have a1 : ∀ G : Hp, AllO K G [.non, .bl true, .bl false, .int 0, .int 1, .int (-1), .int 2, .int 3, .int ((10 : Int) ^ (50 : Int).toNat), .str "", .str "x", .str "X", .str "failed", .str "kept", .str "skipped", .str "undone"] := fun G =>
      .cons oo_non (.cons (oo_bl _) (.cons (oo_bl _) (.cons (oo_int (okI 0 (by decide))) (.cons (oo_int (okI 1 (by decide))) (.cons (oo_int (okI (-1) (by decide))) (.cons (oo_int (okI 2 (by decide))) (.cons (oo_int (okI 3 (by decide))) (.cons (oo_int ok50)
        (.cons (oo_str ⟨by decide +kernel, by decide +kernel, by decide +kernel⟩) (.cons (oo_str ⟨by decide +kernel, by decide +kernel, by decide +kernel⟩) (.cons (oo_str ⟨by decide +kernel, by decide +kernel, by decide +kernel⟩) (.cons (oo_str ⟨by decide +kernel, by decide +kernel, by decide +kernel⟩)
        (.cons (oo_str ⟨by decide +kernel, by decide +kernel, by decide +kernel⟩) (.cons (oo_str ⟨by decide +kernel, by decide +kernel, by decide +kernel⟩) (.cons (oo_str ⟨by decide +kernel, by decide +kernel, by decide +kernel⟩) .nil)))))))))))))))
    refine ⟨.ref l1, rfl, z_le 0, fun t1 m1 => ⟨z_le 0, fun t2 m2 t3 m3 => ⟨z_le 1, fun t4 m4 => ⟨z_le 1, fun t5 m5 t6 m6 => ⟨upd_same, [(Sum.inr "x", .int 1)], rfl, by decide, z_le 0, fun t7 m7 => ⟨z_le 1, fun t8 m8 => ⟨z_le 1, fun t9 m9 => ⟨z_le 13, fun l2 n2 => ?_⟩⟩⟩⟩⟩⟩⟩⟩
    have S9 := Same.new (o := .lst [.str "abcdefghi", .str "a b", .str "a\n", .str "ok ", .str "1", .ref t1, .ref t2, .ref t3, .ref t4, .ref t5, .ref t6, .ref t8, .ref t9]) n2
    have S8 := (Same.new (o := .tup [.non]) m9).trans S9
    have S7 := (Same.new (o := .tup [.ref t7]) m8).trans S8
    have S6 := (Same.new (o := .tup []) m7).trans S7
    have S5 := ((Same.new (o := .dK []) m6).chg (o := .dK [(Sum.inr "x", .int 1)]) m6).trans S6
    have S4 := (Same.new (o := .lst [.str "x"]) m5).trans S5
    have S3 := (Same.new (o := .tup [.str "x"]) m4).trans S4
    have S2 := (Same.new (o := .dK []) m3).trans S3
    have S1 := (Same.new (o := .lst []) m2).trans S2
    have S0 := (Same.new (o := .tup []) m1).trans S1
    refine ⟨l1, l2, _, _, rfl, rfl, S0 _ _ upd_same, upd_same, z_le 29, fun l3 n3 => ?_⟩
    refine ⟨.ref l3, rfl, z_le 1, fun t10 m10 => ⟨z_le 1, fun t11 m11 => ⟨z_le 2, fun l4 n4 => ?_⟩⟩⟩
    have U11 := Same.new (o := .lst [.ref t10, .ref t11]) n4
    have U10 := (Same.new (o := .tup [.str "send"]) m11).trans U11
    have U3 := (Same.new (o := .tup [.str "mark"]) m10).trans U10
    refine ⟨l3, l4, _, _, rfl, rfl, U3 _ _ upd_same, upd_same, z_le 31, fun l5 n5 => ?_⟩
    have W0 := (Same.new (o := .lst (([.non, .bl true, .bl false, .int 0, .int 1, .int (-1), .int 2, .int 3, .int ((10 : Int) ^ (50 : Int).toNat), .str "", .str "x", .str "X", .str "failed", .str "kept", .str "skipped", .str "undone"] ++ [.str "abcdefghi", .str "a b", .str "a\n", .str "ok ", .str "1", .ref t1, .ref t2, .ref t3, .ref t4, .ref t5, .ref t6, .ref t8, .ref t9]))) n3).trans U3
    have sB := Same.new (o := .lst (([.non, .bl true, .bl false, .int 0, .int 1, .int (-1), .int 2, .int 3, .int ((10 : Int) ^ (50 : Int).toNat), .str "", .str "x", .str "X", .str "failed", .str "kept", .str "skipped", .str "undone"] ++ [.str "abcdefghi", .str "a b", .str "a\n", .str "ok ", .str "1", .ref t1, .ref t2, .ref t3, .ref t4, .ref t5, .ref t6, .ref t8, .ref t9]) ++ [.ref t10, .ref t11])) n5
    have Z := W0.trans sB
    have sA := ((Same.new n1).trans S0).trans Z
    have ne5 := ne_p hd ((((Same.new n1).trans S0).trans W0).free n5)
    obtain ⟨x0, y0, z0, hp0, hrest⟩ := hd
    have hpX := sA _ _ hp0
    have a2 := AllO.cons (oo_str (K := K) (s := "abcdefghi") ⟨by decide +kernel, by decide +kernel, by decide +kernel⟩) (.cons (oo_str (s := "a b") ⟨by decide +kernel, by decide +kernel, by decide +kernel⟩) (.cons (oo_str (s := "a\n") ⟨by decide +kernel, by decide +kernel, by decide +kernel⟩)
      (.cons (oo_str (s := "ok ") ⟨by decide +kernel, by decide +kernel, by decide +kernel⟩) (.cons (oo_str (s := "1") ⟨by decide +kernel, by decide +kernel, by decide +kernel⟩)
      (.cons (oo_tup (hid_at hpX ((S1.trans Z) _ _ upd_same) (fun z => by cases z)) .nil ⟨by decide +kernel, by decide +kernel, by decide +kernel⟩) (.cons (oo_lst (hid_at hpX ((S2.trans Z) _ _ upd_same) (fun z => by cases z)) .nil ⟨by decide +kernel, by decide +kernel, by decide +kernel⟩)
      (.cons (oo_d0 (hid_at hpX ((S3.trans Z) _ _ upd_same) (fun z => by cases z)))
      (.cons (oo_tup (hid_at hpX ((S4.trans Z) _ _ upd_same) (fun z => by cases z)) (.cons (.str "x") .nil) ⟨by decide +kernel, by decide +kernel, by decide +kernel⟩) (.cons (oo_lst (hid_at hpX ((S5.trans Z) _ _ upd_same) (fun z => by cases z)) (.cons (.str "x") .nil) ⟨by decide +kernel, by decide +kernel, by decide +kernel⟩)
      (.cons (oo_d1 (hid_at hpX ((S6.trans Z) _ _ upd_same) (fun z => by cases z))) (.cons (oo_tup (hid_at hpX ((S8.trans Z) _ _ upd_same) (fun z => by cases z)) (.cons (.tup (sqt (hid_at hpX ((S7.trans Z) _ _ upd_same) (fun z => by cases z))) .nil) .nil) ⟨by decide +kernel, by decide +kernel, by decide +kernel⟩)
      (.cons (oo_tup (hid_at hpX ((S9.trans Z) _ _ upd_same) (fun z => by cases z)) (.cons .non .nil) ⟨by decide +kernel, by decide +kernel, by decide +kernel⟩) .nil))))))))))))
    have a3 := AllO.cons (oo_tup (K := K) (hid_at hpX ((U10.trans sB) _ _ upd_same) (fun z => by cases z)) (.cons (.str "mark") .nil) ⟨by decide +kernel, by decide +kernel, by decide +kernel⟩) (.cons (oo_tup (hid_at hpX ((U11.trans sB) _ _ upd_same) (fun z => by cases z)) (.cons (.str "send") .nil) ⟨by decide +kernel, by decide +kernel, by decide +kernel⟩) .nil)
    have all := ((AllO.app (a1 _) a2).app a3)
    refine ⟨.ref p, rfl, .ref l5, rfl, p, l5, _, rfl, ⟨x0, y0, z0, hpX, hrest⟩, upd_same, ne5, by show 0 < 31; decide, by show 31 ≤ 1000; decide, fun x H1 b1 d1 hx => ?_⟩
    exact q x H1 (sA.but.trans b1) d1 ((all x hx).same (hid_hid b1))
end
end Bk
end
section
set_option Elab.async false
set_option linter.all false
set_option maxRecDepth 100000
set_option maxHeartbeats 4000000
/-! What is known of Book, in one; data that is shown; _law_told. -/
namespace Bk
open PySem PySem.Spec PyProof.Rows L2 ClX
structure MtK (P : Program) (w : World) (K : PySem.W.Frag) (mg : Str → Option Value) (base : Heap) (CX : CXT) (k : Nat) (C : Addr) (m : Str) (ps : List Str) (sp : Sp) : Prop where
  ex : ∃ f fd, Meth K C m f ∧ FnOk P w K mg base CX k f fd ps sp ∧ Binds K fd ps []
structure SpK (P : Program) (w : World) (K : PySem.W.Frag) (mg : Str → Option Value) (base : Heap) (CX : CXT) (k : Nat) (C : Addr) (n : Str) (sp : Sp) : Prop where
  ex : ∃ f, Spc K C n f ∧ FnR P w K mg base CX k f sp
/-- the law's view of the class -/
structure Bf (P : Program) (w : World) (K : PySem.W.Frag) (mg : Str → Option Value) (base : Heap) (C CI CO CU fU : Addr) : Prop where
  B : Bx K mg C CI CO CU fU
  mTa : MtK P w K mg base (L2.CX P w) 4 C "takes" ["self", "command"] (spGet K C CU RTak)
  mAn : MtK P w K mg base (L2.CX P w) 4 C "answers" ["self", "command"] (spGet K C CU RAns)
  mOu : MtK P w K mg base (L2.CX P w) 4 C "outcomes" ["self", "command"] (spGet K C CU ROut)
  mWo : MtK P w K mg base (L2.CX P w) 8 C "without" ["self", "command"] (spWo K C CO CU)
  mWi : MtK P w K mg base (L2.CX P w) 2 C "is_within" ["self", "other"] (spWithin K C CI)
  sOr : SpK P w K mg base (L2.CX P w) 7 C "__or__" (spOr K C CO)
  sIt : SpK P w K mg base (L2.CX P w) 4 C "__getitem__" (spGet K C CU RItm)
  sCo : SpK P w K mg base L2.CX0 2 C "__contains__" (spIsCmd K C)
  sLe : SpK P w K mg base L2.CX0 1 C "__len__" (spLen C)
  sEq : SpK P w K mg base L2.CX0 1 C "__eq__" (spEqB K C)
  sSt : SpK P w K mg base L2.CX0 1 C "__str__" (spStr C)
  pCm : ∃ p g fd, PropOf K C "commands" p g ∧ FnOk P w K mg base L2.CX0 1 g fd ["self"] (spCmds C) ∧ Binds K fd ["self"] []
  cOf : ∃ mc p g, CRead K C mc ∧ CMet K C mc "of" p g ∧ FnR P w K mg base L2.CX0 7 g (spOf C)
  mkB : ∃ fI, Mk K C fI ∧ FnKw P w K mg base L2.CX0 5 fI (spKw C)
  ne : PySem.W.findIn K (.ref C) "__ne__" = some (some (.builtin "object.__ne__"))
  nT : ∀ T, T ∈ "str" :: TL → PySem.W.notFirst K C (.type T) = true
  nC : PySem.W.notFirst K C (.ref C) = true
  sf : PySem.W.selfFirst K C = true
  ror : PySem.W.findIn K (.ref C) "__ror__" = some none
  orT : ∀ T, T ∈ "str" :: TL → ∃ fo ro, PySem.W.findIn K (.type T) "__or__" = some fo ∧ PySem.W.findIn K (.type T) "__ror__" = some ro ∧ PySem.W.subIn K (.type T) (.ref C) = some false
/-- a method's call -/
def tM (C : Addr) (m : Str) (sp : Sp) (E : XK) (ta : TE) (t : TA) : TE := fun σ H Q => ta σ H fun x H1 => ∃ a dx fs, x = .ref a ∧ H1 a = some (.ins C dx fs) ∧ fs.lookup m = none ∧ t σ H1 fun vs H2 => sp (x :: vs) H2 Q E
section
variable {X : Cx} {CX : CXT} {j k : Nat} {C : Addr} {m : Str} {ps : List Str} {sp : Sp} {E : XK} {o e : Expr} {es : List Expr} {ta : TE} {t : TA} {apos pos : Pos}
theorem pm {pl : Sem Bool} (M : MtK X.prog X.w X.K X.mg X.base CX j C m ps sp) (c : Cls X.K C) (hr : Room k X.A) (hj : j ≤ k) (hx : Passes CX X E) (he : PE X o ta) (ha : PA X (e :: es) t)
    (hst : starEach (e :: es) X.env = (false, eval e X.env) :: starEach es X.env := by rfl) (hpl : (backTo pos (starEach es X.env)).any (·.1) = false := by rfl)
    (ht : eval (.Call (.Attribute o m apos) (e :: es) [] pos) X.env = (do
      let ov ← eval o X.env
      standAt apos.atName
      let (f, first) ← holding [ov] (getMethod ov m pl)
      callWith pos f first (backTo pos (starEach (e :: es) X.env)) (backToKw pos (keywordEach [] X.env))) := by rfl) :
    PE X (.Call (.Attribute o m apos) (e :: es) [] pos) (tM C m sp E ta t) := by
  obtain ⟨f, fd, hm, F, hb⟩ := M.ex
  have h := pe_meth (pl := pl) (dvs := []) he c hm (F.mono hj) hr hb .nil hx ha hst hpl ht
  unfold tMeth at h
  simp only [List.append_nil] at h
  exact h
end
/-! ### what is shown -/
def smS (x : Str) : Bool := x.cps.toList.all (fun c => decide (c < 16 ^ 8)) && decide (x.cps.size ≤ 9)
theorem name_sm {x : Str} (h : nameB x = true) : smS x = true := by
  unfold smS
  rw [Bool.and_eq_true, List.all_eq_true, decide_eq_true_eq]
  refine ⟨fun c hc => ?_, ?_⟩
  · have := (name_cps h c hc).2
    rw [decide_eq_true_eq]
    omega
  · have := (name_len h).2
    have e : x.cps.size = x.length := rfl
    omega
theorem okD_of {d : PyData} (h1 : d.showable = true) (h2 : d.depth ≤ 8) (h3 : d.leavesShort 100 = true) (h4 : d.bulk ≤ 900) : OkD d := by
  refine ⟨h1, h2, ?_⟩
  have := PyData.shown_le_bulk 100 (by decide) d h3
  omega
theorem strs_ok : ∀ {xs : List Str}, (∀ x ∈ xs, smS x = true) → PyData.showableAll (xs.map .str) = true ∧ PyData.depthAll (xs.map .str) = 0 ∧ PyData.leavesShortAll 100 (xs.map .str) = true ∧ PyData.bulkAll (xs.map .str) ≤ 10 * xs.length
  | [], _ => ⟨rfl, rfl, rfl, Nat.le_refl _⟩
  | x :: xs, h => by
    obtain ⟨i1, i2, i3, i4⟩ := strs_ok (xs := xs) fun y hy => h y (List.mem_cons_of_mem _ hy)
    have hx := h x List.mem_cons_self
    unfold smS at hx
    rw [Bool.and_eq_true, decide_eq_true_eq] at hx
    refine ⟨?_, ?_, ?_, ?_⟩
    · show (PyData.showable (.str x) && PyData.showableAll (xs.map .str)) = true
      rw [i1]
      rfl
    · show max (PyData.depth (.str x)) (PyData.depthAll (xs.map .str)) = 0
      rw [i2]
      rfl
    · show (PyData.leavesShort 100 (.str x) && PyData.leavesShortAll 100 (xs.map .str)) = true
      rw [i3]
      show (x.cps.toList.all (fun c => decide (c < 16 ^ 8)) && true) = true
      rw [hx.1]
      rfl
    · show PyData.bulk (.str x) + 1 + PyData.bulkAll (xs.map .str) ≤ 10 * (xs.length + 1)
      have : PyData.bulk (.str x) = x.cps.size := rfl
      omega
theorem okD_strs {xs : List Str} (h : ∀ x ∈ xs, smS x = true) (l : xs.length ≤ 20) : OkD (.tuple (xs.map .str)) := by
  obtain ⟨i1, i2, i3, i4⟩ := strs_ok h
  refine okD_of i1 ?_ i3 ?_
  · show PyData.depthAll (xs.map .str) + 1 ≤ 8
    omega
  · show PyData.bulkAll (xs.map .str) ≤ 900
    omega
theorem okD_str {x : Str} (h : smS x = true) : OkD (.str x) := by
  unfold smS at h
  rw [Bool.and_eq_true, decide_eq_true_eq] at h
  refine okD_of rfl (by show 0 ≤ 8; omega) h.1 ?_
  show x.cps.size ≤ 900
  omega
section
variable {P : Program} {w : World} {K : PySem.W.Frag} {mg : Str → Option Value} {base : Heap} {C CI CO CU fU : Addr}
/-! ### told -/
abbrev spTold (C : Addr) : Sp := fun vs H Q _ => ∃ (b : Addr) (bd : Bd), vs = [.ref b] ∧ BookAt C H b bd ∧ BdOk bd ∧ ∀ (d : Addr) (H' : Hp), H d = none → Same H H' → DictAt H' d bd → Q (.ref d) H'
theorem sc36 : FnScope ["_law_book", "_law_one"] ["_law_book"] (defScope (top 36)) := ⟨rfl, rfl, rfl, by decide +kernel, rfl, by decide +kernel, by decide +kernel⟩
theorem BookAt.ins {H : Hp} {b : Addr} {bd : Bd} (h : BookAt C H b bd) : ∃ dx d, H b = some (.ins C dx [(oF, .ref d)]) := by
  obtain ⟨dx, d, h, _⟩ := h
  exact ⟨dx, d, h⟩
theorem BookAt.insO {H : Hp} {b : Addr} {bd : Bd} (h : BookAt C H b bd) : InsO C H (.ref b) := by
  obtain ⟨dx, d, h, _⟩ := h
  exact ⟨b, dx, _, rfl, h⟩
theorem ok_told {f : Addr} {fd : FuncData} (F : Fun K "_law_told" "_law_told" (top 36) f fd) (B : Bf P w K mg base C CI CO CU fU) : FnOk P w K mg base L2.CX0 5 f fd ["_law_book"] (spTold C) := by
  refine F.ok sc36 (fun vs H Q E h => ?_) (fun cdv A outer s H vs Q E hr h => ?_)
  · obtain ⟨b, bd, rfl, _⟩ := h
    rfl
  · obtain ⟨b, bd, rfl, hb, ok, q⟩ := h
    obtain ⟨pp, gg, fdd, hp, FP, bP⟩ := B.pCm
    refine ⟨_, pss_one (ps_ret (pe_callTy (call_dictP rfl) (by rfl) B.B.T.dct PyProof.Rows.boot_dict (pa_cons (pe_lc rfl sc36.nd (pi_tup (pe_prop (dvs := []) (E := L2.E0) (pv 0) B.B.cls hp (FP.mono (by omega : 1 ≤ 3)) hr bP .nil pass0 (by rfl)))
      (blkOk_by (own := [("_law_one", 1)]) (by rfl)) (fun _ _ _ _ _ => pg_name (i := 1) sc36.nd rfl (.inl rfl)) (fun _ _ _ _ _ => pts_nil)
      (fun _ _ _ _ _ => pe_tup (pa_cons (pv 1) (pa_cons (pe_tup (pa_cons (pm B.mTa B.B.cls hr (Nat.le_refl _) passF (pv 0) (pa_cons (pv 1) pa_nil)) (pa_cons (pm B.mAn B.B.cls hr (Nat.le_refl _) passF (pv 0) (pa_cons (pv 1) pa_nil)) pa_nil))) pa_nil)))) pa_nil))), ?_⟩
    obtain ⟨dx, dd, hi⟩ := hb.ins
    refine ⟨.ref b, rfl, b, dx, _, rfl, hi, b, bd, rfl, hb, fun tc H1 s1 htc => ⟨tc, rfl, ⟨_, sqt htc⟩, fun D nD => ?_⟩⟩
    have l6 := ok.l6
    refine lc_it (walk_tup (K := K) (a := tc) (xs := (keys bd).map V.str)) (fun i H' => ∃ (ps : List Addr) (kvs : List (Key × V)), H' D = some (.lst (ps.map V.ref)) ∧ Paired (fun p kv => H' p = some (.tup [kV kv.1, kv.2])) ps kvs ∧ KvAt H' kvs (bd.take i) ∧ ps.length = i ∧ Same H1 H')
      ⟨[], [], upd_same, .nil, .nil, rfl, Same.new nD⟩ (fun i H' _ hP => ?_) (fun i x H2 H3 hi2 hP hy => ?_) fun H2 hP => ?_
    · obtain ⟨ps, kvs, g1, g2, g3, g4, g5⟩ := hP
      exact sqt (g5 _ _ htc)
    · obtain ⟨ps, kvs, g1, g2, g3, g4, g5⟩ := hP
      obtain ⟨rfl, ex⟩ := hy
      obtain ⟨y, hy, rfl⟩ := at_map ex
      rw [List.getElem?_map] at hy
      obtain ⟨⟨y', p⟩, hb2, rfl⟩ := at_map (f := fun e : Str × Pr => e.1) (by rw [List.getElem?_map]; exact hy)
      have hm : (y', p) ∈ bd := List.mem_of_getElem? hb2
      have hlk := lookup_of_mem' ok.nd hm
      rw [List.length_map, keys_len] at hi2
      have hb3 := hb.same (s1.trans g5)
      obtain ⟨dx3, dd3, hi3⟩ := hb3.ins
      refine ⟨rfl, yesT (iteT ⟨.str y', rfl, .ref b, rfl, b, dx3, _, rfl, hi3, rfl, .str y', rfl, b, bd, .str y', true, rfl, hb3, ok, .inl ⟨y', rfl, by rw [hlk] <;> rfl⟩, fun _ s p1 H4 es el s4 => ?_, fun z => by cases z⟩)⟩
      cases es
      rw [hlk] at el
      cases el
      have hb4 := hb3.same s4
      obtain ⟨dx4, dd4, hi4⟩ := hb4.ins
      refine ⟨.ref b, rfl, b, dx4, _, rfl, hi4, rfl, .str y', rfl, b, bd, .str y', true, rfl, hb4, ok, .inl ⟨y', rfl, by rw [hlk] <;> rfl⟩, fun _ s p2 H5 es el s5 a5 ha5 => ?_, fun z => by cases z⟩
      cases es
      rw [hlk] at el
      cases el
      refine ⟨z_le 2, fun t1 n1 => ⟨z_le 2, fun t2 n2 => ?_⟩⟩
      have s6 : Same H3 (upd (upd H5 t1 (.tup [.int p.1, .ref a5])) t2 (.tup [.str y', .ref t1])) := ((s4.trans s5).put n1).put n2
      have n12 : t1 ≠ t2 := fun z => by
        rw [← z, upd_same] at n2
        cases n2
      have gD := s6 _ _ g1
      have n2D : D ≠ t2 := fun z => by
        rw [z, upd_same] at gD
        cases gD
      refine ⟨_, gD, thou (by rw [List.length_map]; omega), ps ++ [t2], kvs ++ [(Sum.inr y', .ref t1)], ?_, ?_, ?_, ?_, ?_⟩
      · rw [upd_same, List.map_append]
        rfl
      · have tD : ∀ {e : Addr} {xs : List V} {o : HO}, (upd (upd H5 t1 (.tup [.int p.1, .ref a5])) t2 (.tup [.str y', .ref t1])) e = some (.tup xs) → upd (upd (upd H5 t1 (.tup [.int p.1, .ref a5])) t2 (.tup [.str y', .ref t1])) D o e = some (.tup xs) := fun {e xs o} he => by
          rw [upd_ne (fun z => by rw [z, gD] at he; cases he)]
          exact he
        exact pairedApp (Paired.mapP g2 fun a b h => tD (s6 _ _ h)) (.cons (tD upd_same) .nil)
      · have tD : Tps (upd (upd H5 t1 (.tup [.int p.1, .ref a5])) t2 (.tup [.str y', .ref t1])) (upd (upd (upd H5 t1 (.tup [.int p.1, .ref a5])) t2 (.tup [.str y', .ref t1])) D (.lst (ps.map V.ref ++ [.ref t2]))) := fun e xs he => by
          rw [upd_ne (fun z => by rw [z, gD] at he; cases he)]
          exact he
        rw [take_snoc hb2]
        refine pairedApp (g3.tps (s6.tps.trans tD)) (.cons ⟨rfl, t1, a5, rfl, tD _ _ (by rw [upd_ne n12, upd_same]), tD _ _ ?_⟩ .nil)
        exact (Same.put (o := .tup [.str y', .ref t1]) (Same.new (o := .tup [.int p.1, .ref a5]) n1) n2) _ _ ha5
      · rw [List.length_append, g4]
        rfl
      · exact (g5.trans s6).chg nD
    · obtain ⟨ps, kvs, g1, g2, g3, g4, g5⟩ := hP
      rw [List.length_map, keys_len, List.take_length] at g3
      refine ⟨D, ps, kvs, rfl, sql g1, Paired.mapP g2 fun a b h => sqt h, fun d nd => ?_⟩
      have s7 := (s1.trans g5).put (o := .dK (mergeK [] kvs)) nd
      have k := g3.mrg (.nil : KvAt H2 [] [])
      rw [mrg_nil (show (keys ([] ++ bd)).Nodup from ok.nd)] at k
      exact q d _ ((s1.trans g5).free nd) s7 ⟨_, upd_same, k.tps (Same.new nd).tps⟩
end
end Bk
end
section
set_option Elab.async false
set_option linter.all false
set_option maxRecDepth 100000
set_option maxHeartbeats 4000000
/-! _law_is_right. -/
namespace Bk
open PySem PySem.Spec PyProof.Rows L2 ClX
def dueD (p : Pr) (os : List Str) : PyData := .list [.int p.1, .tuple (p.2.map .str), .tuple (os.map .str), prD p, .bool true]
theorem okD_due {p : Pr} {os : List Str} (hp : PrOk p) (ho : os.Perm ("failed" :: p.2)) : OkD (dueD p os) := by
  have h1 : ∀ x ∈ p.2, smS x = true := fun x hx => name_sm (hp.an x hx).nm
  have h2 : ∀ x ∈ os, smS x = true := fun x hx => by
    rcases List.mem_cons.mp (ho.mem_iff.mp hx) with e | e
    · rw [e]
      decide +kernel
    · exact h1 x e
  obtain ⟨i1, i2, i3, i4⟩ := strs_ok h1
  obtain ⟨j1, j2, j3, j4⟩ := strs_ok h2
  have l1 := hp.l3
  have l2 := ho.length_eq
  rw [List.length_cons] at l2
  obtain ⟨n, xs⟩ := p
  have e : n = 0 ∨ n = 1 ∨ n = 2 := by
    have a := hp.t0
    have b := hp.t2
    dsimp only at a b
    omega
  dsimp only at i1 i2 i3 i4 l1 l2
  refine okD_of ?_ ?_ ?_ ?_
  · show (PyData.showable (.int n) && (PyData.showableAll (xs.map .str) && (PyData.showableAll (os.map .str) && ((PyData.showable (.int n) && (PyData.showableAll (xs.map .str) && true)) && (true && true))))) = true
    rw [i1, j1]
    rcases e with rfl | rfl | rfl <;> decide +kernel
  · show max (PyData.depth (.int n)) (max (PyData.depthAll (xs.map .str) + 1) (max (PyData.depthAll (os.map .str) + 1) (max (max (PyData.depth (.int n)) (max (PyData.depthAll (xs.map .str) + 1) 0) + 1) (max 0 0)))) + 1 ≤ 8
    rw [i2, j2]
    show max 0 (max (0 + 1) (max (0 + 1) (max (max 0 (max (0 + 1) 0) + 1) (max 0 0)))) + 1 ≤ 8
    decide
  · show (PyData.leavesShort 100 (.int n) && (PyData.leavesShortAll 100 (xs.map .str) && (PyData.leavesShortAll 100 (os.map .str) && ((PyData.leavesShort 100 (.int n) && (PyData.leavesShortAll 100 (xs.map .str) && true)) && (true && true))))) = true
    rw [i3, j3]
    rcases e with rfl | rfl | rfl <;> decide +kernel
  · show 0 + 1 + (PyData.bulkAll (xs.map .str) + 1 + (PyData.bulkAll (os.map .str) + 1 + ((0 + 1 + (PyData.bulkAll (xs.map .str) + 1 + 0)) + 1 + (0 + 1 + 0)))) ≤ 900
    omega
theorem failed_sm : smS "failed" = true := by decide +kernel
section
variable {P : Program} {w : World} {K : PySem.W.Frag} {mg : Str → Option Value} {base : Heap} {C CI CO CU fU : Addr}
abbrev spRight (C : Addr) : Sp := fun vs H Q _ => ∃ (b : Addr) (bd : Bd) (d : Addr) (bp : Bd), vs = [.ref b, .ref d] ∧ BookAt C H b bd ∧ DictAt H d bp ∧ BdOk bd ∧ bd.Perm bp ∧ Asc (keys bd) ∧ ∀ H', Same H H' → Q (.bl true) H'
abbrev N37 : List Str := ["_law_book", "_law_pairs_here", "_law_names_here", "_law_one", "_law_due"]
theorem sc37 : FnScope N37 ["_law_book", "_law_pairs_here"] (defScope (top 37)) := ⟨rfl, rfl, rfl, by decide +kernel, rfl, by decide +kernel, by decide +kernel⟩
theorem ok_is_right {f : Addr} {fd : FuncData} (F : Fun K "_law_is_right" "_law_is_right" (top 37) f fd) (B : Bf P w K mg base C CI CO CU fU) (N33 : Kn P w K mg base L2.CX0 1 "_law_outcomes" ["_law_pairs_here", "_law_command"] spOutL) :
    FnG P w K mg base 7 f fd ["_law_book", "_law_pairs_here"] (spRight C) := by
  refine okG F sc37 (fun vs H Q E h => ?_) (fun cdv A outer s H vs Q E ecd hr hgd h => ?_)
  · obtain ⟨b, bd, d, bp, rfl, _⟩ := h
    rfl
  · obtain ⟨b, bd, d, bp, rfl, hb, hd, ok, pm0, asc, q⟩ := h
    obtain ⟨pp, gg, fdd, hp, FP, bP⟩ := B.pCm
    obtain ⟨fL, cL, FL⟩ := B.sLe
    obtain ⟨fS, cS, FS⟩ := B.sSt
    obtain ⟨fI, cI, FI⟩ := B.sIt
    obtain ⟨fC, cC, FC⟩ := B.sCo
    refine ⟨_, pss_cons (ps_set (i := 2) sc37.nd rfl (.inl rfl) (pe_callB (call_sortedD rfl) (by rfl) B.B.T.srt boot_sorted (pa_cons (pv 1) pa_nil)))
      (pss_cons (ps_if (pw_or (pt_cmpR op_ne (pe_callB (call_reprD hgd hr.units) (by rfl) B.B.T.rpr boot_repr (pa_cons (pe_prop (dvs := []) (E := L2.E0) (pv 0) B.B.cls hp (FP.mono (by omega : 1 ≤ 5)) hr bP .nil pass0 (by rfl)) pa_nil))
            (pe_callB (call_reprD hgd hr.units) (by rfl) B.B.T.rpr boot_repr (pa_cons (pe_callTy call_tuple_of (by rfl) B.B.T.tup PyProof.Rows.boot_tuple (pa_cons (pv 2) pa_nil)) pa_nil)) (by with_unfolding_all rfl))
          (pw_or1 (pt_cmpR op_ne (pe_callB (call_lenO (E := L2.E0) cL (FL.mono (by omega : 1 ≤ 5)) hr pass0) (by rfl) B.B.T.len PySem.boot_len (pa_cons (pv 0) pa_nil)) (pe_callB call_len (by rfl) B.B.T.len PySem.boot_len (pa_cons (pv 2) pa_nil)) (by with_unfolding_all rfl)))).pt (pss_one (ps_ret pe_bl)) pss_nil)
      (pss_cons (ps_if (pw_or (pt_cmpR op_ne (pe_callTy (call_strO (E := L2.E0) cS (FS.mono (by omega : 1 ≤ 4)) hr pass0) (by rfl) B.B.T.str PyProof.Rows.boot_str (pa_cons (pv 0) pa_nil))
            (pe_op op_add_str (pe_op op_add_str pe_str (pe_callTy call_str_int (by rfl) B.B.T.str PyProof.Rows.boot_str (pa_cons (pe_callB call_len (by rfl) B.B.T.len PySem.boot_len (pa_cons (pv 2) pa_nil)) pa_nil))) pe_str) (by with_unfolding_all rfl))
          (pw_or1 (pt_not (pt_val (p_isiC B.B.T.isi B.B.mB (pv 0)))))).pt (pss_one (ps_ret pe_bl)) pss_nil)
      (pss_cons (ps_for PassesOwn.never rfl (pi_list (pv 2)) (pg_name (i := 3) sc37.nd rfl (.inl rfl))
        (pss_cons (ps_set (i := 4) sc37.nd rfl (.inl rfl) (pe_lst (pa_cons (pe_ix ix_tup (pe_dget (hu_of hr) (pv 1) (pv 3) fun _ _ => rfl) pe_int fun _ _ => rfl) (pa_cons (pe_ix ix_tup (pe_dget (hu_of hr) (pv 1) (pv 3) fun _ _ => rfl) pe_int fun _ _ => rfl)
            (pa_cons (pe_callTy call_tuple_of (by rfl) B.B.T.tup PyProof.Rows.boot_tuple (pa_cons (pk0 N33 hr (by omega) (pa_cons (pv 1) (pa_cons (pv 3) pa_nil))) pa_nil)) (pa_cons (pe_dget (hu_of hr) (pv 1) (pv 3) fun _ _ => rfl) (pa_cons pe_bl pa_nil)))))))
        (pss_one (ps_if (pt_cmpR op_ne (pe_callB (call_reprD hgd hr.units) (by rfl) B.B.T.rpr boot_repr (pa_cons (pe_lst (pa_cons (pm B.mTa B.B.cls hr (by omega) passF (pv 0) (pa_cons (pv 3) pa_nil)) (pa_cons (pm B.mAn B.B.cls hr (by omega) passF (pv 0) (pa_cons (pv 3) pa_nil))
              (pa_cons (pm B.mOu B.B.cls hr (by omega) passF (pv 0) (pa_cons (pv 3) pa_nil)) (pa_cons (pe_subO (E := L2.E0) cI (FI.mono (by omega : 4 ≤ 5)) hr passF (pv 0) (pv 3)) (pa_cons (pe_cmpR (op_inO (E := L2.E0) cC (FC.mono (by omega : 2 ≤ 6)) hr pass0) (pv 3) (pv 0) (by with_unfolding_all rfl)) pa_nil)))))) pa_nil))
            (pe_callB (call_reprD hgd hr.units) (by rfl) B.B.T.rpr boot_repr (pa_cons (pv 4) pa_nil)) (by with_unfolding_all rfl)) (pss_one (ps_ret pe_bl)) pss_nil))))
      (pss_one (ps_ret pe_bl))))), ?_⟩
    obtain ⟨kvs, hd1, hkv⟩ := hd
    have okp : BdOk bp := ok.perm pm0
    have l6 := ok.l6
    have l6p := okp.l6
    refine ⟨.ref d, rfl, d, kvs, keys bp, rfl, .inl hd1, hkv.keys, by rw [keys_len]; omega, fun ys l py sy nl => ?_⟩
    have ey : ys = keys bd := nf_uniq (sorted_nf sy) (asc_nf asc) (py.trans (keys_perm pm0).symm)
    subst ey
    have s1 : Same H (upd H l (.lst ((keys bd).map V.str))) := Same.new nl
    have hb1 := hb.same s1
    obtain ⟨dx1, dd1, hi1⟩ := hb1.ins
    have okK : OkD (.tuple ((keys bd).map .str)) := okD_strs (fun x hx => name_sm (ok.key hx).nm) (by rw [keys_len]; omega)
    refine ⟨.ref b, rfl, b, dx1, _, rfl, hi1, b, bd, rfl, hb1, fun t H2 s2 ht => ⟨.ref t, .tuple ((keys bd).map .str), rfl, .inl (.tup (sqt ht) (dp_strs _)), okK, ?_⟩⟩
    have hl2 := s2 _ _ upd_same
    refine ⟨.ref l, rfl, l, _, rfl, .inl ⟨sql hl2, fun t2 nt2 => ⟨.ref t2, .tuple ((keys bd).map .str), rfl, .inl (.tup (sqt upd_same) (dp_strs _)), okK, rfl, _, rfl, ?_⟩⟩⟩
    rw [decide_eq_true rfl]
    refine iteF ?_
    have s3 : Same H2 (upd H2 t2 (.tup ((keys bd).map V.str))) := Same.new nt2
    have hb3 := (hb1.same s2).same s3
    have hl3 := s3 _ _ hl2
    refine ⟨.ref b, rfl, .ref b, rfl, hb3.insO, b, bd, rfl, hb3, fun H4 s4 => ⟨bd.length, rfl, by omega, ?_⟩⟩
    have hl4 := s4 _ _ hl3
    refine ⟨.ref l, rfl, .ref l, _, rfl, lenL hl4, rfl, _, rfl, ?_⟩
    rw [show ((keys bd).map V.str).length = bd.length by rw [List.length_map, keys_len], decide_eq_true rfl]
    refine iteF ?_
    have hb4 := hb3.same s4
    refine ⟨.ref b, rfl, .ref b, rfl, hb4.insO, b, bd, rfl, hb4, l6, fun H5 s5 => ⟨bookTxt bd.length, rfl, ?_⟩⟩
    have hl5 := s5 _ _ hl4
    obtain ⟨x1, ⟨x2, x3, x4⟩, x5⟩ := txt_small bd.length l6
    have e0 : (Str.empty ++ "book of " : Str) = "book of " := by decide +kernel
    rw [e0] at x3 x4
    rw [len_app] at x3
    have el : ((keys bd).map V.str).length = bd.length := by rw [List.length_map, keys_len]
    refine ⟨.ref l, rfl, .ref l, bd.length, rfl, by rw [← el]; exact lenL hl5, bd.length, rfl, x1, _, _, rfl, rfl, x3, _, _, rfl, rfl, by rw [len_app] at x4; exact x4, rfl, _, rfl, ?_⟩
    rw [show decide (V.str (bookTxt bd.length) = V.str (("book of " ++ (toString (bd.length : Int) : String)) ++ " commands")) = true from decide_eq_true rfl]
    refine iteF ?_
    have hb5 := hb4.same s5
    refine ⟨.ref b, rfl, isi_mkC (B.B.ty hb5) B.B.kB ⟨true, rfl, iteF ?_⟩⟩
    have sF : Same H H5 := ((((s1.trans s2).trans s3).trans s4).trans s5)
    refine ⟨.ref l, rfl, l, rfl, ⟨_, sql hl5⟩, ?_⟩
    refine for_it (walk_list (K := K) (a := l) (xs := (keys bd).map V.str)) (fun i σ H' => ∃ t u : Option V, σ = [some (.ref b), some (.ref d), some (.ref l), t, u] ∧ Same H5 H') ⟨none, none, rfl, Same.refl _⟩ (fun i σ H' hi hP => ?_) (fun i x σ H6 H7 hi hP hy => ?_) fun σ H6 hP => ?_
    · obtain ⟨t, u, rfl, s6⟩ := hP
      exact sql (s6 _ _ hl5)
    · obtain ⟨t, u, rfl, s6⟩ := hP
      obtain ⟨rfl, ex⟩ := hy
      obtain ⟨y, hy, rfl⟩ := at_map ex
      have hky : y ∈ keys bd := List.mem_of_getElem? hy
      obtain ⟨p, hlk⟩ := Option.isSome_iff_exists.mp (lookup_isSome_mem.mpr hky)
      have hlp : bp.lookup y = some p := by rw [← lookup_perm ok.nd pm0]; exact hlk
      have hpo := (ok.ok _ (mem_of_lookup' hlk)).2
      have sG := sF.trans s6
      have odd : ∀ {G : Hp}, OddV K G (.str y) bd true := fun {G} => .inl ⟨y, rfl, by rw [hlk] <;> rfl⟩
      rcases hkv.look y with ⟨v, p', e1, e2, a, b2, rfl, h1, h2⟩ | ⟨e1, e2⟩
      · rw [hlp] at e2
        cases e2
        refine ⟨.ref d, rfl, .str y, rfl, d, .ref a, rfl, dget_rd (k := Sum.inr y) (.inl (sG _ _ hd1)) e1, a, _, 0, .int p.1, rfl, rfl, sqt (sG _ _ h1), rfl, .ref d, rfl, .str y, rfl, d, .ref a, rfl, dget_rd (k := Sum.inr y) (.inl (sG _ _ hd1)) e1, a, _, 1, .ref b2, rfl, rfl, sqt (sG _ _ h1), rfl, ?_⟩
        refine ⟨.ref d, rfl, .str y, rfl, d, bp, y, p, rfl, ⟨kvs, sG _ _ hd1, hkv.tps sG.tps⟩, hlp, hpo, fun lo H8 os nlo s8 hlo po no => ⟨lo, _, rfl, .inl ⟨sql hlo, fun to nto => ?_⟩⟩⟩
        have s9 : Same H7 (upd H8 to (.tup (os.map V.str))) := s8.put nto
        refine ⟨.ref d, rfl, .str y, rfl, d, .ref a, rfl, dget_rd (k := Sum.inr y) (.inl ((sG.trans s9) _ _ hd1)) e1, z_le 5, fun L nL => ?_⟩
        have s10 := s9.put (o := .lst [.int p.1, .ref b2, .ref to, .ref a, .bl true]) nL
        have hto := (Same.new (o := .lst [.int p.1, .ref b2, .ref to, .ref a, .bl true]) nL) _ _ (upd_same (H := H8) (a := to) (o := .tup (os.map V.str)))
        have hbA := hb.same (sG.trans s10)
        obtain ⟨dxA, ddA, hiA⟩ := hbA.ins
        refine ⟨.ref b, rfl, b, dxA, _, rfl, hiA, rfl, .str y, rfl, b, bd, .str y, true, rfl, hbA, ok, odd, fun _ s' p1 HB es el sB => ?_, fun z => by cases z⟩
        cases es
        rw [hlk] at el
        cases el
        have hbB := hbA.same sB
        obtain ⟨dxB, ddB, hiB⟩ := hbB.ins
        refine ⟨.ref b, rfl, b, dxB, _, rfl, hiB, rfl, .str y, rfl, b, bd, .str y, true, rfl, hbB, ok, odd, fun _ s' p1 HC es el sC a1 ha1 => ?_, fun z => by cases z⟩
        cases es
        rw [hlk] at el
        cases el
        have hbC := hbB.same sC
        obtain ⟨dxC, ddC, hiC⟩ := hbC.ins
        refine ⟨.ref b, rfl, b, dxC, _, rfl, hiC, rfl, .str y, rfl, b, bd, .str y, true, rfl, hbC, ok, odd, fun _ s' p1 HD es el sD t1 HE os1 sE ht1 po1 no1 => ?_, fun z => by cases z⟩
        cases es
        rw [hlk] at el
        cases el
        have hbE := (hbC.same sD).same sE
        refine ⟨.ref b, rfl, .str y, rfl, hbE.insO, b, bd, .str y, true, rfl, hbE, ok, odd, fun _ s' p1 HF es el sF' v1 hv1 => ?_, fun z => by cases z⟩
        cases es
        rw [hlk] at el
        cases el
        have hbF := hbE.same sF'
        refine ⟨.str y, rfl, .ref b, rfl, hbF.insO, b, bd, .str y, true, rfl, hbF, odd, fun HG sG' => ⟨true, rfl, z_le 5, fun L2 nL2 => ?_⟩⟩
        have eos : os1 = os := nf_uniq no1 no (po1.trans po.symm)
        subst eos
        have okd := okD_due hpo po
        have sH : Same HG (upd HG L2 (.lst [.int p.1, .ref a1, .ref t1, v1, .bl true])) := Same.new nL2
        have sCH := ((((sD.trans sE).trans sF').trans sG').trans sH)
        have sEH := ((sF'.trans sG').trans sH)
        have sFH := sG'.trans sH
        have sLH := ((sB.trans sC).trans sCH)
        refine ⟨.ref L2, dueD p os1, rfl, .inl (.lst (sql upd_same) (.cons (.int _) (.cons (.tup (sqt (sCH _ _ ha1)) (dp_strs _)) (.cons (.tup (sqt (sEH _ _ ht1)) (dp_strs _)) (.cons (hv1.tps sFH.tps).dp (.cons (.bl true) .nil)))))), okd, ?_⟩
        have hv0 : PrAt H (.ref a) p := ⟨a, b2, rfl, h1, h2⟩
        have sall := (sG.trans s10).trans sLH
        refine ⟨.ref L, rfl, .ref L, dueD p os1, rfl, .inl (.lst (sql (sLH _ _ upd_same)) (.cons (.int _) (.cons (.tup (sqt (sall _ _ h2)) (dp_strs _)) (.cons (.tup (sqt (sLH _ _ hto)) (dp_strs _)) (.cons (hv0.tps sall.tps).dp (.cons (.bl true) .nil)))))), okd, rfl, _, rfl, ?_⟩
        rw [decide_eq_true rfl]
        refine iteF ⟨_, _, rfl, (s6.trans s10).trans sLH⟩
      · rw [hlp] at e2
        cases e2
    · obtain ⟨t, u, rfl, s6⟩ := hP
      exact q H6 (sF.trans s6)
end
end Bk
end
section
set_option Elab.async false
set_option linter.all false
set_option maxRecDepth 100000
set_option maxHeartbeats 4000000
/-! Heaps but for tables and the dice; a lambda handed to _law_met. -/
namespace Bk
open PySem PySem.Spec PyProof.Rows L2 ClX LamX
/-- the heap without tables -/
def vt (H : Hp) : Hp := fun b => match H b with
  | some (.tbl _) => none
  | o => o
def isTbl : HO → Bool
  | .tbl _ => true
  | _ => false
theorem vt_at {H : Hp} {b : Addr} {o : HO} (h : H b = some o) (n : isTbl o = false) : vt H b = some o := by
  unfold vt
  rw [h]
  cases o <;> first | rfl | cases n
theorem vt_some {H : Hp} {b : Addr} {o : HO} (h : vt H b = some o) : H b = some o ∧ isTbl o = false := by
  unfold vt at h
  split at h
  · cases h
  · rename_i o' ho
    refine ⟨h, ?_⟩
    cases o with
    | tbl ps => exact absurd h (ho ps)
    | _ => rfl
/-- .. and without what stands at p -/
def vw (p : Addr) (H : Hp) : Hp := vt (hidP H p)
theorem vw_some {H : Hp} {p b : Addr} {o : HO} (h : vw p H b = some o) : H b = some o ∧ isTbl o = false ∧ b ≠ p := by
  obtain ⟨h1, h2⟩ := vt_some h
  unfold hidP at h1
  by_cases e : b = p
  · rw [if_pos e] at h1
    cases h1
  · rw [if_neg e] at h1
    exact ⟨h1, h2, e⟩
theorem vw_at {H : Hp} {p b : Addr} {o : HO} (h : H b = some o) (n : isTbl o = false) (e : b ≠ p) : vw p H b = some o := by
  refine vt_at ?_ n
  unfold hidP
  rw [if_neg e]
  exact h
theorem vt_self (H : Hp) : Same (vt H) H := fun b o h => (vt_some h).1
theorem vw_self (p : Addr) (H : Hp) : Same (vw p H) H := fun b o h => (vw_some h).1
theorem vt_ext {H0 H1 H2 : Hp} (s : Same (vt H0) H1) (e : ExtN H1 H2) : Same (vt H0) H2 := fun b o h => e b o (s b o h) fun ps z => by
  have := (vt_some h).2
  rw [z] at this
  cases this
theorem vw_vt {H0 H1 : Hp} {p : Addr} (s : Same (vw p H0) H1) : Same (vw p H0) (vt H1) := fun b o h => vt_at (s b o h) (vw_some h).2.1
theorem vw_vw {H0 H1 : Hp} {p : Addr} (s : Same (vw p H0) H1) : Same (vw p H0) (vw p H1) := fun b o h => vw_at (s b o h) (vw_some h).2.1 (vw_some h).2.2
theorem vw_ext {H0 H1 H2 : Hp} {p : Addr} (s : Same (vw p H0) H1) (e : Same (vt H1) H2) : Same (vw p H0) H2 := (vw_vt s).trans e
theorem vw_but {H0 H1 H2 : Hp} {p : Addr} (s : Same (vw p H0) H1) (e : But p H1 H2) : Same (vw p H0) H2 := fun b o h => e b o (s b o h) (vw_some h).2.2
theorem DiceAt.vt {H H' : Hp} {p : Addr} (h : DiceAt H p) (s : Same (Bk.vt H) H') : DiceAt H' p := by
  obtain ⟨x, y, z, h1, h2⟩ := h
  exact ⟨x, y, z, s _ _ (vt_at h1 rfl), h2⟩
theorem tabs_but {T : List (Addr × Str)} {H H' : Hp} {p : Addr} {xs : List V} (t : Tabs T H) (hp : H p = some (.lst xs)) (b : But p H H') : Tabs T H' := fun q hq => by
  obtain ⟨ps, h1, h2, h3⟩ := t q hq
  refine ⟨ps, b _ _ h1 (fun z => by rw [z, hp] at h1; cases h1), h2, fun pos cv hc => ?_⟩
  obtain ⟨c, e1, e2⟩ := h3 pos cv hc
  exact ⟨c, e1, b _ _ e2 fun z => by
    rw [z, hp] at e2
    have e2 := Option.some.inj e2
    unfold CodeO at e2
    cases e2⟩
theorem tabs_upd {T : List (Addr × Str)} {H : Hp} {p : Addr} {xs : List V} {o : HO} (t : Tabs T H) (hp : H p = some (.lst xs)) : Tabs T (upd H p o) := tabs_but t hp (But.refl p H).own
theorem tabs_dict {T : List (Addr × Str)} {H : Hp} {d : Addr} {kvs : List (Key × V)} {o : HO} (t : Tabs T H) (hp : H d = some (.dK kvs)) : Tabs T (upd H d o) := fun q hq => by
  obtain ⟨ps, h1, h2, h3⟩ := t q hq
  refine ⟨ps, by rw [upd_ne (fun z => by rw [z, hp] at h1; cases h1)]; exact h1, h2, fun pos cv hc => ?_⟩
  obtain ⟨c, e1, e2⟩ := h3 pos cv hc
  exact ⟨c, e1, by
    rw [upd_ne (fun z => by
      rw [z, hp] at e2
      have e2 := Option.some.inj e2
      unfold CodeO at e2
      cases e2)]
    exact e2⟩
theorem tabs_same {T : List (Addr × Str)} {H H' : Hp} (t : Tabs T H) (s : Same H H') : Tabs T H' := t.ext s
/-- _law_met(lambda: body) -/
theorem pe_met {X : Cx} {T : List (Addr × Str)} {C CI CO CU fU g c P' : Addr} {fdm : FuncData} {k : Nat} {params : Arguments} {body : Expr} {scope : Scope} {t : XK → TE} {p lpos pos : Pos} (B : Bx X.K X.mg C CI CO CU fU)
    (FM : Fun X.K "_law_met" "_law_met" (top 35) g fdm) (mM : X.mg "_law_met" = some (.ref g)) (hgd : X.A.guards = some []) (hg : Gl X "_law_met") (TB : TabB X.base X.mg c P') (hcode : X.env.code = .ref c)
    (hmT : (P', X.env.qual ++ "<lambda>") ∈ T) (hu : ∀ p ∈ T, p.1 = P' → p.2 = X.env.qual ++ "<lambda>") (hr : Room (k + 2) X.A)
    (hbody : ∀ (A : Around) (outer : List Env) (s : Shared) (H : Hp) (E : XK) (f c' : Addr), Room k (A.deeper (lamEnv X scope s.heap.objs.size f c')) → PE (lamCx X A outer s H E scope f c') body (t E))
    (L : lamSB X.env.scope scope = true := by rfl) (hdef : defaultsOf params X.env = ([], []) := by rfl)
    (hbind : ∀ (q : Str) (cl : List (Str × Addr)) (pm cv ctv : Value), bindArgs (PySem.W.kla_fn "<lambda>" q params body scope cl pm cv ctv) ⟨[], []⟩ = pure [] := by intros; rfl) :
    PE X (.Call (.Name "_law_met" p) [.Lambda params body scope lpos] [] pos) (tLam T (TMet X.K CI CO CU) t) := by
  obtain ⟨oc, od, kV, doc, pm, an, cdv, ct, osl, e, lk, hcd⟩ := FM.ex
  have hb : L2.Binds X.K fdm ["_law_call"] [] := FM.binds fun _ _ _ _ _ _ us hl => match us, hl with | [_], _ => rfl
  subst e
  exact pe_lamcall (Ng := metN) hg mM FM.kp lk hcd hb ⟨rfl, rfl, rfl, by decide +kernel, rfl, by decide +kernel, by decide +kernel⟩ rfl (.inl rfl) (met_gives B.mI B.mO B.mU B.T.rpr B.ex hgd (hr.mono (by omega))) TB hcode hmT hu hr (lamS_by L) hdef hbind hbody
end Bk
end
section
set_option Elab.async false
set_option linter.all false
set_option maxRecDepth 100000
set_option maxHeartbeats 4000000
set_option pp.maxSteps 600
/-! _law_stranger. -/
namespace Bk
open PySem PySem.Spec PyProof.Rows L2 ClX LamX
def qS : Str := (envOfC "_law_stranger" (defScope (top 38)) 0 0 .none).qual ++ "<lambda>"
def unkS (D : PyData) : Str := "unknown " ++ D.shown
theorem unk_len {D : PyData} (h : OkD D) : (Str.ofString "unknown ").length + D.shown.length ≤ sizeLine := by
  have h1 := h.ln
  have h2 : (Str.ofString "unknown ").length = 8 := by decide
  rw [h2, sizeLine_eq]
  omega
section
variable {P : Program} {w : World} {K : PySem.W.Frag} {mg : Str → Option Value} {base : Heap} {C CI CO CU fU : Addr}
abbrev spStr_ (K : PySem.W.Frag) (C : Addr) (T : List (Addr × Str)) : Sp := fun vs H Q _ => ∃ (b : Addr) (bd : Bd) (d : Addr) (bp : Bd) (v : V), vs = [.ref b, v, .ref d] ∧ BookAt C (vt H) b bd ∧ DictAt (vt H) d bp ∧ BdOk bd ∧ bd.Perm bp ∧ OddO K (vt H) v ∧ Tabs T H ∧ ∀ H', Same (vt H) H' → Tabs T H' → Q (.bl true) H'
abbrev N38 : List Str := ["_law_book", "_law_odd_here", "_law_pairs_here", "_law_told_here"]
theorem sc38 : FnScope N38 ["_law_book", "_law_odd_here", "_law_pairs_here"] (defScope (top 38)) := ⟨rfl, rfl, rfl, by decide +kernel, rfl, by decide +kernel, by decide +kernel⟩
theorem ok_stranger {f g cS PS : Addr} {fd fdm : FuncData} {T : List (Addr × Str)} (F : Fun K "_law_stranger" "_law_stranger" (top 38) f fd) (B : Bf P w K mg base C CI CO CU fU) (FM : Fun K "_law_met" "_law_met" (top 35) g fdm) (mM : mg "_law_met" = some (.ref g))
    (TB : TabB base mg cS PS) (hc : fd.code = .ref cS) (hmT : (PS, qS) ∈ T) (hu : ∀ p ∈ T, p.1 = PS → p.2 = qS) : FnG P w K mg base 11 f fd ["_law_book", "_law_odd_here", "_law_pairs_here"] (spStr_ K C T) := by
  refine okG F sc38 (fun vs H Q E h => ?_) (fun cdv A outer s H vs Q E ecd hr hgd h => ?_)
  · obtain ⟨b, bd, d, bp, v, rfl, _⟩ := h
    rfl
  · obtain ⟨b, bd, d, bp, v, rfl, hb, hd, ok, pm0, ho, hT, q⟩ := h
    obtain ⟨fI, cI, FI⟩ := B.sIt
    obtain ⟨fC, cC, FC⟩ := B.sCo
    have hcd : cdv = .ref cS := by rw [← ecd, hc]
    refine ⟨_, pss_cons (ps_if (pw_and (pt_val (p_isi PyProof.Rows.boot_str B.B.T.isi B.B.T.str (pv 1))) (pw_and1 (pt_cmp (pc_din (hu_of hr) (pv 1) (pv 2))))).pt (pss_one (ps_ret (pe_cmpR (op_inO (E := L2.E0) cC (FC.mono (by omega : 2 ≤ 10)) hr pass0) (pv 1) (pv 0) (by with_unfolding_all rfl)))) pss_nil)
      (pss_cons (ps_set (i := 3) sc38.nd rfl (.inl rfl) (pe_lst (pa_cons (pe_met (k := 8) (T := T) B.B FM mM hgd (by rfl) TB hcd hmT hu hr (fun A outer s H E f c' hr2 => pm B.mTa B.B.cls hr2 (by omega) (passes_call (takes_of rfl rfl rfl rfl) fun _ _ _ _ h => h) (pv 0) (pa_cons (pv 1) pa_nil))) pa_nil)))
      (pss_cons (ps_expr (pe_bm PySem.F.plainAttrs_list PySem.F.slot_list_append PySem.F.type_list_append mt_append (pv 3) (pa_cons (pe_met (k := 8) (T := T) B.B FM mM hgd (by rfl) TB hcd hmT hu hr (fun A outer s H E f c' hr2 => pm B.mAn B.B.cls hr2 (by omega) (passes_call (takes_of rfl rfl rfl rfl) fun _ _ _ _ h => h) (pv 0) (pa_cons (pv 1) pa_nil))) pa_nil)))
      (pss_cons (ps_expr (pe_bm PySem.F.plainAttrs_list PySem.F.slot_list_append PySem.F.type_list_append mt_append (pv 3) (pa_cons (pe_met (k := 8) (T := T) B.B FM mM hgd (by rfl) TB hcd hmT hu hr (fun A outer s H E f c' hr2 => pm B.mOu B.B.cls hr2 (by omega) (passes_call (takes_of rfl rfl rfl rfl) fun _ _ _ _ h => h) (pv 0) (pa_cons (pv 1) pa_nil))) pa_nil)))
      (pss_cons (ps_expr (pe_bm PySem.F.plainAttrs_list PySem.F.slot_list_append PySem.F.type_list_append mt_append (pv 3) (pa_cons (pe_met (k := 8) (T := T) B.B FM mM hgd (by rfl) TB hcd hmT hu hr (fun A outer s H E f c' hr2 => pe_subO (E := E) cI (FI.mono (by omega : 4 ≤ 7)) hr2 (passes_call (takes_of rfl rfl rfl rfl) fun _ _ _ _ h => h) (pv 0) (pv 1))) pa_nil)))
      (pss_cons (ps_expr (pe_bm PySem.F.plainAttrs_list PySem.F.slot_list_append PySem.F.type_list_append mt_append (pv 3) (pa_cons (pe_met (k := 8) (T := T) B.B FM mM hgd (by rfl) TB hcd hmT hu hr (fun A outer s H E f c' hr2 => pm B.mWo B.B.cls hr2 (by omega) (passes_call (takes_of rfl rfl rfl rfl) fun _ _ _ _ h => h) (pv 0) (pa_cons (pv 1) pa_nil))) pa_nil)))
      (pss_one (ps_ret (pe_and (pe_cmpR op_isBl (pe_cmpR (op_inO (E := L2.E0) cC (FC.mono (by omega : 2 ≤ 10)) hr pass0) (pv 1) (pv 0) (by with_unfolding_all rfl)) pe_bl (by with_unfolding_all rfl))
        (pe_one (pe_cmpR (op_eqG (rcG_list mon_flat eqG_flat) (hr.mono (by omega : 0 + 1 ≤ 10))) (pv 3) (pe_op op_rep (pe_lst (pa_cons (pe_op op_add_str pe_str (pe_callB (call_reprD hgd hr.units) (by rfl) B.B.T.rpr boot_repr (pa_cons (pv 1) pa_nil))) pa_nil)) pe_int) (by with_unfolding_all rfl))))))))))), ?_⟩
    obtain ⟨D, hS, okD, hty⟩ := ho
    obtain ⟨kvs, hd1, hkv⟩ := hd
    have hd2 := vt_self H _ _ hd1
    have hbH := hb.same (vt_self H)
    refine ⟨v, rfl, ?_⟩
    by_cases hit : ∃ s, v = .str s ∧ (bd.lookup s).isSome = true
    · obtain ⟨s, hv, hi⟩ := hit
      subst hv
      refine isi_mk (.base (.str s)) kit_ss ⟨true, rfl, iteT ⟨.str s, rfl, .ref d, rfl, d, valV kvs (Sum.inr s), rfl, dget_rd (k := Sum.inr s) (.inl hd2) rfl, _, rfl, ?_⟩⟩
      have el : (valV kvs (Sum.inr s)).isSome = true := by
        rcases hkv.look s with ⟨v2, p2, e3, e4, e5⟩ | ⟨e3, e4⟩
        · rw [e3] <;> rfl
        · rw [← lookup_perm ok.nd pm0] at e4
          rw [e4] at hi
          cases hi
      rw [el]
      exact iteT ⟨.str s, rfl, .ref b, rfl, hbH.insO, b, bd, .str s, true, rfl, hbH, .inl ⟨s, rfl, hi.symm⟩, fun H1 s1 => ⟨true, rfl, q H1 ((vt_self H).trans s1) (tabs_same hT s1)⟩⟩
    have odd : ∀ G, Same (vt H) G → OddV K G v bd false := fun G sG => by
      rcases hty with ⟨s, hv⟩ | hN
      · refine .inl ⟨s, hv, ?_⟩
        cases e : (bd.lookup s).isSome with
        | false => rfl
        | true => exact absurd ⟨s, hv, e⟩ hit
      · exact .inr ⟨rfl, hN.same sG⟩
    have tyv : (∃ s, v = .str s ∧ (valV kvs (Sum.inr s)).isSome = false) ∨ OddN K H v := by
      rcases hty with ⟨s, hv⟩ | hN
      · refine .inl ⟨s, hv, ?_⟩
        rcases hkv.look s with ⟨v2, p2, e3, e4, e5⟩ | ⟨e3, e4⟩
        · rw [← lookup_perm ok.nd pm0] at e4
          exact absurd ⟨s, hv, by rw [e4] <;> rfl⟩ hit
        · rw [e3] <;> rfl
      · exact .inr (hN.same (vt_self H))
    rcases tyv with ⟨s, hv, hn⟩ | ⟨T0, hT0, ty0⟩
    refine isi_mk (by rw [hv]; exact .base (.str s)) kit_ss ⟨true, rfl, iteT ⟨v, rfl, .ref d, rfl, d, valV kvs (Sum.inr s), rfl, .inl ⟨kvs, Sum.inr s, .inl hd2, hv, rfl⟩, _, rfl, ?_⟩⟩
    rw [hn]
    refine iteF ?_
    rotate_left
    refine isi_mk ty0 (kit_TL hT0) ⟨false, rfl, iteF ?_⟩
    all_goals
      refine ⟨hT, fun H1 e1 T1 => ?_⟩
      have S1 := vt_ext (vt_self H) e1
      have hb1 := hb.same S1
      obtain ⟨dx1, dd1, hi1⟩ := hb1.ins
      refine ⟨.ref b, rfl, b, dx1, _, rfl, hi1, rfl, v, rfl, b, bd, v, false, rfl, hb1, ok, odd _ S1, (fun z => by cases z), fun _ d1 G1 s1 hd1 => .inr (.inr ⟨rfl, d1, v, D, rfl, hd1, hS.upd (S1.trans s1), okD, ?_⟩)⟩
      refine ⟨z_le 1, fun L nL => ?_⟩
      have nLv := (S1.trans s1).free nL
      have F1 := (S1.trans s1).put (o := .lst [.str (unkS D)]) nL
      have hL1 := upd_same (H := G1) (a := L) (o := .lst [.str (unkS D)])
      have T1' := tabs_same (tabs_same T1 s1) (Same.new (o := .lst [.str (unkS D)]) nL)
      refine ⟨.ref L, rfl, .inl ⟨rfl, _, sql hL1⟩, T1', fun H2 e2 T2 => ?_⟩
      have S2 := vt_ext F1 e2
      have hb2 := hb.same S2
      obtain ⟨dx2, dd2, hi2⟩ := hb2.ins
      refine ⟨.ref b, rfl, b, dx2, _, rfl, hi2, rfl, v, rfl, b, bd, v, false, rfl, hb2, ok, odd _ S2, (fun z => by cases z), fun _ d2 G2 s2 hd2 => .inr (.inr ⟨rfl, d2, v, D, rfl, hd2, hS.upd (S2.trans s2), okD, ?_⟩)⟩
      have hL2 := s2 _ _ (e2 _ _ hL1 (fun ps z => by cases z))
      refine ⟨L, _, .str (unkS D), rfl, rfl, hL2, thou (Nat.le_of_ble_eq_true rfl), ?_⟩
      have F2 := (S2.trans s2).chg (o := .lst ([.str (unkS D)] ++ [.str (unkS D)])) nLv
      have T2' := tabs_upd (o := .lst ([.str (unkS D)] ++ [.str (unkS D)])) (tabs_same T2 s2) hL2
      have hL2' := upd_same (H := G2) (a := L) (o := .lst ([.str (unkS D)] ++ [.str (unkS D)]))
      refine ⟨.ref L, rfl, .inl ⟨rfl, _, sql hL2'⟩, T2', fun H3 e3 T3 => ?_⟩
      have S3 := vt_ext F2 e3
      have hb3 := hb.same S3
      obtain ⟨dx3, dd3, hi3⟩ := hb3.ins
      refine ⟨.ref b, rfl, b, dx3, _, rfl, hi3, rfl, v, rfl, b, bd, v, false, rfl, hb3, ok, odd _ S3, (fun z => by cases z), fun _ d3 G3 s3 hd3 => .inr (.inr ⟨rfl, d3, v, D, rfl, hd3, hS.upd (S3.trans s3), okD, ?_⟩)⟩
      have hL3 := s3 _ _ (e3 _ _ hL2' (fun ps z => by cases z))
      refine ⟨L, _, .str (unkS D), rfl, rfl, hL3, thou (Nat.le_of_ble_eq_true rfl), ?_⟩
      have F3 := (S3.trans s3).chg (o := .lst (([.str (unkS D)] ++ [.str (unkS D)]) ++ [.str (unkS D)])) nLv
      have T3' := tabs_upd (o := .lst (([.str (unkS D)] ++ [.str (unkS D)]) ++ [.str (unkS D)])) (tabs_same T3 s3) hL3
      have hL3' := upd_same (H := G3) (a := L) (o := .lst (([.str (unkS D)] ++ [.str (unkS D)]) ++ [.str (unkS D)]))
      refine ⟨.ref L, rfl, .inl ⟨rfl, _, sql hL3'⟩, T3', fun H4 e4 T4 => ?_⟩
      have S4 := vt_ext F3 e4
      have hb4 := hb.same S4
      refine ⟨.ref b, rfl, v, rfl, hb4.insO, b, bd, v, false, rfl, hb4, ok, odd _ S4, (fun z => by cases z), fun _ d4 G4 s4 hd4 => .inr (.inr ⟨rfl, d4, v, D, rfl, hd4, hS.upd (S4.trans s4), okD, ?_⟩)⟩
      have hL4 := s4 _ _ (e4 _ _ hL3' (fun ps z => by cases z))
      refine ⟨L, _, .str (unkS D), rfl, rfl, hL4, thou (Nat.le_of_ble_eq_true rfl), ?_⟩
      have F4 := (S4.trans s4).chg (o := .lst ((([.str (unkS D)] ++ [.str (unkS D)]) ++ [.str (unkS D)]) ++ [.str (unkS D)])) nLv
      have T4' := tabs_upd (o := .lst ((([.str (unkS D)] ++ [.str (unkS D)]) ++ [.str (unkS D)]) ++ [.str (unkS D)])) (tabs_same T4 s4) hL4
      have hL4' := upd_same (H := G4) (a := L) (o := .lst ((([.str (unkS D)] ++ [.str (unkS D)]) ++ [.str (unkS D)]) ++ [.str (unkS D)]))
      refine ⟨.ref L, rfl, .inl ⟨rfl, _, sql hL4'⟩, T4', fun H5 e5 T5 => ?_⟩
      have S5 := vt_ext F4 e5
      have hb5 := hb.same S5
      obtain ⟨dx5, dd5, hi5⟩ := hb5.ins
      refine ⟨.ref b, rfl, b, dx5, _, rfl, hi5, rfl, v, rfl, b, bd, v, false, rfl, hb5, ok, odd _ S5, (fun z => by cases z), fun _ d5 G5 s5 hd5 => .inr (.inr ⟨rfl, d5, v, D, rfl, hd5, hS.upd (S5.trans s5), okD, ?_⟩)⟩
      have hL5 := s5 _ _ (e5 _ _ hL4' (fun ps z => by cases z))
      refine ⟨L, _, .str (unkS D), rfl, rfl, hL5, thou (Nat.le_of_ble_eq_true rfl), ?_⟩
      have F5 := (S5.trans s5).chg (o := .lst (((([.str (unkS D)] ++ [.str (unkS D)]) ++ [.str (unkS D)]) ++ [.str (unkS D)]) ++ [.str (unkS D)])) nLv
      have T5' := tabs_upd (o := .lst (((([.str (unkS D)] ++ [.str (unkS D)]) ++ [.str (unkS D)]) ++ [.str (unkS D)]) ++ [.str (unkS D)])) (tabs_same T5 s5) hL5
      have hL5' := upd_same (H := G5) (a := L) (o := .lst (((([.str (unkS D)] ++ [.str (unkS D)]) ++ [.str (unkS D)]) ++ [.str (unkS D)]) ++ [.str (unkS D)]))
      have hb6 := hb.same F5
      refine ⟨v, rfl, .ref b, rfl, hb6.insO, b, bd, v, false, rfl, hb6, odd _ F5, fun H6 s6 => ⟨false, rfl, false, false, rfl, rfl, _, rfl, iteT ?_⟩⟩
      refine ⟨.ref L, rfl, v, rfl, v, D, rfl, hS.upd (F5.trans s6), okD, "unknown ", D.shown, rfl, rfl, unk_len okD, z_le 1, fun L2 nL2 => ⟨L2, 5, [.str (unkS D)], rfl, rfl, upd_same, by decide, by decide, z_le 5, fun L3 nL3 => ?_⟩⟩
      have s7 := (Same.new (o := .lst [.str (unkS D)]) nL2).put (o := .lst (List.replicate (5 : Int).toNat [V.str (unkS D)]).flatten) nL3
      have hfl : ∀ G : Hp, DFlat (.str (unkS D)) (.str (unkS D)) G := fun G => ⟨rfl, rfl, by show (unkS D == unkS D) = true; exact beq_self_eq_true _⟩
      refine ⟨⟨L, L3, _, _, rfl, rfl, s7 _ _ (s6 _ _ hL5'), upd_same, .cons (hfl _) (.cons (hfl _) (.cons (hfl _) (.cons (hfl _) (.cons (hfl _) .nil))))⟩, fun G e => q G (((F5.trans s6).trans s7).trans e) (tabs_same (tabs_same (tabs_same T5' s6) s7) e)⟩
end
end Bk
end
section
set_option Elab.async false
set_option linter.all false
set_option maxRecDepth 100000
set_option maxHeartbeats 4000000
set_option pp.maxSteps 600
/-! _law_second. -/
namespace Bk
open PySem PySem.Spec PyProof.Rows L2
structure Fd (bf : Bd) : Prop where
  ok : ∀ e ∈ bf, Ans e.1 ∧ PrOk e.2
  nd : (keys bf).Nodup
theorem Fd.put {bf : Bd} {x : Str} {p : Pr} (h : Fd bf) (hx : Ans x) (hp : PrOk p) : Fd (putB bf x p) :=
  ⟨fun e he => (mem_putB he).elim (fun z => by rw [z]; exact ⟨hx, hp⟩) (h.ok e), nd_putB h.nd⟩
theorem Fd.s {bf : Bd} (h : Fd bf) : ∀ e ∈ bf, PrS e.2 := fun e he => (h.ok e he).2.s
theorem BdOk.fd {bd : Bd} (h : BdOk bd) : Fd bd := ⟨h.ok, h.nd⟩
theorem DictAt.other {H : Hp} {d df : Addr} {bd : Bd} {o : HO} {kvs : List (Key × V)} (h : DictAt H d bd) (n : d ≠ df) (hf : H df = some (.dK kvs)) : DictAt (upd H df o) d bd := by
  obtain ⟨k, h1, h2⟩ := h
  refine ⟨k, by rw [upd_ne n]; exact h1, h2.tps fun c xs hc => ?_⟩
  rw [upd_ne (fun z => by rw [z, hf] at hc; cases hc)]
  exact hc
theorem dict_put {H : Hp} {df : Addr} {kvs : List (Key × V)} {bf : Bd} {x : Str} {v : V} {p : Pr} (hf : H df = some (.dK kvs)) (hk : KvAt H kvs bf) (hv : PrAt H v p) : DictAt (upd H df (.dK (putK kvs (Sum.inr x) v))) df (putB bf x p) := by
  refine ⟨_, upd_same, (hk.put hv).tps fun c xs hc => ?_⟩
  rw [upd_ne (fun z => by rw [z, hf] at hc; cases hc)]
  exact hc
theorem same_nil {bf : Bd} : sameB bf [] = true ↔ bf = [] := by
  unfold sameB
  cases bf with
  | nil => simp
  | cons e r => simp
theorem DictAt.look {H : Hp} {d : Addr} {bd : Bd} {x : Str} {p : Pr} (h : DictAt H d bd) (e : bd.lookup x = some p) : ∃ v, DGet H d (.str x) (some v) ∧ PrAt H v p := by
  obtain ⟨kvs, h1, h2⟩ := h
  rcases h2.look x with ⟨v, p', e1, e2, e3⟩ | ⟨e1, e2⟩
  · rw [e] at e2
    cases e2
    exact ⟨v, dget_rd (k := Sum.inr x) (.inl h1) e1, e3⟩
  · rw [e] at e2
    cases e2
theorem key_lookup {bd : Bd} {x : Str} (h : x ∈ keys bd) : ∃ p, bd.lookup x = some p := Option.isSome_iff_exists.mp (lookup_isSome_mem.mpr h)
theorem cutR (ws : List Str) (r : Int) (h : 0 ≤ r) : cutV (ws.map V.str) none (some r) = (ws.take r.toNat).map V.str := by
  have := cut0 (ws.map V.str) r.toNat
  rw [show ((r.toNat : Nat) : Int) = r by omega] at this
  rw [this, List.map_take]
/-- what stands while the second dict is drawn -/
structure Sec (p d dm df : Addr) (bp bm : Bd) (H G : Hp) (bf : Bd) : Prop where
  b : But p H G
  dc : DiceAt G p
  hf : DictAt G df bf
  fd : Fd bf
  hm : DictAt G dm bm
  hd : DictAt G d bp
section
variable {p d dm df : Addr} {bp bm bf : Bd} {H G G' : Hp}
theorem Sec.same (h : Sec p d dm df bp bm H G bf) (s : Same G G') : Sec p d dm df bp bm H G' bf := ⟨h.b.trans s.but, h.dc.same s, h.hf.same s, h.fd, h.hm.same s, h.hd.same s⟩
theorem Sec.but (h : Sec p d dm df bp bm H G bf) (s : But p G G') (dc : DiceAt G' p) : Sec p d dm df bp bm H G' bf := by
  obtain ⟨z, hz⟩ := h.dc.some
  exact ⟨h.b.trans s, dc, h.hf.but s hz, h.fd, h.hm.but s hz, h.hd.but s hz⟩
theorem Sec.put (h : Sec p d dm df bp bm H G bf) (nf : H df = none) (nep : df ≠ p) (n1 : dm ≠ df) (n2 : d ≠ df) {kvs : List (Key × V)} (hf : G df = some (.dK kvs)) (hk : KvAt G kvs bf) {x : Str} {v : V} {pr : Pr} (hv : PrAt G v pr) (hx : Ans x) (hp : PrOk pr) :
    Sec p d dm df bp bm H (upd G df (.dK (putK kvs (Sum.inr x) v))) (putB bf x pr) :=
  ⟨h.b.chg nf, h.dc.upd nep, dict_put hf hk hv, h.fd.put hx hp, h.hm.other n1 hf, h.hd.other n2 hf⟩
end
section
variable {P : Program} {w : World} {K : PySem.W.Frag} {mg : Str → Option Value} {base : Heap}
abbrev spSec : Sp := fun vs H Q _ => ∃ (p d : Addr) (bp : Bd), vs = [.ref p, .ref d] ∧ DiceAt H p ∧ DictAt H d bp ∧ BdOk bp ∧ ∀ (d' : Addr) (H' : Hp) (bm : Bd), H d' = none → But p H H' → DiceAt H' p → DictAt H' d' bm → BdOk bm → Q (.ref d') H'
abbrev N39 : List Str := ["_law_dice_here", "_law_pairs_here", "_law_more", "_law_found", "_law_one"]
theorem sc39 : FnScope N39 ["_law_dice_here", "_law_pairs_here"] (defScope (top 39)) := ⟨rfl, rfl, rfl, by decide +kernel, rfl, by decide +kernel, by decide +kernel⟩
theorem ok_second {f : Addr} {fd : FuncData} (F : Fun K "_law_second" "_law_second" (top 39) f fd) (T : Tx K mg) (N27 : Kn P w K mg base L2.CX0 1 "_law_roll" ["_law_dice_here", "_law_total"] spRoll) (N28 : Kn P w K mg base L2.CX0 2 "_law_one_of" ["_law_dice_here", "_law_items"] spOne)
    (N29 : Kn P w K mg base L2.CX0 2 "_law_mixed" ["_law_dice_here", "_law_items"] spMixed) (N32' : Kn P w K mg base L2.CX0 5 "_law_pairs" ["_law_dice_here", "_law_most", "_law_answers"] spPairs) :
    FnOk P w K mg base L2.CX0 6 f fd ["_law_dice_here", "_law_pairs_here"] spSec := by
  refine F.ok sc39 (fun vs H Q E h => ?_) (fun cdv A outer s H vs Q E hr h => ?_)
  · obtain ⟨p, d, bp, rfl, _⟩ := h
    rfl
  · obtain ⟨p, d, bp, rfl, hd, hdd, okp, q⟩ := h
    obtain ⟨t2, h2, r2⟩ : ∃ t2, PSs (cxOf L2.CX0 P w K mg base N39 "_law_second" (defScope (top 39)) f cdv A outer s H E).nox ((defBody (top 39)).drop 3) t2 ∧ ∀ (t : Option V) (G : Hp) (dm df : Addr) (bm bf : Bd), Sec p d dm df bp bm H G bf → BdOk bm → bf.length ≤ 6 → H df = none → df ≠ p → dm ≠ df → d ≠ df → H dm = none →
        t2 { nx := fun _ H' => Q .non H', rt := Q } [some (.ref p), some (.ref d), some (.ref dm), some (.ref df), t] G := by
      refine ⟨_, pss_cons (ps_for PassesOwn.never rfl (pi_list (pe_slice sl_list (pk0 N29 hr (by omega) (pa_cons (pv 0) (pa_cons (pe_callTy (call_listD rfl) (by rfl) T.lst PyProof.Rows.boot_list (pa_cons (pv 2) pa_nil)) pa_nil))) po_none (po_some (pk0 N27 hr (by omega) (pa_cons (pv 0) (pa_cons pe_int pa_nil))))))
          (pg_name (i := 4) sc39.nd rfl (.inl rfl)) (pss_one (ps_if (pw_and (pt_cmpR op_lt (pe_callB call_lenD (by rfl) T.len PySem.boot_len (pa_cons (pv 3) pa_nil)) pe_int (by with_unfolding_all rfl)) (pw_and1 (pt_cmp (pc_dnotin (hu_of hr) (pv 4) (pv 3))))).pt
            (pss_one (ps_dput (hu_of hr) (pv 3) (pv 4) (pe_dget (hu_of hr) (pv 2) (pv 4) fun _ _ => rfl) (by rfl))) pss_nil)))
        (pss_one (ps_ret (pe_ifExp (pt_cmpR (op_neB (hu65 hr)) (pv 3) pe_dnewK (by with_unfolding_all rfl)) (pv 3) (pv 2)))), fun t G dm df bm bf hS okm l6 nf nep n1 n2 nm => ?_⟩
      have l6m := okm.l6
      obtain ⟨km, hkm, kvm⟩ := id hS.hm
      refine ⟨.ref p, rfl, .ref dm, rfl, dm, km, rfl, .inl hkm, fun l nl => ?_⟩
      have hS1 := hS.same (Same.new (o := .lst (km.map fun kv => kV kv.1)) nl)
      refine ⟨p, l, _, rfl, hS1.dc, upd_same, ne_p hS.dc nl, by rw [List.length_map, kvm.length]; omega, fun l2 G2 ys n2' b2 d2 k2 py => ?_⟩
      have hS2 := hS1.but b2 d2
      rw [kvm.kvs] at py
      obtain ⟨ws, rfl, wp⟩ := perm_strs py
      refine ⟨.ref p, rfl, p, 4, rfl, d2, by decide, by decide, fun r G3 b3 d3 r0 r1 => ⟨r, rfl, l2, _, rfl, sql (b3 _ _ k2 (ne_p hS1.dc n2')), fun l3 n3 => ?_⟩⟩
      rw [cutR ws r r0]
      have hS3 := (hS2.but b3 d3).same (Same.new (o := .lst ((ws.take r.toNat).map V.str)) n3)
      refine ⟨l3, rfl, ⟨_, sql upd_same⟩, ?_⟩
      refine for_it (walk_list (K := K) (a := l3) (xs := (ws.take r.toNat).map V.str)) (fun i σ G' => ∃ (t : Option V) (bf : Bd), σ = [some (.ref p), some (.ref d), some (.ref dm), some (.ref df), t] ∧ G' l3 = some (.lst ((ws.take r.toNat).map V.str)) ∧ Sec p d dm df bp bm H G' bf ∧ bf.length ≤ 6)
        ⟨t, bf, rfl, upd_same, hS3, l6⟩ (fun i σ G' hi hP => ?_) (fun i x σ G4 G5 hi hP hy => ?_) fun σ G4 hP => ?_
      · obtain ⟨t, bf, rfl, g1, g2, g3⟩ := hP
        exact sql g1
      · obtain ⟨t, bf, rfl, g1, g2, g3⟩ := hP
        obtain ⟨rfl, ex⟩ := hy
        obtain ⟨y, hy, rfl⟩ := at_map ex
        have hky : y ∈ keys bm := wp.mem_iff.mp (List.mem_of_mem_take (List.mem_of_getElem? hy))
        obtain ⟨kf, hkf, kvf⟩ := id g2.hf
        have nel : l3 ≠ df := fun z => by
          rw [z, hkf] at g1
          cases g1
        refine ⟨.ref df, rfl, df, kf, rfl, hkf, _, 6, rfl, rfl, _, rfl, ite2 (fun c => ?_) fun c => ⟨_, bf, rfl, g1, g2, g3⟩⟩
        have c := of_decide_eq_true c
        rw [kvf.length] at c
        refine ⟨.str y, rfl, .ref df, rfl, df, valV kf (Sum.inr y), rfl, dget_rd (k := Sum.inr y) (.inl hkf) rfl, _, rfl, ite2 (fun c2 => ?_) fun c2 => ⟨_, bf, rfl, g1, g2, g3⟩⟩
        obtain ⟨pr, hpr⟩ := key_lookup hky
        obtain ⟨v, e1, e2⟩ := g2.hm.look hpr
        have hm := okm.ok _ (mem_of_lookup' hpr)
        refine ⟨.ref dm, rfl, .str y, rfl, dm, v, rfl, e1, .ref df, rfl, .str y, rfl, df, _, rfl, .inl ⟨kf, Sum.inr y, hkf, rfl, thou (by rw [kvf.length]; omega), rfl⟩, _, putB bf y pr, rfl, ?_, g2.put nf nep n1 n2 hkf kvf e2 hm.1 hm.2, ?_⟩
        · rw [upd_ne nel]
          exact g1
        · have := len_putB bf y pr
          omega
      · obtain ⟨t, bf, rfl, g1, g2, g3⟩ := hP
        obtain ⟨kf, hkf, kvf⟩ := id g2.hf
        refine ⟨.ref df, rfl, fun e ne => ?_⟩
        have sE := Same.new (o := .dK []) ne
        have hE := g2.same sE
        refine ⟨df, e, kf, [], bf, [], rfl, rfl, sE _ _ hkf, upd_same, kvf.tps sE.tps, .nil, g2.fd.s, (fun _ h => by cases h), _, rfl, ite2 (fun c => ?_) fun c => ?_⟩
        · have c : (!sameB bf []) = true := c
          have nb : bf ≠ [] := fun z => by
            rw [same_nil.mpr z] at c
            cases c
          have lp : 1 ≤ bf.length := List.length_pos_iff.mpr nb
          exact ⟨.ref df, rfl, q df _ bf nf hE.b hE.dc hE.hf ⟨lp, g3, hE.fd.ok, hE.fd.nd⟩⟩
        · exact ⟨.ref dm, rfl, q dm _ bm nm hE.b hE.dc hE.hm okm⟩
    refine ⟨_, pss_cons (ps_par (i := 2) (j := 3) rfl sc39.nd rfl rfl (by decide) rfl rfl (pa_cons (pk0 N32' hr (Nat.le_refl _) (pa_cons (pv 0) (pa_cons pe_int (pa_cons pe_int pa_nil)))) (pa_cons pe_dnewK pa_nil)) (by rfl))
      (pss_cons (ps_for PassesOwn.never rfl (pi_list (pe_slice sl_list (pk0 N29 hr (by omega) (pa_cons (pv 0) (pa_cons (pe_callTy (call_listD rfl) (by rfl) T.lst PyProof.Rows.boot_list (pa_cons (pv 1) pa_nil)) pa_nil))) po_none (po_some (pk0 N27 hr (by omega) (pa_cons (pv 0) (pa_cons (pe_op op_add (pe_callB call_lenD (by rfl) T.len PySem.boot_len (pa_cons (pv 1) pa_nil)) pe_int) pa_nil))))))
          (pg_name (i := 4) sc39.nd rfl (.inl rfl)) (pss_one (ps_dput (hu_of hr) (pv 3) (pv 4) (pe_dget (hu_of hr) (pv 1) (pv 4) fun _ _ => rfl) (by rfl))))
      (pss_cons (ps_if (pw_and (pt_cmpR (op_neB (hu65 hr)) (pv 3) pe_dnewK (by with_unfolding_all rfl)) (pw_and1 (pt_cmpR op_eq (pk0 N27 hr (by omega) (pa_cons (pv 0) (pa_cons pe_int pa_nil))) pe_int (by with_unfolding_all rfl)))).pt
          (pss_cons (ps_set (i := 4) sc39.nd rfl (.inl rfl) (pk0 N28 hr (by omega) (pa_cons (pv 0) (pa_cons (pe_callB (call_sortedD rfl) (by rfl) T.srt boot_sorted (pa_cons (pv 3) pa_nil)) pa_nil))))
          (pss_one (ps_dput (hu_of hr) (pv 3) (pv 4) (pe_dget (hu_of hr) (pv 2) (pk0 N28 hr (by omega) (pa_cons (pv 0) (pa_cons (pe_callTy (call_listD rfl) (by rfl) T.lst PyProof.Rows.boot_list (pa_cons (pv 2) pa_nil)) pa_nil))) fun _ _ => rfl) (by rfl)))) pss_nil) h2)), ?_⟩
    obtain ⟨z0, hz0⟩ := hd.some
    refine ⟨.ref p, rfl, p, rfl, hd, fun dm H1 bm ndm b1 d1 hm okm df ndf => ⟨_, _, rfl, ?_⟩⟩
    have nemf : dm ≠ df := fun z => by
      obtain ⟨k, h1, _⟩ := hm
      rw [z, ndf] at h1
      cases h1
    have hdd1 := hdd.but b1 hz0
    have nedf : d ≠ df := fun z => by
      obtain ⟨k, h1, _⟩ := hdd1
      rw [z, ndf] at h1
      cases h1
    have nep : df ≠ p := ne_p d1 ndf
    have ndf0 : H df = none := b1.free ndf nep
    have s1 : Same H1 (upd H1 df (.dK [])) := Same.new ndf
    have hS0 : Sec p d dm df bp bm H (upd H1 df (.dK [])) [] := ⟨b1.trans s1.but, d1.same s1, ⟨[], upd_same, .nil⟩, ⟨(fun _ h => by cases h), List.nodup_nil⟩, hm.same s1, hdd1.same s1⟩
    have l6p := okp.l6
    have l6m := okm.l6
    obtain ⟨kp, hkp, kvp⟩ := id hS0.hd
    refine ⟨.ref p, rfl, .ref d, rfl, d, kp, rfl, .inl hkp, fun l nl => ?_⟩
    have hS1 := hS0.same (Same.new (o := .lst (kp.map fun kv => kV kv.1)) nl)
    refine ⟨p, l, _, rfl, hS1.dc, upd_same, ne_p hS0.dc nl, by rw [List.length_map, kvp.length]; omega, fun l2 G2 ys n2' b2 d2 k2 py => ?_⟩
    have hS2 := hS1.but b2 d2
    rw [kvp.kvs] at py
    obtain ⟨ws, rfl, wp⟩ := perm_strs py
    obtain ⟨kp2, hkp2, kvp2⟩ := id hS2.hd
    have lkp := kvp2.length
    refine ⟨.ref p, rfl, .ref d, rfl, d, kp2, rfl, hkp2, _, 1, rfl, rfl, p, _, rfl, d2, by omega, by omega, fun r G3 b3 d3 r0 r1 => ⟨r, rfl, l2, _, rfl, sql (b3 _ _ k2 (ne_p hS1.dc n2')), fun l3 n3 => ?_⟩⟩
    rw [cutR ws r r0]
    have hS3 := (hS2.but b3 d3).same (Same.new (o := .lst ((ws.take r.toNat).map V.str)) n3)
    refine ⟨l3, rfl, ⟨_, sql upd_same⟩, ?_⟩
    have wl : (ws.take r.toNat).length ≤ 6 := by
      have := wp.length_eq
      rw [keys_len] at this
      rw [List.length_take]
      omega
    refine for_it (walk_list (K := K) (a := l3) (xs := (ws.take r.toNat).map V.str)) (fun i σ G' => ∃ (t : Option V) (bf : Bd), σ = [some (.ref p), some (.ref d), some (.ref dm), some (.ref df), t] ∧ G' l3 = some (.lst ((ws.take r.toNat).map V.str)) ∧ Sec p d dm df bp bm H G' bf ∧ bf.length ≤ i)
      ⟨none, [], rfl, upd_same, hS3, Nat.le_refl _⟩ (fun i σ G' hi hP => ?_) (fun i x σ G4 G5 hi hP hy => ?_) fun σ G4 hP => ?_
    · obtain ⟨t, bf, rfl, g1, g2, g3⟩ := hP
      exact sql g1
    · obtain ⟨t, bf, rfl, g1, g2, g3⟩ := hP
      obtain ⟨rfl, ex⟩ := hy
      obtain ⟨y, hy, rfl⟩ := at_map ex
      rw [List.length_map] at hi
      have hky : y ∈ keys bp := wp.mem_iff.mp (List.mem_of_mem_take (List.mem_of_getElem? hy))
      obtain ⟨kf, hkf, kvf⟩ := id g2.hf
      have nel : l3 ≠ df := fun z => by
        rw [z, hkf] at g1
        cases g1
      obtain ⟨pr, hpr⟩ := key_lookup hky
      obtain ⟨v, e1, e2⟩ := g2.hd.look hpr
      have hm := okp.ok _ (mem_of_lookup' hpr)
      refine ⟨.ref d, rfl, .str y, rfl, d, v, rfl, e1, .ref df, rfl, .str y, rfl, df, _, rfl, .inl ⟨kf, Sum.inr y, hkf, rfl, thou (by rw [kvf.length]; omega), rfl⟩, _, putB bf y pr, rfl, ?_, g2.put ndf0 nep nemf nedf hkf kvf e2 hm.1 hm.2, ?_⟩
      · rw [upd_ne nel]
        exact g1
      · have := len_putB bf y pr
        omega
    · obtain ⟨t, bf, rfl, g1, g2, g3⟩ := hP
      rw [List.length_map] at g3
      obtain ⟨kf, hkf, kvf⟩ := id g2.hf
      refine ⟨.ref df, rfl, fun e ne => ?_⟩
      have sE := Same.new (o := .dK []) ne
      have hE := g2.same sE
      refine ⟨df, e, kf, [], bf, [], rfl, rfl, sE _ _ hkf, upd_same, kvf.tps sE.tps, .nil, g2.fd.s, (fun _ h => by cases h), _, rfl, ite2 (fun c => ?_) fun c => r2 t _ dm df bm bf hE okm (by omega) ndf0 nep nemf nedf ndm⟩
      have c : (!sameB bf []) = true := c
      have nb : bf ≠ [] := fun z => by
        rw [same_nil.mpr z] at c
        cases c
      have lp : 1 ≤ bf.length := List.length_pos_iff.mpr nb
      refine ⟨.ref p, rfl, p, 2, rfl, hE.dc, by decide, by decide, fun r G5 b5 d5 r0 r1 => ⟨rfl, _, rfl, ite2 (fun c2 => ?_) fun c2 => r2 t _ dm df bm bf (hE.but b5 d5) okm (by omega) ndf0 nep nemf nedf ndm⟩⟩
      have hS5 := hE.but b5 d5
      obtain ⟨kf5, hkf5, kvf5⟩ := id hS5.hf
      refine ⟨.ref p, rfl, .ref df, rfl, df, kf5, keys bf, rfl, .inl hkf5, kvf5.keys, by rw [keys_len]; omega, fun zs l4 pz sz n4 => ?_⟩
      have lz := pz.length_eq
      rw [keys_len] at lz
      have hS6 := hS5.same (Same.new (o := .lst (zs.map V.str)) n4)
      refine ⟨p, l4, _, rfl, hS6.dc, upd_same, ne_p hS5.dc n4, by rw [List.length_map]; omega, by rw [List.length_map]; omega, fun x G6 b6 d6 hx => ?_⟩
      obtain ⟨y, hy, rfl⟩ := List.mem_map.mp hx
      have hyk : y ∈ keys bf := pz.mem_iff.mp hy
      have hS7 := hS6.but b6 d6
      obtain ⟨km7, hkm7, kvm7⟩ := id hS7.hm
      refine ⟨.ref dm, rfl, .ref p, rfl, .ref dm, rfl, dm, km7, rfl, .inl hkm7, fun l5 n5 => ?_⟩
      have hS8 := hS7.same (Same.new (o := .lst (km7.map fun kv => kV kv.1)) n5)
      have lm7 := kvm7.length
      have l1m := okm.l1
      refine ⟨p, l5, _, rfl, hS8.dc, upd_same, ne_p hS7.dc n5, by rw [List.length_map]; omega, by rw [List.length_map]; omega, fun x G7 b7 d7 hx => ?_⟩
      rw [kvm7.kvs] at hx
      obtain ⟨y2, hy2, rfl⟩ := List.mem_map.mp hx
      have hS9 := hS8.but b7 d7
      obtain ⟨pr, hpr⟩ := key_lookup hy2
      obtain ⟨v, e1, e2⟩ := hS9.hm.look hpr
      have hmm := okm.ok _ (mem_of_lookup' hpr)
      obtain ⟨kf9, hkf9, kvf9⟩ := id hS9.hf
      have hyA : Ans y := by
        obtain ⟨e', he', rfl⟩ := List.mem_map.mp hyk
        exact (g2.fd.ok e' he').1
      refine ⟨dm, v, rfl, e1, .ref df, rfl, .str y, rfl, df, _, rfl, .inl ⟨kf9, Sum.inr y, hkf9, rfl, thou (by rw [kvf9.length]; omega), rfl⟩, ?_⟩
      exact r2 _ _ dm df bm (putB bf y pr) (hS9.put ndf0 nep nemf nedf hkf9 kvf9 e2 hyA hmm.2) okm (by rw [len_putB_in hyk]; omega) ndf0 nep nemf nedf ndm
end
end Bk
end
section
set_option Elab.async false
set_option linter.all false
set_option maxRecDepth 100000
set_option maxHeartbeats 4000000
set_option pp.maxSteps 600
/-! The plain law of two books. -/
namespace Bk
open PySem PySem.Spec PyProof.Rows L2
theorem perm_paired {α β : Type} {F : α → β → Prop} {a l : List α} (h : a.Perm l) : ∀ {b : List β}, Paired F a b → ∃ b', b'.Perm b ∧ Paired F l b' := by
  induction h with
  | nil =>
    intro b p
    exact ⟨b, .refl _, p⟩
  | @cons x a l h ih =>
    intro b p
    cases p with
    | @cons _ y _ b r t =>
      obtain ⟨b', h1, h2⟩ := ih t
      exact ⟨y :: b', h1.cons y, .cons r h2⟩
  | swap x y l =>
    intro b p
    cases p with
    | @cons _ u _ b r t =>
      cases t with
      | @cons _ v _ b r2 t => exact ⟨v :: u :: b, .swap .., .cons r2 (.cons r t)⟩
  | trans h1 h2 i1 i2 =>
    intro b p
    obtain ⟨b', q1, q2⟩ := i1 p
    obtain ⟨b2, q3, q4⟩ := i2 q2
    exact ⟨b2, q3.trans q1, q4⟩
theorem any_congr_mem {α : Type} {f : α → Bool} {a b : List α} (h : ∀ x, x ∈ a ↔ x ∈ b) : a.any f = b.any f := by
  rw [Bool.eq_iff_iff, List.any_eq_true, List.any_eq_true]
  exact ⟨fun ⟨x, hx, e⟩ => ⟨x, (h x).mp hx, e⟩, fun ⟨x, hx, e⟩ => ⟨x, (h x).mpr hx, e⟩⟩
section
variable {b1 bp b2 bm : Bd}
theorem shared_perm (n1 : (keys b1).Nodup) (n2 : (keys b2).Nodup) (p1 : b1.Perm bp) (p2 : b2.Perm bm) : (sharedB b1 b2).Perm (sharedB bp bm) := by
  show ((keys b1).filter fun x => (b2.lookup x).isSome).Perm ((keys bp).filter fun x => (bm.lookup x).isSome)
  have e : (fun x => (b2.lookup x).isSome) = fun x => (bm.lookup x).isSome := funext fun x => by rw [lookup_perm n2 p2]
  rw [e]
  exact (keys_perm p1).filter _
theorem clash_perm (n1 : (keys b1).Nodup) (n2 : (keys b2).Nodup) (p1 : b1.Perm bp) (p2 : b2.Perm bm) : clashB b1 b2 = clashB bp bm := by
  unfold clashB
  have e : (fun x => !decide (b1.lookup x = b2.lookup x)) = fun x => !decide (bp.lookup x = bm.lookup x) := funext fun x => by rw [lookup_perm n1 p1, lookup_perm n2 p2]
  rw [e]
  exact any_congr_mem fun x => (shared_perm n1 n2 p1 p2).mem_iff
theorem orBad_perm (n1 : (keys b1).Nodup) (n2 : (keys b2).Nodup) (p1 : b1.Perm bp) (p2 : b2.Perm bm) : orBad b1 b2 = orBad bp bm := by
  unfold orBad
  rw [clash_perm n1 n2 p1 p2, p1.length_eq, p2.length_eq, (shared_perm n1 n2 p1 p2).length_eq]
theorem same_perm (n1 : (keys b1).Nodup) (n2 : (keys b2).Nodup) (p1 : b1.Perm bp) (p2 : b2.Perm bm) : sameB b1 b2 = sameB bp bm := by
  have m1 : (keys bp).Nodup := (keys_perm p1).nodup_iff.mp n1
  have m2 : (keys bm).Nodup := (keys_perm p2).nodup_iff.mp n2
  rw [Bool.eq_iff_iff]
  exact ⟨fun h => perm_sameB m2 ((p1.symm.trans (sameB_perm n1 h)).trans p2), fun h => perm_sameB n2 ((p1.trans (sameB_perm m1 h)).trans p2.symm)⟩
theorem same_sym (n1 : (keys b1).Nodup) (n2 : (keys b2).Nodup) : sameB b2 b1 = sameB b1 b2 := by
  rw [Bool.eq_iff_iff]
  exact ⟨fun h => perm_sameB n2 (sameB_perm n2 h).symm, fun h => perm_sameB n1 (sameB_perm n1 h).symm⟩
theorem mrg_perm (n1 : (keys b1).Nodup) (n2 : (keys b2).Nodup) (p1 : b1.Perm bp) (p2 : b2.Perm bm) : (mrgB b1 b2).Perm (mrgB bp bm) := by
  have m1 : (keys bp).Nodup := (keys_perm p1).nodup_iff.mp n1
  have m2 : (keys bm).Nodup := (keys_perm p2).nodup_iff.mp n2
  refine perm_of_lookup (nd_mrgB n1) (nd_mrgB m1) fun x => ?_
  rw [lookup_mrgB x n2, lookup_mrgB x m2, lookup_perm n1 p1, lookup_perm n2 p2]
theorem within_perm (n1 : (keys b1).Nodup) (n2 : (keys b2).Nodup) : withinB b1 b2 = (decide ((sharedB b1 b2).length = b1.length) && !clashB b1 b2) := by
  have lf := split_len (fun x => (b2.lookup x).isSome) (keys b1)
  rw [keys_len] at lf
  rw [Bool.eq_iff_iff, Bool.and_eq_true, decide_eq_true_eq, Bool.not_eq_true']
  constructor
  · intro h
    unfold withinB at h
    rw [List.all_eq_true] at h
    have all : ∀ x ∈ keys b1, b2.lookup x = b1.lookup x ∧ (b2.lookup x).isSome = true := fun x hx => by
      obtain ⟨e, he, rfl⟩ := List.mem_map.mp hx
      have := of_decide_eq_true (h e he)
      rw [this, lookup_of_mem' n1 he]
      exact ⟨rfl, rfl⟩
    have e : sharedB b1 b2 = keys b1 := List.filter_eq_self.mpr fun x hx => (all x hx).2
    refine ⟨by rw [e, keys_len], ?_⟩
    unfold clashB
    rw [List.any_eq_false]
    intro x hx
    rw [e] at hx
    rw [(all x hx).1]
    simp
  · rintro ⟨h1, h2⟩
    have e : sharedB b1 b2 = keys b1 := by
      refine List.filter_eq_self.mpr ?_
      have h1 : ((keys b1).filter fun x => (b2.lookup x).isSome).length = (keys b1).length := by rw [keys_len]; exact h1
      exact List.length_filter_eq_length_iff.mp h1
    unfold withinB
    rw [List.all_eq_true]
    intro x hx
    have hk : x.1 ∈ keys b1 := List.mem_map.mpr ⟨x, hx, rfl⟩
    unfold clashB at h2
    rw [List.any_eq_false, e] at h2
    have := h2 x.1 hk
    rw [lookup_of_mem' n1 hx] at this
    simp only [Bool.not_eq_true', decide_eq_false_iff_not, Classical.not_not] at this
    rw [← this]
    exact decide_eq_true rfl
theorem within_self (n1 : (keys b1).Nodup) : withinB b1 b1 = true := by
  unfold withinB
  rw [List.all_eq_true]
  intro x hx
  rw [lookup_of_mem' n1 hx]
  exact decide_eq_true rfl
/-- sorted by their keys they are one -/
theorem asc_uniq (a1 : Asc (keys b1)) (a2 : Asc (keys b2)) (p : b1.Perm b2) : b1 = b2 := by
  have ek : keys b1 = keys b2 := nf_uniq (asc_nf a1) (asc_nf a2) (keys_perm p)
  refine List.ext_getElem p.length_eq fun i h1 h2 => ?_
  have k1 : (keys b1)[i]? = some (b1[i]).1 := by
    rw [List.getElem?_map, List.getElem?_eq_getElem h1]
    rfl
  have k2 : (keys b2)[i]? = some (b2[i]).1 := by
    rw [List.getElem?_map, List.getElem?_eq_getElem h2]
    rfl
  rw [ek, k2] at k1
  have e1 : (b2[i]).1 = (b1[i]).1 := Option.some.inj k1
  have l1 := lookup_of_mem' (x := (b1[i]).1) (p := (b1[i]).2) (asc_nd a1) (List.getElem_mem h1)
  have l2 := lookup_of_mem' (x := (b2[i]).1) (p := (b2[i]).2) (asc_nd a2) (List.getElem_mem h2)
  rw [lookup_perm (asc_nd a1) p, ← e1, l2] at l1
  exact Prod.ext e1.symm (Option.some.inj l1).symm
end
/-! ### items as data -/
def itD (e : Str × Pr) : PyData := .tuple [.str e.1, prD e.2]
theorem eqv_items : ∀ a b : Bd, PyData.eqvAll (a.map itD) (b.map itD) = decide (a = b)
  | [], [] => by simp [PyData.eqvAll]
  | [], y :: ys => by simp [PyData.eqvAll]
  | x :: xs, [] => by simp [PyData.eqvAll]
  | (x, p) :: xs, (y, q) :: ys => by
    show (PyData.eqv (itD (x, p)) (itD (y, q)) && PyData.eqvAll (xs.map itD) (ys.map itD)) = _
    rw [eqv_items xs ys]
    have e : PyData.eqv (itD (x, p)) (itD (y, q)) = ((x == y) && (PyData.eqv (prD p) (prD q) && true)) := by
      simp [itD, PyData.eqv, PyData.eqvAll]
    rw [e, eqv_prD, Bool.eq_iff_iff]
    simp [and_assoc]
theorem canLay_items : ∀ a : Bd, (∀ e ∈ a, PyData.strOk e.1 = true ∧ PrS e.2) → PyData.canLayAll0 (a.map itD) = true
  | [], _ => rfl
  | (x, p) :: xs, h => by
    have h1 := h (x, p) List.mem_cons_self
    have ih := canLay_items xs fun e he => h e (List.mem_cons_of_mem _ he)
    simp only [List.map_cons, PyData.canLayAll0, itD, PyData.canLay0, prD, canLay_strs p.2 h1.2, ih, Bool.and_true, h1.1]
theorem depth_items : ∀ a : Bd, PyData.depthAll (a.map itD) ≤ 3
  | [] => by simp [PyData.depthAll]
  | (x, p) :: xs => by
    have ih := depth_items xs
    simp only [List.map_cons, PyData.depthAll, itD, PyData.depth, prD, depth_strs]
    omega
theorem shaped_items {a : Bd} (h : ∀ e ∈ a, PyData.strOk e.1 = true ∧ PrS e.2) : SeqAt.shaped (.list (a.map itD)) = true := by
  have h1 : PyData.canLay0 (.list (a.map itD)) = true := by
    simp only [PyData.canLay0]
    exact canLay_items a h
  have h2 : PyData.depth (.list (a.map itD)) ≤ 64 := by
    simp only [PyData.depth]
    have := depth_items a
    omega
  unfold SeqAt.shaped
  rw [h1, decide_eq_true h2]
  rfl
theorem dp_items {K : PySem.W.Frag} {H : Hp} : ∀ {es : List Addr} {eb : Bd}, Paired (fun t (e : Str × Pr) => ∃ v, H t = some (.tup [.str e.1, v]) ∧ PrAt H v e.2) es eb → DpAll K H (es.map V.ref) (eb.map itD)
  | _, _, .nil => .nil
  | _, _, .cons r t => by
    obtain ⟨v, h1, h2⟩ := r
    exact .cons (.tup (sqt h1) (.cons (.str _) (.cons h2.dp .nil))) (dp_items t)
end Bk
end
section
set_option Elab.async false
set_option linter.all false
set_option maxRecDepth 100000
set_option maxHeartbeats 4000000
set_option pp.maxSteps 600
/-! _law_both_right. -/
namespace Bk
open PySem PySem.Spec PyProof.Rows L2 ClX LamX
def qB : Str := (envOfC "_law_both_right" (defScope (top 40)) 0 0 .none).qual ++ "<lambda>"
theorem kvS {H : Hp} : ∀ {ks : List (Str × V)} {bd : Bd}, KvAt H (inrs ks) bd → Paired (fun (kv : Str × V) (e : Str × Pr) => kv.1 = e.1 ∧ PrAt H kv.2 e.2) ks bd
  | [], _, .nil => .nil
  | (k, v) :: ks, (y, p) :: bd, .cons r t => .cons ⟨Sum.inr.inj r.1, r.2⟩ (kvS t)
theorem items_pair {H' : Hp} : ∀ {es : List (Addr × Str × V)} {eb : Bd}, Paired (fun (kv : Str × V) (e : Str × Pr) => kv.1 = e.1 ∧ PrAt H' kv.2 e.2) (es.map (·.2)) eb → (∀ e ∈ es, H' e.1 = some (.tup [.str e.2.1, e.2.2])) →
    Paired (fun t (e : Str × Pr) => ∃ v, H' t = some (.tup [.str e.1, v]) ∧ PrAt H' v e.2) (es.map (·.1)) eb ∧ es.map (·.2.1) = keys eb
  | [], _, .nil, _ => ⟨.nil, rfl⟩
  | (t, x, v) :: es, (y, p) :: eb, .cons r u, h => by
    obtain ⟨i1, i2⟩ := items_pair u fun e he => h e (List.mem_cons_of_mem _ he)
    have h1 := h (t, x, v) List.mem_cons_self
    have e1 : x = y := r.1
    subst e1
    exact ⟨.cons ⟨v, h1, r.2⟩ i1, by show x :: es.map (·.2.1) = x :: keys eb; rw [i2]⟩
theorem items_of {H H' : Hp} {ks : List (Str × V)} {bp : Bd} {es : List (Addr × Str × V)} (hk : KvAt H (inrs ks) bp) (s : Same H H') (pe : (es.map (·.2)).Perm ks) (as : (es.map (·.2.1)).Pairwise lts) (he : ∀ e ∈ es, H' e.1 = some (.tup [.str e.2.1, e.2.2])) :
    ∃ eb : Bd, eb.Perm bp ∧ Asc (keys eb) ∧ Paired (fun t (e : Str × Pr) => ∃ v, H' t = some (.tup [.str e.1, v]) ∧ PrAt H' v e.2) (es.map (·.1)) eb := by
  obtain ⟨eb, h1, h2⟩ := perm_paired pe.symm (kvS hk)
  obtain ⟨h3, h4⟩ := items_pair (Paired.mapP h2 fun a b r => ⟨r.1, r.2.tps s.tps⟩) he
  exact ⟨eb, h1, by rw [← h4]; exact as, h3⟩
theorem eqv_sorted {a b bp bm : Bd} (pa : a.Perm bp) (pb : b.Perm bm) (aa : Asc (keys a)) (ab : Asc (keys b)) : PyData.eqv (.list (a.map itD)) (.list (b.map itD)) = sameB bp bm := by
  have e : PyData.eqv (.list (a.map itD)) (.list (b.map itD)) = PyData.eqvAll (a.map itD) (b.map itD) := by simp [PyData.eqv]
  rw [e, eqv_items, Bool.eq_iff_iff, decide_eq_true_eq]
  have na : (keys bp).Nodup := (keys_perm pa).nodup_iff.mp (asc_nd aa)
  have nb : (keys bm).Nodup := (keys_perm pb).nodup_iff.mp (asc_nd ab)
  constructor
  · rintro rfl
    exact perm_sameB nb (pa.symm.trans pb)
  · intro h
    exact asc_uniq aa ab ((pa.trans (sameB_perm na h)).trans pb.symm)
theorem okB3 (a b c : Bool) : OkD (.list [.bool a, .bool b, .bool c]) := by
  cases a <;> cases b <;> cases c <;> exact ⟨by decide +kernel, by decide +kernel, by decide +kernel⟩
theorem okB2 (a b : Bool) : OkD (.list [.bool a, .bool b]) := by
  cases a <;> cases b <;> exact ⟨by decide +kernel, by decide +kernel, by decide +kernel⟩
def clf (bp bm : Bd) (x : Str) : Bool := !decide (bp.lookup x = bm.lookup x)
theorem clash_list (bp bm : Bd) : (!PyData.eqv (.list (((sharedB bp bm).filter (clf bp bm)).map .str)) (.list [])) = clashB bp bm := by
  have e : PyData.eqv (.list (((sharedB bp bm).filter (clf bp bm)).map .str)) (.list []) = PyData.eqvAll (((sharedB bp bm).filter (clf bp bm)).map .str) (([] : List Str).map .str) := by simp [PyData.eqv]
  rw [e, eqv_strs, Bool.eq_iff_iff, Bool.not_eq_true', decide_eq_false_iff_not]
  show _ ↔ (sharedB bp bm).any (clf bp bm) = true
  rw [List.any_eq_true]
  constructor
  · intro h
    obtain ⟨x, hx⟩ := List.exists_mem_of_ne_nil _ h
    obtain ⟨h1, h2⟩ := List.mem_filter.mp hx
    exact ⟨x, h1, h2⟩
  · rintro ⟨x, h1, h2⟩ z
    have : x ∈ (sharedB bp bm).filter (clf bp bm) := List.mem_filter.mpr ⟨h1, h2⟩
    rw [z] at this
    cases this
section
variable {P : Program} {w : World} {K : PySem.W.Frag} {mg : Str → Option Value} {base : Heap} {C CI CO CU fU : Addr}
abbrev spBoth (K : PySem.W.Frag) (C : Addr) (T : List (Addr × Str)) : Sp := fun vs H Q _ => ∃ (x0 : V) (b1 b2 dp dm : Addr) (bd1 bd2 bp bm : Bd), vs = [x0, .ref b1, .ref b2, .ref dp, .ref dm] ∧ BookAt C (vt H) b1 bd1 ∧ BookAt C (vt H) b2 bd2 ∧ DictAt (vt H) dp bp ∧ DictAt (vt H) dm bm ∧
  BdOk bd1 ∧ BdOk bd2 ∧ bd1.Perm bp ∧ bd2.Perm bm ∧ Asc (keys bd1) ∧ Asc (keys bd2) ∧ Tabs T H ∧ ∀ H', Same (vt H) H' → Tabs T H' → Q (.bl true) H'
abbrev N40 : List Str := ["_law_dice_here", "_law_one", "_law_two", "_law_pairs_here", "_law_more", "_law_shared", "_law_clash", "_law_both", "_law_same", "_law_within", "_law_word"]
abbrev P40 : List Str := ["_law_dice_here", "_law_one", "_law_two", "_law_pairs_here", "_law_more"]
theorem sc40 : FnScope N40 P40 (defScope (top 40)) := ⟨rfl, rfl, rfl, by decide +kernel, rfl, by decide +kernel, by decide +kernel⟩
theorem ok_both {f g cS PS : Addr} {fd fdm : FuncData} {T : List (Addr × Str)} (F : Fun K "_law_both_right" "_law_both_right" (top 40) f fd) (B : Bf P w K mg base C CI CO CU fU) (FM : Fun K "_law_met" "_law_met" (top 35) g fdm) (mM : mg "_law_met" = some (.ref g))
    (TB : TabB base mg cS PS) (hc : fd.code = .ref cS) (hmT : (PS, qB) ∈ T) (hu : ∀ p ∈ T, p.1 = PS → p.2 = qB) (N37' : KnG P w K mg base 7 "_law_is_right" ["_law_book", "_law_pairs_here"] (spRight C)) : FnG P w K mg base 10 f fd P40 (spBoth K C T) := by
  refine okG F sc40 (fun vs H Q E h => ?_) (fun cdv A outer s H vs Q E ecd hr hgd h => ?_)
  · obtain ⟨x0, b1, b2, dp, dm, bd1, bd2, bp, bm, rfl, _⟩ := h
    rfl
  · obtain ⟨x0, b1, b2, dp, dm, bd1, bd2, bp, bm, rfl, hb1, hb2, hdp, hdm, ok1, ok2, p1, p2, a1, a2, hT, q⟩ := h
    obtain ⟨fE, cE, FE⟩ := B.sEq
    obtain ⟨fO, cO, FO⟩ := B.sOr
    have hcd : cdv = .ref cS := by rw [← ecd, hc]
    have okp := ok1.perm p1
    have okm := ok2.perm p2
    have lp6 := okp.l6
    have lm6 := okm.l6
    -- from the seventh statement on
    obtain ⟨t3, h3, r3⟩ : ∃ t3, PSs (cxOf L2.CX0 P w K mg base N40 "_law_both_right" (defScope (top 40)) f cdv A outer s H E).nox ((defBody (top 40)).drop 7) t3 ∧ ∀ (G : Hp) (Ls : Addr) (cl sm : Bool) (vb : V), Same (vt H) G → Tabs T G →
        t3 { nx := fun _ H' => Q .non H', rt := Q } [some x0, some (.ref b1), some (.ref b2), some (.ref dp), some (.ref dm), some (.ref Ls), some (.bl cl), some vb, some (.bl sm), some (.bl (withinB bd1 bd2)), none] G := by
      refine ⟨_, pss_cons (ps_if (pt_cmpR op_ne (pe_callB (call_reprD hgd hr.units) (by rfl) B.B.T.rpr boot_repr (pa_cons (pe_lst (pa_cons (pm B.mWi B.B.cls hr (by omega) passF (pv 1) (pa_cons (pv 2) pa_nil)) (pa_cons (pm B.mWi B.B.cls hr (by omega) passF (pv 1) (pa_cons (pv 1) pa_nil)) pa_nil))) pa_nil))
          (pe_callB (call_reprD hgd hr.units) (by rfl) B.B.T.rpr boot_repr (pa_cons (pe_lst (pa_cons (pv 9) (pa_cons pe_bl pa_nil))) pa_nil)) (by with_unfolding_all rfl)) (pss_one (ps_ret pe_bl)) pss_nil)
        (pss_one (ps_ret (pe_and (pkG N37' hr (by omega) hgd (pa_cons (pv 1) (pa_cons (pv 3) pa_nil))) (pe_one (pkG N37' hr (by omega) hgd (pa_cons (pv 2) (pa_cons (pv 4) pa_nil))))))), fun G Ls cl sm vb S TG => ?_⟩
      have hbG := hb1.same S
      obtain ⟨dx, dd, hi⟩ := hbG.ins
      refine ⟨.ref b1, rfl, b1, dx, _, rfl, hi, rfl, .ref b2, rfl, .inl ⟨b1, bd1, b2, bd2, rfl, hbG, hb2.same S, ok1, ok2, fun G1 s1 => ?_⟩⟩
      have hbG1 := hbG.same s1
      obtain ⟨dx1, dd1, hi1⟩ := hbG1.ins
      refine ⟨.ref b1, rfl, b1, dx1, _, rfl, hi1, rfl, .ref b1, rfl, .inl ⟨b1, bd1, b1, bd1, rfl, hbG1, hbG1, ok1, ok1, fun G2 s2 => ⟨z_le 2, fun l nl => ?_⟩⟩⟩
      rw [within_self ok1.nd]
      refine ⟨.ref l, .list [.bool (withinB bd1 bd2), .bool true], rfl, .inl (.lst (sql upd_same) (.cons (.bl _) (.cons (.bl _) .nil))), okB2 _ _, _, rfl, z_le 2, fun l2 nl2 => ⟨.ref l2, .list [.bool (withinB bd1 bd2), .bool true], rfl, .inl (.lst (sql upd_same) (.cons (.bl _) (.cons (.bl _) .nil))), okB2 _ _, rfl, _, rfl, ?_⟩⟩
      rw [decide_eq_true rfl]
      have s3 := (((s1.trans s2).put (o := .lst [.bl (withinB bd1 bd2), .bl true]) nl).put (o := .lst [.bl (withinB bd1 bd2), .bl true]) nl2)
      have S3 := S.trans s3
      refine iteF ⟨.ref b1, rfl, .ref dp, rfl, b1, bd1, dp, bp, rfl, hb1.same S3, hdp.same S3, ok1, p1, a1, fun G4 s4 => ⟨true, rfl, iteT ?_⟩⟩
      exact ⟨.ref b2, rfl, .ref dm, rfl, b2, bd2, dm, bm, rfl, hb2.same (S3.trans s4), hdm.same (S3.trans s4), ok2, p2, a2, fun G5 s5 => q G5 ((S3.trans s4).trans s5) (tabs_same (tabs_same (tabs_same TG s3) s4) s5)⟩
    have esm : sameB bd1 bd2 = sameB bp bm := same_perm ok1.nd ok2.nd p1 p2
    -- from the fourth on
    obtain ⟨t2, h2, r2⟩ : ∃ t2, PSs (cxOf L2.CX0 P w K mg base N40 "_law_both_right" (defScope (top 40)) f cdv A outer s H E).nox ((defBody (top 40)).drop 4) t2 ∧ ∀ (G : Hp) (Ls : Addr) (vb : V), Same (vt H) G → Tabs T G → G Ls = some (.lst ((sharedB bp bm).map V.str)) →
        t2 { nx := fun _ H' => Q .non H', rt := Q } [some x0, some (.ref b1), some (.ref b2), some (.ref dp), some (.ref dm), some (.ref Ls), some (.bl (clashB bp bm)), some vb, none, none, none] G := by
      refine ⟨_, pss_cons (ps_set (i := 8) sc40.nd rfl (.inl rfl) (pe_cmpR (op_eqD hr.units) (pe_callB (cr_sortK rfl) (by rfl) B.B.T.srt boot_sorted (pa_cons (pe_bm0 PySem.F.plainAttrs_dict PySem.F.slot_dict_items PySem.F.type_dict_items mt_itemsK (pv 3)) pa_nil))
            (pe_callB (cr_sortK rfl) (by rfl) B.B.T.srt boot_sorted (pa_cons (pe_bm0 PySem.F.plainAttrs_dict PySem.F.slot_dict_items PySem.F.type_dict_items mt_itemsK (pv 4)) pa_nil)) (by with_unfolding_all rfl)))
        (pss_cons (ps_if (pt_cmpR op_ne (pe_callB (call_reprD hgd hr.units) (by rfl) B.B.T.rpr boot_repr (pa_cons (pe_lst (pa_cons (pe_cmpR (op_eqO (E := L2.E0) cE (FE.mono (by omega : 1 ≤ 9)) hr pass0) (pv 1) (pv 2) (by with_unfolding_all rfl)) (pa_cons (pe_cmpR (op_eqO (E := L2.E0) cE (FE.mono (by omega : 1 ≤ 9)) hr pass0) (pv 2) (pv 1) (by with_unfolding_all rfl))
              (pa_cons (pe_cmpR (op_neO (E := L2.E0) cE B.ne B.B.c4 (FE.mono (by omega : 1 ≤ 8)) hr pass0) (pv 1) (pv 2) (by with_unfolding_all rfl)) pa_nil)))) pa_nil))
            (pe_callB (call_reprD hgd hr.units) (by rfl) B.B.T.rpr boot_repr (pa_cons (pe_lst (pa_cons (pv 8) (pa_cons (pv 8) (pa_cons (pe_not (pv 8)) pa_nil)))) pa_nil)) (by with_unfolding_all rfl)) (pss_one (ps_ret pe_bl)) pss_nil)
        (pss_cons (ps_set (i := 9) sc40.nd rfl (.inl rfl) (pe_and (pe_cmpR op_eq (pe_callB call_len (by rfl) B.B.T.len PySem.boot_len (pa_cons (pv 5) pa_nil)) (pe_callB call_lenD (by rfl) B.B.T.len PySem.boot_len (pa_cons (pv 3) pa_nil)) (by with_unfolding_all rfl)) (pe_one (pe_not (pv 6))))) h3)), fun G Ls vb S TG hLs => ?_⟩
      obtain ⟨kp, hkp, kvp⟩ := hdp.same S
      obtain ⟨km, hkm, kvm⟩ := hdm.same S
      obtain ⟨ks, rfl, _⟩ := kv_inr kvp
      obtain ⟨ms, rfl, _⟩ := kv_inr kvm
      have ok_s : ∀ {a b : Bd}, a.Perm b → BdOk b → ∀ e ∈ a, PyData.strOk e.1 = true ∧ PrS e.2 := fun {a b} pp okb e he => ⟨name_ok ((okb.ok e (pp.mem_iff.mp he)).1.nm), (okb.ok e (pp.mem_iff.mp he)).2.s⟩
      refine ⟨.ref dp, rfl, .inr (.inr (.inl ⟨rfl, .inl ⟨_, hkp⟩⟩)), dp, _, rfl, rfl, hkp, fun v nv => ⟨v, dp, ks, rfl, upd_same, (Same.new nv) _ _ hkp, fun G1 l1 es1 s1 pe1 as1 hl1 he1 => ?_⟩⟩
      have S0 := (Same.new (o := L2.DX.itemsO v dp) nv).trans s1
      obtain ⟨ea, pa, aa, ha⟩ := items_of kvp S0 pe1 as1 he1
      have hkm1 := S0 _ _ hkm
      refine ⟨.ref dm, rfl, .inr (.inr (.inl ⟨rfl, .inl ⟨_, hkm1⟩⟩)), dm, _, rfl, rfl, hkm1, fun v2 nv2 => ⟨v2, dm, ms, rfl, upd_same, (Same.new nv2) _ _ hkm1, fun G2 l2 es2 s2 pe2 as2 hl2 he2 => ?_⟩⟩
      have S1 := (Same.new (o := L2.DX.itemsO v2 dm) nv2).trans s2
      obtain ⟨eb, pb, ab, hb⟩ := items_of (kvm.tps S0.tps) S1 pe2 as2 he2
      have ha2 := Paired.mapP ha fun t e (h : ∃ v, G1 t = some (.tup [.str e.1, v]) ∧ PrAt G1 v e.2) => (let ⟨v, h1, h2⟩ := h; ⟨v, S1 _ _ h1, h2.tps S1.tps⟩ : ∃ v, G2 t = some (.tup [.str e.1, v]) ∧ PrAt G2 v e.2)
      have d1 : DpAll K G2 (es1.map fun e => V.ref e.1) (ea.map itD) := by
        have := dp_items (K := K) ha2
        rw [List.map_map] at this
        exact this
      have d2 : DpAll K G2 (es2.map fun e => V.ref e.1) (eb.map itD) := by
        have := dp_items (K := K) hb
        rw [List.map_map] at this
        exact this
      refine ⟨.list (ea.map itD), .list (eb.map itD), .lst (sql (S1 _ _ hl1)) d1, .lst (sql hl2) d2, shaped_items (ok_s pa okp), shaped_items (ok_s pb okm), ?_⟩
      rw [eqv_sorted pa pb aa ab, ← esm]
      have SA := S.trans (S0.trans S1)
      have TA := tabs_same TG (S0.trans S1)
      have hbA := hb1.same SA
      have hcA := hb2.same SA
      refine ⟨.ref b1, rfl, .ref b2, rfl, hbA.insO, ⟨.ref C, B.B.ty hcA, B.nC⟩, .inl ⟨b1, bd1, b2, bd2, rfl, hbA, hcA, ok1, ok2, fun G3 s3 => ?_⟩⟩
      refine ⟨.ref b2, rfl, .ref b1, rfl, (hcA.same s3).insO, ⟨.ref C, B.B.ty (hbA.same s3), B.nC⟩, .inl ⟨b2, bd2, b1, bd1, rfl, hcA.same s3, hbA.same s3, ok2, ok1, fun G4 s4 => ?_⟩⟩
      rw [same_sym ok1.nd ok2.nd]
      refine ⟨.ref b1, rfl, .ref b2, rfl, ((hbA.same s3).same s4).insO, ⟨.ref C, B.B.ty ((hcA.same s3).same s4), B.nC⟩, .inl ⟨b1, bd1, b2, bd2, rfl, (hbA.same s3).same s4, (hcA.same s3).same s4, ok1, ok2, fun G5 s5 => ⟨_, rfl, z_le 3, fun l nl => ?_⟩⟩⟩
      refine ⟨.ref l, .list [.bool (sameB bd1 bd2), .bool (sameB bd1 bd2), .bool (!sameB bd1 bd2)], rfl, .inl (.lst (sql upd_same) (.cons (.bl _) (.cons (.bl _) (.cons (.bl _) .nil)))), okB3 _ _ _, .bl (sameB bd1 bd2), rfl, .bl (sameB bd1 bd2), rfl, .bl (sameB bd1 bd2), rfl, sameB bd1 bd2, rfl, z_le 3, fun l' nl' =>
        ⟨.ref l', .list [.bool (sameB bd1 bd2), .bool (sameB bd1 bd2), .bool (!sameB bd1 bd2)], rfl, .inl (.lst (sql upd_same) (.cons (.bl _) (.cons (.bl _) (.cons (.bl _) .nil)))), okB3 _ _ _, rfl, _, rfl, ?_⟩⟩
      rw [decide_eq_true rfl]
      have s6 := ((((s3.trans s4).trans s5).put (o := .lst [.bl (sameB bd1 bd2), .bl (sameB bd1 bd2), .bl (!sameB bd1 bd2)]) nl).put (o := .lst [.bl (sameB bd1 bd2), .bl (sameB bd1 bd2), .bl (!sameB bd1 bd2)]) nl')
      have hL6 := s6 _ _ ((S0.trans S1) _ _ hLs)
      have hp6 := s6 _ _ ((S0.trans S1) _ _ hkp)
      have ew : withinB bd1 bd2 = (decide ((sharedB bp bm).length = bp.length) && !clashB bp bm) := by
        rw [within_perm ok1.nd ok2.nd, (shared_perm ok1.nd ok2.nd p1 p2).length_eq, p1.length_eq, clash_perm ok1.nd ok2.nd p1 p2]
      refine iteF ⟨.ref Ls, rfl, .ref Ls, _, rfl, lenL hL6, .ref dp, rfl, dp, _, rfl, hp6, rfl, _, rfl, ite2 (fun c => ?_) fun c => ?_⟩
      · have c := V.int.inj (of_decide_eq_true c)
        rw [List.length_map, kvp.length] at c
        have e : withinB bd1 bd2 = !clashB bp bm := by
          rw [ew, decide_eq_true (by omega)]
          rfl
        refine ⟨.bl (clashB bp bm), rfl, clashB bp bm, rfl, ?_⟩
        rw [← e]
        exact r3 _ Ls _ _ vb (SA.trans s6) (tabs_same TA s6)
      · have e : withinB bd1 bd2 = false := by
          rw [ew, decide_eq_false (fun z => c (by
            rw [decide_eq_true_eq, List.length_map, kvp.length, z])) ]
          rfl
        rw [← e]
        exact r3 _ Ls _ _ vb (SA.trans s6) (tabs_same TA s6)
    have ebad : orBad bd1 bd2 = orBad bp bm := orBad_perm ok1.nd ok2.nd p1 p2
    refine ⟨_, pss_cons (ps_lock (ps_setLc (i := 5) rfl sc40.nd rfl rfl (by rfl) (pi_keys (pv 3)) (blkOk_by (own := [("_law_word", 10)]) (by rfl)) (fun _ _ _ _ _ => pg_name (i := 10) sc40.nd rfl (.inl rfl)) (fun _ _ _ _ _ => pts_one (pt_cmp (pc_din (hu_of hr) (pv 10) (pv 4)))) (fun _ _ _ _ _ => pv 10)))
      (pss_cons (ps_set (i := 6) sc40.nd rfl (.inl rfl) (pe_cmpR (op_neD hr.units) (pe_lc rfl sc40.nd (pi_list (pv 5)) (blkOk_by (own := [("_law_word", 10)]) (by rfl)) (fun _ _ _ _ _ => pg_name (i := 10) sc40.nd rfl (.inl rfl))
          (fun _ _ _ _ _ => pts_one (pt_cmpR (op_neDK (K := K) rfl hr.units) (pe_dget (hu_of hr) (pv 3) (pv 10) fun _ _ => rfl) (pe_dget (hu_of hr) (pv 4) (pv 10) fun _ _ => rfl) (by with_unfolding_all rfl))) (fun _ _ _ _ _ => pv 10)) (pe_lst pa_nil) (by with_unfolding_all rfl)))
      (pss_cons (ps_set (i := 7) sc40.nd rfl (.inl rfl) (pe_met (k := 7) (T := T) B.B FM mM hgd (by rfl) TB hcd hmT hu hr (fun A outer s H E f c' hr2 => pe_op (op_orO (E := E) cO B.sf FO hr2 (passes_call (takes_of rfl rfl rfl rfl) fun _ _ _ _ h => h)) (pv 1) (pv 2))))
      (pss_cons (ps_if (pw_or (pt_val (pv 6)) (pw_or1 (pt_cmpR op_gt (pe_op op_sub (pe_op op_add (pe_callB call_lenD (by rfl) B.B.T.len PySem.boot_len (pa_cons (pv 3) pa_nil)) (pe_callB call_lenD (by rfl) B.B.T.len PySem.boot_len (pa_cons (pv 4) pa_nil))) (pe_callB call_len (by rfl) B.B.T.len PySem.boot_len (pa_cons (pv 5) pa_nil))) pe_int (by with_unfolding_all rfl)))).pt
          (pss_one (ps_if (pt_cmpR op_ne (pv 7) pe_str (by with_unfolding_all rfl)) (pss_one (ps_ret pe_bl)) pss_nil))
          (pss_one (ps_if (pt_not (pt_val (pkG N37' hr (by omega) hgd (pa_cons (pv 7) (pa_cons (pe_callTy (call_dictP rfl) (by rfl) B.B.T.dct PyProof.Rows.boot_dict (pa_cons (pe_op op_cat (LiI.pe_listItems rfl (pv 3) (by rfl) B.B.T.lst PyProof.Rows.boot_list) (LiI.pe_listItems rfl (pv 4) (by rfl) B.B.T.lst PyProof.Rows.boot_list)) pa_nil)) pa_nil))))) (pss_one (ps_ret pe_bl)) pss_nil))) h2))), ?_⟩
    obtain ⟨kp, hkp0, kvp⟩ := hdp
    obtain ⟨km, hkm0, kvm⟩ := hdm
    have hkp := vt_self H _ _ hkp0
    have hkm := vt_self H _ _ hkm0
    have hl := kvp.length
    have hlm := kvm.length
    refine ⟨dp, _, hkp, True.intro, fun od => ⟨.ref dp, rfl, dp, od, rfl, .inl ⟨kp, upd_same, fun D nD => ?_⟩⟩⟩
    refine lc_same walk_keys (fun i acc => acc = (sharedB (bp.take i) bm).map V.str) nD rfl (fun H3 s3 => s3 _ _ upd_same) (fun i v acc H3 H4 hi ea s3 eD hy => ?_) fun acc H3 ea s3 eD => ?_
    · obtain ⟨rfl, k, v, ek, rfl⟩ := hy
      obtain ⟨y, p', eb, rfl, hv⟩ := kvp.get ek
      have r2 : Rd H4 dm (.dK km) := Bk.Rd.same s3 (lock_rd (od := od) hkp hkm)
      have es := shared_snoc (bo := bm) eb
      refine ⟨rfl, .str y, rfl, .ref dm, rfl, dm, valV km (Sum.inr y), rfl, dget_rd (k := Sum.inr y) r2 rfl, _, rfl, ?_⟩
      have el : (valV km (Sum.inr y)).isSome = (bm.lookup y).isSome := by
        rcases kvm.look y with ⟨v2, p2, e3, e4, e5⟩ | ⟨e3, e4⟩
        · rw [e3, e4] <;> rfl
        · rw [e3, e4] <;> rfl
      rw [el]
      by_cases c : (bm.lookup y).isSome = true
      · rw [if_pos c] at es
        rw [c]
        refine iteT ⟨.str y, rfl, lc_fin nD s3 eD (Same.refl _) ?_ ?_⟩
        · have : (sharedB (bp.take i) bm).length ≤ (keys (bp.take i)).length := List.length_filter_le _ _
          rw [keys_len, List.length_take] at this
          rw [ea, List.length_map]
          omega
        · show acc ++ [V.str y] = (sharedB (bp.take (i + 1)) bm).map V.str
          rw [ea, es, List.map_append]
          rfl
      · rw [if_neg c] at es
        rw [Bool.not_eq_true] at c
        rw [c]
        refine iteF ⟨acc, ?_, s3, eD⟩
        show acc = (sharedB (bp.take (i + 1)) bm).map V.str
        rw [ea, es]
    have neD : D ≠ dp := fun y => by
      rw [y, s3 _ _ upd_same] at eD
      cases eD
    have ea : acc = (sharedB (bp.take kp.length) bm).map V.str := ea
    rw [hl, List.take_length] at ea
    refine ⟨s3 _ _ upd_same, ?_⟩
    have s1 : Same H (upd H3 dp (.dK kp)) := lock_same hkp s3
    have eD1 : (upd H3 dp (.dK kp)) D = some (.lst ((sharedB bp bm).map V.str)) := by rw [upd_ne neD, eD, ea]
    have shl : (sharedB bp bm).length ≤ 6 := by
      have : (sharedB bp bm).length ≤ (keys bp).length := List.length_filter_le _ _
      rw [keys_len] at this
      omega
    refine ⟨.ref D, rfl, D, rfl, ⟨_, sql eD1⟩, fun D2 nD2 => ?_⟩
    refine lc_same (walk_list (K := K)) (fun i acc => acc = (((sharedB bp bm).take i).filter (clf bp bm)).map V.str) nD2 rfl (fun H4 s4 => sql (s4 _ _ eD1)) (fun i v acc H4 H5 hi ea s4 eD2 hy => ?_) fun acc H4 ea s4 eD2 => ?_
    · obtain ⟨rfl, ex⟩ := hy
      obtain ⟨y, hy, rfl⟩ := at_map ex
      rw [List.length_map] at hi
      have hm := List.mem_of_getElem? hy
      obtain ⟨m1, m2⟩ := List.mem_filter.mp hm
      have sF := s1.trans s4
      have es := filt_snoc (f := clf bp bm) hy
      have le : acc.length ≤ 6 := by
        rw [ea, List.length_map]
        refine Nat.le_trans (List.length_filter_le _ _) ?_
        rw [List.length_take]
        omega
      rcases kvp.look y with ⟨v1, q1, e1, e2, e3⟩ | ⟨e1, e2⟩
      · rcases kvm.look y with ⟨v2, q2, e4, e5, e6⟩ | ⟨e4, e5⟩
        · have tF : Tps (vt H) H5 := ((vt_self H).trans sF).tps
          refine ⟨rfl, .ref dp, rfl, .str y, rfl, dp, v1, rfl, dget_rd (k := Sum.inr y) (.inl (sF _ _ hkp)) e1, .ref dm, rfl, .str y, rfl, dm, v2, rfl, dget_rd (k := Sum.inr y) (.inl (sF _ _ hkm)) e4,
            prD q1, prD q2, (e3.tps tF).dp, (e6.tps tF).dp, shaped_prD (okp.ok _ (mem_of_lookup' e2)).2.s, shaped_prD (okm.ok _ (mem_of_lookup' e5)).2.s, _, rfl, ?_⟩
          have ec : (!PyData.eqv (prD q1) (prD q2)) = clf bp bm y := by
            unfold clf
            rw [eqv_prD, e2, e5]
            simp
          rw [ec]
          refine ite2 (fun c => ?_) fun c => ?_
          · rw [if_pos c] at es
            refine ⟨.str y, rfl, lc_fin nD2 s4 eD2 (Same.refl _) (by omega) ?_⟩
            show acc ++ [V.str y] = (((sharedB bp bm).take (i + 1)).filter (clf bp bm)).map V.str
            rw [es, ea, List.map_append]
            rfl
          · rw [if_neg c] at es
            refine ⟨acc, ?_, s4, eD2⟩
            show acc = (((sharedB bp bm).take (i + 1)).filter (clf bp bm)).map V.str
            rw [es]
            exact ea
        · rw [e5] at m2
          cases m2
      · exact absurd (lookup_isSome_mem.mpr m1) (by rw [e2]; simp)
    have ea : acc = (((sharedB bp bm).take ((sharedB bp bm).map V.str).length).filter (clf bp bm)).map V.str := ea
    rw [List.length_map, List.take_length] at ea
    refine ⟨z_le 0, fun e ne => ?_⟩
    have sE := Same.new (o := .lst []) ne
    have shp : ∀ x ∈ (sharedB bp bm).filter (clf bp bm), PyData.strOk x = true := fun x hx => name_ok (okp.key (List.mem_filter.mp (List.mem_filter.mp hx).1).1).nm
    refine ⟨.list (((sharedB bp bm).filter (clf bp bm)).map .str), .list [], .lst (sql (by rw [sE _ _ eD2, ea])) (dp_strs _), .lst (sql upd_same) .nil, shaped_strs shp, rfl, ?_⟩
    rw [clash_list]
    have s5 := (s1.trans s4).trans sE
    have T5 := tabs_same hT s5
    have hLs5 := sE _ _ (s4 _ _ eD1)
    refine ⟨T5, fun H6 e6 T6 => ?_⟩
    have S6 : Same (vt H) H6 := vt_ext ((vt_self H).trans s5) e6
    have hLs6 := e6 _ _ hLs5 (fun ps z => by cases z)
    have hbA := hb1.same S6
    have hcA := hb2.same S6
    refine ⟨.ref b1, rfl, .ref b2, rfl, hbA.insO, hcA.insO, .inl ⟨b1, bd1, b2, bd2, rfl, hbA, hcA, ok1, ok2, fun bad G sG => .inr (.inl ⟨rfl, ?_⟩), fun good bb dx dd G bd' n1 n2 sG hG1 hG2 pG aG => ?_⟩⟩
    · rw [ebad] at bad
      unfold orBad at bad
      rw [Bool.or_eq_true] at bad
      have SG := S6.trans sG
      have done := r2 G D (.str "operation") SG (tabs_same T6 sG) (sG _ _ hLs6)
      have op_ok : ∀ {A B : Prop}, B → (if (!decide (V.str (Str.ofString "operation") = V.str (Str.ofString "operation"))) = true then A else B) := fun {A B} hB => by
        rw [decide_eq_true rfl]
        exact iteF hB
      refine ⟨.bl (clashB bp bm), rfl, clashB bp bm, rfl, ite2 (fun c => ⟨.str "operation", rfl, rfl, _, rfl, op_ok done⟩) fun c => ?_⟩
      have c6 : decide ((6 : Int) < (bp.length : Int) + (bm.length : Int) - ((sharedB bp bm).length : Int)) = true := bad.resolve_left c
      refine ⟨.ref dp, rfl, dp, kp, rfl, SG _ _ hkp0, .ref dm, rfl, dm, km, rfl, SG _ _ hkm0, _, _, rfl, rfl, .ref D, rfl, .ref D, _, rfl, lenL (sG _ _ hLs6), _, _, rfl, rfl, _, 6, rfl, rfl, _, rfl, ?_⟩
      rw [List.length_map, hl, hlm, c6]
      exact iteT ⟨.str "operation", rfl, rfl, _, rfl, op_ok done⟩
    · rw [ebad] at good
      have bad := good
      unfold orBad at good
      rw [Bool.or_eq_false_iff] at good
      have SG := S6.trans sG
      rw [good.1]
      refine ⟨.bl false, rfl, false, rfl, iteF ?_⟩
      refine ⟨.ref dp, rfl, dp, kp, rfl, SG _ _ hkp0, .ref dm, rfl, dm, km, rfl, SG _ _ hkm0, _, _, rfl, rfl, .ref D, rfl, .ref D, _, rfl, lenL (sG _ _ hLs6), _, _, rfl, rfl, _, 6, rfl, rfl, _, rfl, ?_⟩
      rw [List.length_map, hl, hlm, good.2]
      refine iteF ⟨.ref bb, rfl, .ref dp, rfl, dp, kp, rfl, SG _ _ hkp0, fun G1 l1 ts1 g1 nl1 nt1 ni1 hl1 pr1 => ?_⟩
      have S1 := SG.trans g1
      refine ⟨.ref dm, rfl, dm, km, rfl, S1 _ _ hkm0, fun G2 l2 ts2 g2 nl2 nt2 ni2 hl2 pr2 => ?_⟩
      have lt1 := Paired.length pr1
      have lt2 := Paired.length pr2
      refine ⟨l1, l2, _, _, rfl, rfl, g2 _ _ hl1, hl2, by rw [List.length_map, List.length_map, sizeLine_eq]; omega, fun l3 nl3 => ?_⟩
      have g3 := Same.new (o := .lst (ts1.map V.ref ++ ts2.map V.ref)) nl3
      refine ⟨l3, ts1 ++ ts2, kp ++ km, rfl, sql (by rw [upd_same, List.map_append]), ?_, fun d4 nd4 => ?_⟩
      · exact pairedApp (Paired.mapP pr1 fun a b h => sqt (g3 _ _ (g2 _ _ h))) (Paired.mapP pr2 fun a b h => sqt (g3 _ _ h))
      · have g4 := Same.new (o := .dK (mergeK [] (kp ++ km))) nd4
        have gA : Same G (upd (upd G2 l3 (.lst (ts1.map V.ref ++ ts2.map V.ref))) d4 (.dK (mergeK [] (kp ++ km)))) := ((Same.trans g1 g2).trans g3).trans g4
        have km4 : KvAt (vt H) (mergeK [] (kp ++ km)) (mrgB bp bm) := by
          have e : mergeK [] (kp ++ km) = mergeK (mergeK [] kp) km := List.foldl_append ..
          rw [e]
          have := kvm.mrg (kvp.mrg (.nil : KvAt (vt H) [] []))
          rw [mrg_nil (show (keys ([] ++ bp)).Nodup from okp.nd)] at this
          exact this
        have okM : BdOk (mrgB bd1 bd2) := mrg_ok ok1 ok2 (by rw [ebad]; exact bad)
        have hBk : BookAt C G bb bd' := ⟨dx, dd, hG1, hG2⟩
        refine ⟨bb, bd', d4, mrgB bp bm, rfl, hBk.same gA, ⟨_, upd_same, km4.tps ((SG.trans gA).tps)⟩, okM.perm pG.symm, pG.trans (mrg_perm ok1.nd ok2.nd p1 p2), aG, fun G5 s5' => ⟨true, rfl, iteF ?_⟩⟩
        have fin := r2 G5 D (.ref bb) ((SG.trans gA).trans s5') (tabs_same (tabs_same (tabs_same T6 sG) gA) s5') (s5' _ _ (gA _ _ (sG _ _ hLs6)))
        rw [good.1] at fin
        exact fin
end
end Bk
end
section
set_option Elab.async false
set_option linter.all false
set_option maxRecDepth 100000
set_option maxHeartbeats 4000000
set_option pp.maxSteps 600
/-! Frames for _law_right. -/
namespace Bk
open PySem PySem.Spec PyProof.Rows L2 ClX LamX
/-! ### without tables -/
theorem tps_vt (H : Hp) : Tps H (vt H) := fun b xs h => vt_at h rfl
theorem DictAt.vt {H : Hp} {d : Addr} {bd : Bd} (h : DictAt H d bd) : DictAt (Bk.vt H) d bd := by
  obtain ⟨k, h1, h2⟩ := h
  exact ⟨k, vt_at h1 rfl, h2.tps (tps_vt H)⟩
theorem BookAt.vt {C : Addr} {H : Hp} {b : Addr} {bd : Bd} (h : BookAt C H b bd) : BookAt C (Bk.vt H) b bd := by
  obtain ⟨dx, d, h1, h2⟩ := h
  exact ⟨dx, d, vt_at h1 rfl, h2.vt⟩
theorem tps_vw {H : Hp} {p : Addr} {xs : List V} (hp : H p = some (.lst xs)) : Tps H (vw p H) := fun b ys h => vw_at h rfl fun z => by
  rw [z, hp] at h
  cases h
theorem DictAt.vw {H : Hp} {d p : Addr} {bd : Bd} {xs : List V} (h : DictAt H d bd) (hp : H p = some (.lst xs)) : DictAt (Bk.vw p H) d bd := by
  obtain ⟨k, h1, h2⟩ := h
  exact ⟨k, vw_at h1 rfl (fun z => by rw [z, hp] at h1; cases h1), h2.tps (tps_vw hp)⟩
theorem BookAt.vw {C : Addr} {H : Hp} {b p : Addr} {bd : Bd} {xs : List V} (h : BookAt C H b bd) (hp : H p = some (.lst xs)) : BookAt C (Bk.vw p H) b bd := by
  obtain ⟨dx, d, h1, h2⟩ := h
  exact ⟨dx, d, vw_at h1 rfl (fun z => by rw [z, hp] at h1; cases h1), h2.vw hp⟩
theorem sqL_vt {K : PySem.W.Frag} {H : Hp} {a : Addr} {xs : List V} (h : SqL K H a xs) : SqL K (vt H) a xs := by
  rcases h with (h | ⟨o, h⟩) | h
  · exact .inl (.inl (vt_at h rfl))
  · exact .inl (.inr ⟨o, vt_at h rfl⟩)
  · exact .inr h
theorem sqT_vt {K : PySem.W.Frag} {H : Hp} {a : Addr} {xs : List V} (h : SqT K H a xs) : SqT K (vt H) a xs := by
  rcases h with (h | ⟨o, h⟩) | h
  · exact .inl (.inl (vt_at h rfl))
  · exact .inl (.inr ⟨o, vt_at h rfl⟩)
  · exact .inr h
theorem sh_vt {K : PySem.W.Frag} {H : Hp} {v : V} {d : PyData} (h : Sh K H v d) : Sh K (vt H) v d := by
  have key : ∀ (v : V) (d : PyData), Dp K H v d → Dp K (vt H) v d := fun v d h =>
    Dp.rec (motive_1 := fun v d _ => Dp K (vt H) v d) (motive_2 := fun vs ds _ => DpAll K (vt H) vs ds) .non .bl .int .str (fun h1 _ ih => .lst (sqL_vt h1) ih) (fun h1 _ ih => .tup (sqT_vt h1) ih) .nil (fun _ _ i1 i2 => .cons i1 i2) h
  rcases h with h | ⟨a, e, ha, hd⟩ | ⟨a, e, ha, hd⟩
  · exact .inl (key v d h)
  · exact .inr (.inl ⟨a, e, vt_at ha rfl, hd⟩)
  · exact .inr (.inr ⟨a, e, vt_at ha rfl, hd⟩)
theorem tyx_vt {K : PySem.W.Frag} {H : Hp} {x : V} {t : Value} (h : TyX K H x t) : TyX K (vt H) x t := by
  cases h with
  | base h =>
    cases h with
    | non => exact .base .non
    | bl x => exact .base (.bl x)
    | int i => exact .base (.int i)
    | str x => exact .base (.str x)
    | flt x => exact .base (.flt x)
    | lst e => exact .base (.lst (vt_at e rfl))
    | frz e => exact .base (.frz (vt_at e rfl))
    | tup e => exact .base (.tup (vt_at e rfl))
    | dK e => exact .base (.dK (vt_at e rfl))
    | dT e => exact .base (.dT (vt_at e rfl))
    | ins e cl ha hn htk ho => exact .base (.ins (vt_at e rfl) cl ha hn htk ho)
  | byt b => exact .byt b
  | set e => exact .set (vt_at e rfl)
  | kList e c => exact .kList e c
  | kTuple e c => exact .kTuple e c
  | kDict e c => exact .kDict e c
  | fTuple e => exact .fTuple (vt_at e rfl)
  | fDict e => exact .fDict (vt_at e rfl)
theorem oddO_vt {K : PySem.W.Frag} {H : Hp} {v : V} (h : OddO K H v) : OddO K (vt H) v := by
  obtain ⟨D, h1, h2, h3⟩ := h
  exact ⟨D, sh_vt h1, h2, h3.imp id fun ⟨T, m, t⟩ => ⟨T, m, tyx_vt t⟩⟩
/-! ### what stands in _law_right -/
structure RI (C p b d : Addr) (bd bp : Bd) (Gb : Hp) : Prop where
  hb : BookAt C (vw p Gb) b bd
  hd : DictAt (vw p Gb) d bp
  ok : BdOk bd
  pm : bd.Perm bp
  asc : Asc (keys bd)
structure RS (T : List (Addr × Str)) (p : Addr) (Gb G : Hp) : Prop where
  s : Same (vw p Gb) G
  dc : DiceAt G p
  tb : Tabs T G
section
variable {T : List (Addr × Str)} {p : Addr} {Gb G G' : Hp}
theorem RS.same (h : RS T p Gb G) (s : Same G G') : RS T p Gb G' := ⟨h.s.trans s, h.dc.same s, tabs_same h.tb s⟩
theorem RS.but (h : RS T p Gb G) (b : But p G G') (d : DiceAt G' p) : RS T p Gb G' := by
  obtain ⟨z, hz⟩ := h.dc.some
  exact ⟨vw_but h.s b, d, tabs_but h.tb hz b⟩
theorem RS.ext (h : RS T p Gb G) (s : Same (vt G) G') (t : Tabs T G') : RS T p Gb G' := ⟨vw_ext h.s s, h.dc.vt s, t⟩
theorem RS.extN (h : RS T p Gb G) (e : ExtN G G') (t : Tabs T G') : RS T p Gb G' := h.ext (vt_ext (vt_self G) e) t
theorem RS.chg (h : RS T p Gb G) {l : Addr} {xs : List V} {o : HO} (n : vw p Gb l = none) (ne : l ≠ p) (hl : G l = some (.lst xs)) : RS T p Gb (upd G l o) := ⟨h.s.chg n, h.dc.upd ne, tabs_upd h.tb hl⟩
end
theorem wo_perm {a b : Bd} {s : Str} (h : a.Perm b) : (wo a s).Perm (wo b s) := h.filter _
theorem wo_one {bd : Bd} {s : Str} (n : (keys bd).Nodup) (hs : s ∈ keys bd) (l : bd.length = 1) : wo bd s = [] := by
  match bd, l with
  | [(x, p)], _ =>
    have e : s = x := List.mem_singleton.mp hs
    subst e
    unfold wo
    simp
theorem sm_x {y : Str} (h : nameB y = true) : smS (y ++ "x") = true := by
  have l := (name_len h).2
  have c := name_cps h
  unfold smS
  have e : (y ++ (Str.ofString "x")).cps.toList = y.cps.toList ++ [120] := by
    show (y.cps ++ #[120]).toList = _
    simp
  rw [Bool.and_eq_true, List.all_eq_true, decide_eq_true_eq]
  refine ⟨fun k hk => ?_, ?_⟩
  · rw [e] at hk
    rw [decide_eq_true_eq]
    rcases List.mem_append.mp hk with hk | hk
    · have := (c k hk).2
      omega
    · rw [List.mem_singleton.mp hk]
      omega
  · have e2 : (y ++ (Str.ofString "x")).cps.size = y.length + 1 := by
      rw [← Array.length_toList, e, List.length_append, Array.length_toList]
      rfl
    omega
theorem sm_cut {y : Str} (h : nameB y = true) (lo hi : Option Int) : smS (cutS y lo hi) = true := by
  have l := (name_len h).2
  have c := name_cps h
  have hl := cutS_length y lo hi
  unfold smS
  rw [Bool.and_eq_true, List.all_eq_true, decide_eq_true_eq]
  refine ⟨fun k hk => ?_, ?_⟩
  · have hk' : k ∈ y.cps.toList := by
      unfold cutS at hk
      simp at hk
      exact List.mem_of_mem_drop (List.mem_of_mem_take hk)
    rw [decide_eq_true_eq]
    have := (c k hk').2
    omega
  · have e : (cutS y lo hi).cps.size = (cutS y lo hi).length := rfl
    omega
end Bk
end
section
set_option Elab.async false
set_option linter.all false
set_option maxRecDepth 100000
set_option maxHeartbeats 4000000
set_option pp.maxSteps 600
/-! _law_right. -/
namespace Bk
open PySem PySem.Spec PyProof.Rows L2 ClX LamX
def qR : Str := (envOfC "_law_right" (defScope (top 41)) 0 0 .none).qual ++ "<lambda>"
theorem RS.refl {T : List (Addr × Str)} {p : Addr} {G : Hp} (d : DiceAt G p) (t : Tabs T G) : RS T p G G := ⟨vw_self p G, d, t⟩
theorem RS.re {T : List (Addr × Str)} {p : Addr} {Gb G G' : Hp} (h : RS T p Gb G) (h' : RS T p G G') : RS T p Gb G' := ⟨(vw_vw h.s).trans h'.s, h'.dc, h'.tb⟩
theorem RI.re {C p b d : Addr} {bd bp : Bd} {T : List (Addr × Str)} {Gb G : Hp} (I : RI C p b d bd bp Gb) (h : RS T p Gb G) : RI C p b d bd bp G := ⟨I.hb.same (vw_vw h.s), I.hd.same (vw_vw h.s), I.ok, I.pm, I.asc⟩
theorem RS.chgD {T : List (Addr × Str)} {p : Addr} {Gb G : Hp} (h : RS T p Gb G) {l : Addr} {kvs : List (Key × V)} {o : HO} (n : vw p Gb l = none) (ne : l ≠ p) (hl : G l = some (.dK kvs)) : RS T p Gb (upd G l o) := ⟨h.s.chg n, h.dc.upd ne, tabs_dict h.tb hl⟩
theorem op_orTK {X : Cx} {K : PySem.W.Frag} {CX : CXT} {C f : Addr} {k : Nat} {sp : Sp} {E : XK} (hK : X.K = K) (c : Spc X.K C "__or__" f) (hc : PySem.W.selfFirst X.K C = true) (hro : PySem.W.findIn X.K (.ref C) "__ror__" = some none) (F : FnR X.prog X.w X.K X.mg X.base CX k f sp) (hr : Room k X.A) (hx : Passes CX X E) :
    OpR X (binaryOp .BitOr) (fun x y H Q => InsO C H x ∧ (∃ T fo ro, TyX K H y (.type T) ∧ PySem.W.findIn K (.type T) "__or__" = some fo ∧ PySem.W.findIn K (.type T) "__ror__" = some ro ∧ PySem.W.subIn K (.type T) (.ref C) = some false) ∧ sp [x, y] H Q E) := by
  subst hK
  exact op_orT c hc hro F hr hx
theorem perm_refs {ys : List V} {xs : List Addr} (h : ys.Perm (xs.map V.ref)) : ∃ zs : List Addr, ys = zs.map V.ref ∧ zs.Perm xs := by
  let g : V → Addr := fun v => match v with
    | .ref x => x
    | _ => 0
  have e : (xs.map V.ref).map g = xs := by
    rw [List.map_map]
    exact List.map_id xs
  refine ⟨ys.map g, ?_, by rw [← e]; exact h.map g⟩
  rw [List.map_map]
  refine ((List.map_congr_left fun y hy => ?_).trans (List.map_id ys)).symm
  obtain ⟨x, _, rfl⟩ := List.mem_map.mp (h.mem_iff.mp hy)
  rfl
section
variable {P : Program} {w : World} {K : PySem.W.Frag} {mg : Str → Option Value} {base : Heap} {C CI CO CU fU : Addr}
abbrev spRt (T : List (Addr × Str)) : Sp := fun vs H Q _ => ∃ p : Addr, vs = [.ref p] ∧ DiceAt H p ∧ Tabs T H ∧ ∀ H', Same (vw p H) H' → DiceAt H' p → Tabs T H' → Q (.bl true) H'
abbrev N41 : List Str := ["_law_dice_here", "_law_pairs_here", "_law_given", "_law_one", "_law_turn", "_law_word", "_law_odd_here", "_law_told_here", "_law_more", "_law_less", "_law_other", "_law_name_here"]
theorem sc41 : FnScope N41 ["_law_dice_here"] (defScope (top 41)) := ⟨rfl, rfl, rfl, by decide +kernel, rfl, by decide +kernel, by decide +kernel⟩
theorem ok_right {f g cS PS : Addr} {fd fdm : FuncData} {T : List (Addr × Str)} (F : Fun K "_law_right" "_law_right" (top 41) f fd) (B : Bf P w K mg base C CI CO CU fU) (FM : Fun K "_law_met" "_law_met" (top 35) g fdm) (mM : mg "_law_met" = some (.ref g))
    (TB : TabB base mg cS PS) (hc : fd.code = .ref cS) (hmT : (PS, qR) ∈ T) (hu : ∀ p ∈ T, p.1 = PS → p.2 = qR)
    (N28 : Kn P w K mg base L2.CX0 2 "_law_one_of" ["_law_dice_here", "_law_items"] spOne) (N29 : Kn P w K mg base L2.CX0 2 "_law_mixed" ["_law_dice_here", "_law_items"] spMixed)
    (N32' : Kn P w K mg base L2.CX0 5 "_law_pairs" ["_law_dice_here", "_law_most", "_law_answers"] spPairs) (N34 : Kn P w K mg base L2.CX0 3 "_law_odd" ["_law_dice_here"] (spOdd K)) (N36 : Kn P w K mg base L2.CX0 5 "_law_told" ["_law_book"] (spTold C))
    (N37' : KnG P w K mg base 7 "_law_is_right" ["_law_book", "_law_pairs_here"] (spRight C)) (N38' : KnG P w K mg base 11 "_law_stranger" ["_law_book", "_law_odd_here", "_law_pairs_here"] (spStr_ K C T))
    (N39' : Kn P w K mg base L2.CX0 6 "_law_second" ["_law_dice_here", "_law_pairs_here"] spSec) (N40' : KnG P w K mg base 10 "_law_both_right" P40 (spBoth K C T)) : FnG P w K mg base 12 f fd ["_law_dice_here"] (spRt T) := by
  refine okG F sc41 (fun vs H Q E h => ?_) (fun cdv A outer s H vs Q E ecd hr hgd h => ?_)
  · obtain ⟨p, rfl, _⟩ := h
    rfl
  · obtain ⟨p, rfl, hd0, hT0, q⟩ := h
    obtain ⟨fE, cE, FE⟩ := B.sEq
    obtain ⟨fO, cO, FO⟩ := B.sOr
    obtain ⟨mcO, pO, gO, rO, cmO, FOf⟩ := B.cOf
    have hcd : cdv = .ref cS := by rw [← ecd, hc]
    -- the end: one without a command
    obtain ⟨tD, hD, rD⟩ : ∃ tD, PSs (cxOf L2.CX0 P w K mg base N41 "_law_right" (defScope (top 41)) f cdv A outer s H E).nox ((defBody (top 41)).drop 13) tD ∧ ∀ (Gb G : Hp) (b d : Addr) (bd bp : Bd) (s2 s4 s5 s6 s7 s8 s9 s10 s11 : Option V), RI C p b d bd bp Gb → RS T p Gb G → (∀ G', RS T p Gb G' → Q (.bl true) G') →
        tD { nx := fun _ H' => Q .non H', rt := Q } [some (.ref p), some (.ref d), s2, some (.ref b), s4, s5, s6, s7, s8, s9, s10, s11] G := by
      refine ⟨_, pss_cons (ps_set (i := 5) sc41.nd rfl (.inr rfl) (pk0 N28 hr (by omega) (pa_cons (pv 0) (pa_cons (pe_callTy (call_listD rfl) (by rfl) B.B.T.lst PyProof.Rows.boot_list (pa_cons (pv 1) pa_nil)) pa_nil))) (by rfl) (.inl rfl))
        (pss_cons (ps_set (i := 9) sc41.nd rfl (.inl rfl) (pe_callTy (call_dictP rfl) (by rfl) B.B.T.dct PyProof.Rows.boot_dict (pa_cons (pe_lock (pe_lc rfl sc41.nd (pi_keys (pv 1)) (blkOk_by (own := [("_law_name_here", 11)]) (by rfl)) (fun _ _ _ _ _ => pg_name (i := 11) sc41.nd rfl (.inl rfl))
            (fun _ _ _ _ _ => pts_one (pt_cmpR op_ne (pv 11) (pv 5) (by with_unfolding_all rfl))) (fun _ _ _ _ _ => pe_tup (pa_cons (pv 11) (pa_cons (pe_dget (hu_of hr) (pv 1) (pv 11) fun _ _ => rfl) pa_nil))))) pa_nil)))
        (pss_cons (ps_set (i := 10) sc41.nd rfl (.inl rfl) (pe_met (k := 9) (T := T) B.B FM mM hgd (by rfl) TB hcd hmT hu hr (fun A outer s H E f c' hr2 => pm B.mWo B.B.cls hr2 (by omega) (passes_call (takes_of rfl rfl rfl rfl) fun _ _ _ _ h => h) (pv 3) (pa_cons (pv 5) pa_nil))))
        (pss_cons (ps_if (pt_cmpR (op_eqB (hu65 hr)) (pv 9) pe_dnewK (by with_unfolding_all rfl)) (pss_one (ps_ret (pe_cmpR op_eq (pv 10) pe_str (by with_unfolding_all rfl)))) pss_nil)
        (pss_one (ps_ret (pe_and (pkG N37' hr (by omega) hgd (pa_cons (pv 10) (pa_cons (pv 9) pa_nil))) (pe_one (pkG N37' hr (by omega) hgd (pa_cons (pv 3) (pa_cons (pv 1) pa_nil)))))))))), fun Gb G b d bd bp s2 s4 s5 s6 s7 s8 s9 s10 s11 I R fin => ?_⟩
      have okp := I.ok.perm I.pm
      have l6p := okp.l6
      have l1p := okp.l1
      obtain ⟨kd, hkd, kvd⟩ := I.hd.same R.s
      refine ⟨.ref p, rfl, .ref d, rfl, d, kd, rfl, .inl hkd, fun l nl => ?_⟩
      have R1 := R.same (Same.new (o := .lst (kd.map fun kv => kV kv.1)) nl)
      have lkd := kvd.length
      refine ⟨p, l, _, rfl, R1.dc, upd_same, ne_p R.dc nl, by rw [List.length_map]; omega, by rw [List.length_map]; omega, fun x G1 b1 d1 hx => ?_⟩
      rw [kvd.kvs] at hx
      obtain ⟨y, hy, rfl⟩ := List.mem_map.mp hx
      have R2 := R1.but b1 d1
      have hyb : y ∈ keys bd := (keys_perm I.pm).mem_iff.mpr hy
      obtain ⟨py, hpy⟩ := key_lookup hyb
      obtain ⟨kd1, hkd1, kvd1⟩ := I.hd.same R2.s
      refine ⟨d, _, hkd1, True.intro, fun od => ⟨.ref d, rfl, d, od, rfl, .inl ⟨kd1, upd_same, fun D nD => ?_⟩⟩⟩
      refine lc_it (walk_keys (d := d) (o := od) (kvs := kd1)) (fun i H' => ∃ (ps : List Addr) (kvs : List (Key × V)), H' D = some (.lst (ps.map V.ref)) ∧ Paired (fun q kv => H' q = some (.tup [kV kv.1, kv.2])) ps kvs ∧ KvAt H' kvs (wo (bp.take i) y) ∧ ps.length ≤ i ∧ Same (upd G1 d (.frz od (.dK kd1))) H')
        ⟨[], [], upd_same, .nil, .nil, Nat.le_refl _, Same.new nD⟩ (fun i H' _ hP => ?_) (fun i x H2 H3 hi2 hP hz => ?_) fun H2 hP => ?_
      · obtain ⟨ps, kvs, g1, g2, g3, g4, g5⟩ := hP
        exact g5 _ _ upd_same
      · obtain ⟨ps, kvs, g1, g2, g3, g4, g5⟩ := hP
        obtain ⟨rfl, k, v, ek, rfl⟩ := hz
        obtain ⟨z, pz, ebz, rfl, hvz⟩ := kvd1.get ek
        have es := wo_snoc (s := y) ebz
        have lk1 := kvd1.length
        refine ⟨rfl, .str z, rfl, .str y, rfl, rfl, _, rfl, ?_⟩
        by_cases c : z = y
        · rw [if_pos c] at es
          rw [decide_eq_true (by rw [c])]
          refine iteF ⟨ps, kvs, g1, g2, ?_, by omega, g5⟩
          rw [es]
          exact g3
        · rw [if_neg c] at es
          rw [decide_eq_false (fun e => c (V.str.inj e))]
          have hmz : (z, pz) ∈ bp := List.mem_of_getElem? ebz
          rcases kvd1.look z with ⟨v', p2, e3, e4, e5⟩ | ⟨e3, e4⟩
          · rw [lookup_of_mem' okp.nd hmz] at e4
            cases e4
            refine iteT ⟨.str z, rfl, .ref d, rfl, .str z, rfl, d, v', rfl, dget_rd (k := Sum.inr z) (.inr ⟨od, g5 _ _ upd_same⟩) e3, z_le 2, fun t nt => ?_⟩
            have st := Same.new (o := .tup [.str z, v']) nt
            have gD := st _ _ g1
            have tD : ∀ {o : HO}, Tps (upd H3 t (.tup [.str z, v'])) (upd (upd H3 t (.tup [.str z, v'])) D o) := fun {o} e xs he => by
              rw [upd_ne (fun zz => by rw [zz, gD] at he; cases he)]
              exact he
            have tAll : Tps G1 (upd H3 t (.tup [.str z, v'])) := ((lock_tps hkd1).trans g5.tps).trans st.tps
            refine ⟨_, gD, thou (by rw [List.length_map]; omega), ps ++ [t], kvs ++ [(Sum.inr z, v')], ?_, ?_, ?_, ?_, (g5.trans st).chg nD⟩
            · rw [upd_same, List.map_append]
              rfl
            · exact pairedApp (Paired.mapP g2 fun a b h => tD _ _ (st _ _ h)) (.cons (tD _ _ upd_same) .nil)
            · rw [es]
              exact pairedApp (g3.tps (st.tps.trans tD)) (.cons ⟨rfl, (e5.tps tAll).tps tD⟩ .nil)
            · rw [List.length_append]
              show ps.length + 1 ≤ i + 1
              omega
          · rw [lookup_of_mem' okp.nd hmz] at e4
            cases e4
      obtain ⟨ps, kvs, g1, g2, g3, g4, g5⟩ := hP
      have g3 : KvAt H2 kvs (wo (bp.take kd1.length) y) := g3
      rw [kvd1.length, List.take_length] at g3
      have hfz := g5 _ _ (upd_same (H := G1) (a := d))
      have neD : D ≠ d := fun z => by
        rw [z, hfz] at g1
        cases g1
      have tU : Tps H2 (upd H2 d (.dK kd1)) := fun c xs hc => by
        rw [upd_ne (fun z => by rw [z, hfz] at hc; cases hc)]
        exact hc
      have sU : Same G1 (upd H2 d (.dK kd1)) := lock_same hkd1 g5
      refine ⟨hfz, D, ps, kvs, rfl, sql (by rw [upd_ne neD]; exact g1), Paired.mapP g2 fun a b h => sqt (tU _ _ h), fun dl ndl => ?_⟩
      have sL := Same.new (o := .dK (mergeK [] kvs)) ndl
      have hless : DictAt (upd (upd H2 d (.dK kd1)) dl (.dK (mergeK [] kvs))) dl (wo bp y) := by
        have k := (g3.tps (tU.trans sL.tps)).mrg (.nil : KvAt _ [] [])
        rw [mrg_nil (show (keys ([] ++ wo bp y)).Nodup from wo_nd okp.nd)] at k
        exact ⟨_, upd_same, k⟩
      have R3 := (R2.same sU).same sL
      refine ⟨R3.tb, fun G3 e3 T3 => ?_⟩
      have R4 := R3.extN e3 T3
      have hless3 := hless.vt.same (vt_ext (vt_self _) e3)
      have hb4 := I.hb.same R4.s
      obtain ⟨dx4, dd4, hi4⟩ := hb4.ins
      have prs : ∀ e ∈ wo bp y, PrS e.2 := fun e he => okp.s e (List.mem_filter.mp he).1
      refine ⟨.ref b, rfl, b, dx4, _, rfl, hi4, rfl, .str y, rfl, b, bd, .str y, true, rfl, hb4, I.ok, .inl ⟨y, rfl, by rw [hpy] <;> rfl⟩, fun _ s es => ?_, fun z => by cases z⟩
      cases es
      refine ⟨fun l1 G5 s5 => .inr (.inl ⟨rfl, ?_⟩), fun l1 bb dx ddd G5 bd' n1 n2 s5 h1 h2 pp aa => ?_⟩
      · have ew : wo bp y = [] := wo_one okp.nd hy (by rw [← I.pm.length_eq]; exact l1)
        obtain ⟨kl, hkl, kvl⟩ := hless3.same s5
        refine ⟨.ref dl, rfl, fun e ne => ?_⟩
        have sE := Same.new (o := .dK []) ne
        refine ⟨dl, e, kl, [], wo bp y, [], rfl, rfl, sE _ _ hkl, upd_same, kvl.tps sE.tps, .nil, prs, (fun _ h => by cases h), _, rfl, ?_⟩
        have e1 : (if false = true then !sameB (wo bp y) [] else sameB (wo bp y) []) = true := same_nil.mpr ew
        rw [e1]
        refine iteT ⟨.str "operation", rfl, rfl, ?_⟩
        rw [decide_eq_true rfl]
        exact fin _ ((R4.same s5).same sE)
      · have okw := wo_ok (s := y) okp (by rw [← I.pm.length_eq]; exact l1)
        obtain ⟨kl, hkl, kvl⟩ := hless3.same s5
        refine ⟨.ref dl, rfl, fun e ne => ?_⟩
        have sE := Same.new (o := .dK []) ne
        refine ⟨dl, e, kl, [], wo bp y, [], rfl, rfl, sE _ _ hkl, upd_same, kvl.tps sE.tps, .nil, prs, (fun _ h => by cases h), _, rfl, ?_⟩
        have e1 : (if false = true then !sameB (wo bp y) [] else sameB (wo bp y) []) = false := by
          cases e : sameB (wo bp y) [] with
          | false => rfl
          | true =>
            have := okw.l1
            rw [same_nil.mp e] at this
            cases this
        rw [e1]
        have hBk : BookAt C G5 bb bd' := ⟨dx, ddd, h1, h2⟩
        have R6 := (R4.same s5).same sE
        have pw' : bd'.Perm (wo bp y) := pp.trans (wo_perm I.pm)
        refine iteF ⟨.ref bb, rfl, .ref dl, rfl, bb, bd', dl, wo bp y, rfl, hBk.same sE, (hless3.same s5).same sE, okw.perm pw'.symm, pw', aa, fun G7 s7 => ⟨true, rfl, iteT ?_⟩⟩
        have R7 := R6.same s7
        exact ⟨.ref b, rfl, .ref d, rfl, b, bd, d, bp, rfl, I.hb.same R7.s, I.hd.same R7.s, I.ok, I.pm, I.asc, fun G8 s8 => fin _ (R7.same s8)⟩
    -- what is no book, a second book
    obtain ⟨tC, hC, rC⟩ : ∃ tC, PSs (cxOf L2.CX0 P w K mg base N41 "_law_right" (defScope (top 41)) f cdv A outer s H E).nox ((defBody (top 41)).drop 6) tC ∧ ∀ (Gb G : Hp) (b d : Addr) (bd bp : Bd) (s2 s4 s5 s6 s7 s8 s9 s10 s11 : Option V), RI C p b d bd bp Gb → RS T p Gb G → (∀ G', RS T p Gb G' → Q (.bl true) G') →
        tC { nx := fun _ H' => Q .non H', rt := Q } [some (.ref p), some (.ref d), s2, some (.ref b), s4, s5, s6, s7, s8, s9, s10, s11] G := by
      refine ⟨_, pss_cons (ps_set (i := 6) sc41.nd rfl (.inr rfl) (pk0 N28 hr (by omega) (pa_cons (pv 0) (pa_cons (pe_lst (pa_cons pe_non (pa_cons pe_int (pa_cons pe_str (pa_cons (pe_tup pa_nil) (pa_cons pe_dnewK (pa_cons (pv 1) (pa_cons (pe_lst (pa_cons pe_str pa_nil)) pa_nil)))))))) pa_nil))) (by rfl) (.inl rfl))
        (pss_cons (ps_set (i := 7) sc41.nd rfl (.inl rfl) (pe_lst (pa_cons (pe_met (k := 9) (T := T) B.B FM mM hgd (by rfl) TB hcd hmT hu hr (fun A outer s H E f c' hr2 => pe_op (op_orTK (K := K) (E := E) rfl cO B.sf B.ror (FO.mono (by omega : 7 ≤ 9)) hr2 (passes_call (takes_of rfl rfl rfl rfl) fun _ _ _ _ h => h)) (pv 3) (pv 6))) pa_nil)))
        (pss_cons (ps_expr (pe_bm PySem.F.plainAttrs_list PySem.F.slot_list_append PySem.F.type_list_append mt_append (pv 7) (pa_cons (pe_met (k := 9) (T := T) B.B FM mM hgd (by rfl) TB hcd hmT hu hr (fun A outer s H E f c' hr2 => pm B.mWi B.B.cls hr2 (by omega) (passes_call (takes_of rfl rfl rfl rfl) fun _ _ _ _ h => h) (pv 3) (pa_cons (pv 6) pa_nil))) pa_nil)))
        (pss_cons (ps_set (i := 7) sc41.nd rfl (.inl rfl) (pe_op op_cat (pv 7) (pe_lst (pa_cons (pe_cmpR (op_eqO (E := L2.E0) cE (FE.mono (by omega : 1 ≤ 11)) hr pass0) (pv 3) (pv 6) (by with_unfolding_all rfl)) (pa_cons (pe_cmpR (op_neO (E := L2.E0) cE B.ne B.B.c4 (FE.mono (by omega : 1 ≤ 10)) hr pass0) (pv 3) (pv 6) (by with_unfolding_all rfl)) pa_nil)))))
        (pss_cons (ps_if (pt_cmpR (op_neD hr.units) (pv 7) (pe_lst (pa_cons pe_str (pa_cons pe_str (pa_cons pe_bl (pa_cons pe_bl pa_nil))))) (by with_unfolding_all rfl)) (pss_one (ps_ret pe_bl)) pss_nil)
        (pss_cons (ps_set (i := 8) sc41.nd rfl (.inl rfl) (pk0 N39' hr (by omega) (pa_cons (pv 0) (pa_cons (pv 1) pa_nil))))
        (pss_cons (ps_if (pt_not (pt_val (pkG N40' hr (by omega) hgd (pa_cons (pv 0) (pa_cons (pv 3) (pa_cons (pe_cmeth (pl := ?pl) (pe_glob (v := .ref C) (by rfl) B.B.mB rfl) rO cmO (FOf.mono (by omega : 7 ≤ 11)) hr pass0 (pa_cons (pv 8) pa_nil)) (pa_cons (pv 1) (pa_cons (pv 8) pa_nil)))))))) (pss_one (ps_ret pe_bl)) pss_nil) hD)))))), fun Gb G b d bd bp s2 s4 s5 s6 s7 s8 s9 s10 s11 I R fin => ?_⟩
      have okp := I.ok.perm I.pm
      refine ⟨.ref p, rfl, z_le 0, fun t1 m1 t2 m2 => ⟨.ref d, rfl, z_le 1, fun t3 m3 => ⟨z_le 7, fun l nl => ?_⟩⟩⟩
      have U4 := Same.new (o := .lst [.non, .int 0, .str "book", .ref t1, .ref t2, .ref d, .ref t3]) nl
      have U3 := (Same.new (o := .lst [.str "a"]) m3).trans U4
      have U2 := (Same.new (o := .dK []) m2).trans U3
      have U1 := (Same.new (o := .tup []) m1).trans U2
      have RX := R.same U1
      obtain ⟨kd, hkd, kvd⟩ := I.hd.same RX.s
      obtain ⟨x0, y0, z0, hp0, hrest⟩ := RX.dc
      have nep : l ≠ p := fun z => by
        exact ne_p R.dc ((((Same.new (o := .tup []) m1).trans (Same.new (o := .dK []) m2)).trans (Same.new (o := .lst [.str "a"]) m3)).free nl) z
      have all : ∀ v ∈ ([.non, .int 0, .str "book", .ref t1, .ref t2, .ref d, .ref t3] : List V), OddT K (vw p (upd (upd (upd (upd G t1 (.tup [])) t2 (.dK [])) t3 (.lst [.str "a"])) l (.lst [.non, .int 0, .str "book", .ref t1, .ref t2, .ref d, .ref t3]))) v := by
        intro v hv
        have nx : ∀ {t : Addr} {o : HO}, (upd (upd (upd (upd G t1 (.tup [])) t2 (.dK [])) t3 (.lst [.str "a"])) l (.lst [.non, .int 0, .str "book", .ref t1, .ref t2, .ref d, .ref t3])) t = some o → o ≠ .lst [.int x0, .int y0, .int z0] → t ≠ p := fun {t o} h n z => n (by
          rw [z, hp0] at h
          exact (Option.some.inj h).symm)
        simp only [List.mem_cons, List.not_mem_nil, or_false] at hv
        rcases hv with rfl | rfl | rfl | rfl | rfl | rfl | rfl
        · exact ⟨"NoneType", by decide, .base .non⟩
        · exact ⟨"int", by decide, .base (.int _)⟩
        · exact ⟨"str", by decide, .base (.str _)⟩
        · exact ⟨"tuple", by decide, .base (.tup (vw_at (U2 _ _ upd_same) rfl (nx (U2 _ _ upd_same) (fun z => by cases z))))⟩
        · exact ⟨"dict", by decide, .base (.dK (vw_at (U3 _ _ upd_same) rfl (nx (U3 _ _ upd_same) (fun z => by cases z))))⟩
        · exact ⟨"dict", by decide, .base (.dK (vw_at hkd rfl (nx hkd (fun z => by cases z))))⟩
        · exact ⟨"list", by decide, .base (.lst (vw_at (U4 _ _ upd_same) rfl (nx (U4 _ _ upd_same) (fun z => by cases z))))⟩
      have I1 := I.re RX
      have fin1 := fun G' (r : RS T p _ G') => fin G' (RX.re r)
      refine ⟨p, l, _, rfl, RX.dc, upd_same, nep, Nat.lt_of_lt_of_le (Nat.zero_lt_succ 6) (Nat.le_of_ble_eq_true rfl), Nat.le_of_ble_eq_true rfl, fun v G1 b1 d1 hv => ?_⟩
      have ov := all v hv
      have R1 := (RS.refl RX.dc RX.tb).but b1 d1
      clear all
      generalize upd (upd (upd (upd G t1 (.tup [])) t2 (.dK [])) t3 (.lst [.str "a"])) l (.lst [.non, .int 0, .str "book", .ref t1, .ref t2, .ref d, .ref t3]) = X at I1 fin1 ov R1 b1
      refine ⟨R1.tb, fun G2 e2 T2 => ?_⟩
      have R2 := R1.extN e2 T2
      obtain ⟨T', hT', ty2⟩ := ov.same R2.s
      obtain ⟨fo, ro, f1, f2, f3⟩ := B.orT T' hT'
      refine ⟨.ref b, rfl, v, rfl, (I1.hb.same R2.s).insO, ⟨T', fo, ro, ty2, f1, f2, f3⟩, .inr ⟨b, bd, v, rfl, I1.hb.same R2.s, ov.same R2.s, fun G3 s3 => .inr (.inl ⟨rfl, z_le 1, fun L nL => ?_⟩)⟩⟩
      have R3 := R2.same s3
      have nLv := R3.s.free nL
      have neL := ne_p R3.dc nL
      have R4 := R3.same (Same.new (o := .lst [.str "operation"]) nL)
      have hL4 := upd_same (H := G3) (a := L) (o := .lst [.str "operation"])
      refine ⟨.ref L, rfl, .inl ⟨rfl, _, sql hL4⟩, R4.tb, fun G5 e5 T5 => ?_⟩
      have R5 := R4.extN e5 T5
      have hb5 := I1.hb.same R5.s
      obtain ⟨dx5, dd5, hi5⟩ := hb5.ins
      have hL5 := e5 _ _ hL4 (fun ps z => by cases z)
      refine ⟨.ref b, rfl, b, dx5, _, rfl, hi5, rfl, v, rfl, .inr ⟨b, bd, v, rfl, hb5, ov.same R5.s, fun G6 s6 => .inl ⟨rfl, L, _, .str "book", rfl, rfl, s6 _ _ hL5, thou (Nat.le_of_ble_eq_true rfl), ?_⟩⟩⟩
      have R7 := (R5.same s6).chg (o := .lst ([.str "operation"] ++ [.str "book"])) nLv neL (s6 _ _ hL5)
      have hL7 := upd_same (H := G6) (a := L) (o := .lst ([.str "operation"] ++ [.str "book"]))
      have hb7 := I1.hb.same R7.s
      obtain ⟨T7, hT7, ty7⟩ := ov.same R7.s
      refine ⟨.ref L, rfl, .ref b, rfl, v, rfl, hb7.insO, ⟨_, ty7, B.nT T7 hT7⟩, .inr ⟨b, bd, v, rfl, hb7, ov.same R7.s, fun G8 s8 => ?_⟩⟩
      have R8 := R7.same s8
      obtain ⟨T8, hT8, ty8⟩ := ov.same R8.s
      refine ⟨.ref b, rfl, v, rfl, (I1.hb.same R8.s).insO, ⟨_, ty8, B.nT T8 hT8⟩, .inr ⟨b, bd, v, rfl, I1.hb.same R8.s, ov.same R8.s, fun G9 s9 => ⟨false, rfl, z_le 2, fun L2 nL2 => ?_⟩⟩⟩
      have R9 := R8.same s9
      have sN := Same.new (o := .lst [.bl false, .bl (!false)]) nL2
      refine ⟨L, L2, _, _, rfl, rfl, sN _ _ (s9 _ _ (s8 _ _ hL7)), upd_same, z_le 4, fun L3 nL3 => ?_⟩
      have sN3 := Same.new (o := .lst (([.str "operation"] ++ [.str "book"]) ++ [.bl false, .bl (!false)])) nL3
      refine ⟨.ref L3, rfl, z_le 4, fun L4 nL4 => ?_⟩
      have sN4 := Same.new (o := .lst [.str "operation", .str "book", .bl false, .bl true]) nL4
      refine ⟨.list [.str "operation", .str "book", .bool false, .bool true], .list [.str "operation", .str "book", .bool false, .bool true], .lst (sql (sN4 _ _ upd_same)) (.cons (.str _) (.cons (.str _) (.cons (.bl _) (.cons (.bl _) .nil)))), .lst (sql upd_same) (.cons (.str _) (.cons (.str _) (.cons (.bl _) (.cons (.bl _) .nil)))), by decide +kernel, by decide +kernel, _, rfl, ?_⟩
      have ee : (!PyData.eqv (.list [.str "operation", .str "book", .bool false, .bool true]) (.list [.str "operation", .str "book", .bool false, .bool true])) = false := by decide +kernel
      rw [ee]
      have R10 := ((R9.same sN).same sN3).same sN4
      refine iteF ⟨.ref p, rfl, .ref d, rfl, p, d, bp, rfl, R10.dc, I1.hd.same R10.s, okp, fun dm G12 bm ndm b12 d12 hm okm => ?_⟩
      have R12 := R10.but b12 d12
      refine ⟨.ref p, rfl, .ref b, rfl, rfl, .ref dm, rfl, dm, bm, rfl, hm, okm, fun b2 dx d2 G13 bd2 n1 n2 s13 h1 h2 pp aa => ?_⟩
      have R13 := R12.same s13
      have hBk : BookAt C G13 b2 bd2 := ⟨dx, d2, h1, h2⟩
      refine ⟨.ref d, rfl, .ref dm, rfl, .ref p, b, b2, d, dm, bd, bd2, bp, bm, rfl, I1.hb.same (vw_vt R13.s), hBk.vt, I1.hd.same (vw_vt R13.s), (hm.same s13).vt, I1.ok, okm.perm pp.symm, I1.pm, pp, I1.asc, aa, R13.tb, fun G14 s14 T14 => ⟨true, rfl, iteF ?_⟩⟩
      exact rD X G14 b d bd bp _ _ _ _ _ _ _ _ _ I1 (R13.ext s14 T14) fin1
    refine ⟨_, pss_cons (ps_set (i := 1) sc41.nd rfl (.inr rfl) (pk0 N32' hr (by omega) (pa_cons (pv 0) (pa_cons pe_int (pa_cons pe_int pa_nil)))) (by rfl) (.inl rfl))
      (pss_cons (ps_set (i := 2) sc41.nd rfl (.inl rfl) (pe_callTy (call_dictP rfl) (by rfl) B.B.T.dct PyProof.Rows.boot_dict (pa_cons (pk0 N29 hr (by omega) (pa_cons (pv 0) (pa_cons (LiI.pe_listItems rfl (pv 1) (by rfl) B.B.T.lst PyProof.Rows.boot_list) pa_nil))) pa_nil)))
      (pss_cons (ps_set (i := 3) sc41.nd rfl (.inr rfl) (pe_cmeth (pl := ?pl) (pe_glob (v := .ref C) (by rfl) B.B.mB rfl) rO cmO (FOf.mono (by omega : 7 ≤ 11)) hr pass0 (pa_cons (pv 2) pa_nil)) (by rfl) (.inl rfl))
      (pss_cons (ps_dput (hu_of hr) (pv 2) pe_str (pe_tup (pa_cons pe_int (pa_cons (pe_tup (pa_cons pe_str pa_nil)) pa_nil))) (by rfl))
      (pss_cons (ps_if (pw_or (pt_not (pt_val (pkG N37' hr (by omega) hgd (pa_cons (pv 3) (pa_cons (pv 1) pa_nil))))) (pw_or1 (pt_cmpR (op_neB (hu65 hr)) (pk0 N36 hr (by omega) (pa_cons (pv 3) pa_nil)) (pv 1) (by with_unfolding_all rfl)))).pt (pss_one (ps_ret pe_bl)) pss_nil)
      (pss_cons (ps_for PassesOwn.never rfl (pi_range1 (by rfl) B.B.T.rng (pa_cons pe_int pa_nil)) (pg_name (i := 4) sc41.nd rfl (.inl rfl))
        (pss_cons (ps_set (i := 5) sc41.nd rfl (.inr rfl) (pk0 N28 hr (by omega) (pa_cons (pv 0) (pa_cons (pe_callTy (call_listD rfl) (by rfl) B.B.T.lst PyProof.Rows.boot_list (pa_cons (pv 1) pa_nil)) pa_nil))) (by rfl) (.inl rfl))
        (pss_cons (ps_set (i := 6) sc41.nd rfl (.inr rfl) (pk0 N28 hr (by omega) (pa_cons (pv 0) (pa_cons (pe_lst (pa_cons (pk0 N34 hr (by omega) (pa_cons (pv 0) pa_nil)) (pa_cons (pe_op op_add_str (pv 5) pe_str) (pa_cons (pe_slice sl_str (pv 5) po_none (po_some (pe_un un_neg pe_int))) pa_nil)))) pa_nil))) (by rfl) (.inl rfl))
        (pss_one (ps_if (pt_not (pt_val (pkG N38' hr (by omega) hgd (pa_cons (pv 3) (pa_cons (pv 6) (pa_cons (pv 1) pa_nil)))))) (pss_one (ps_ret pe_bl)) pss_nil))))) hC))))), ?_⟩
    refine ⟨.ref p, rfl, p, rfl, hd0, fun d G1 bp nd b1 d1 hdp okp => ?_⟩
    have R1 := (RS.refl hd0 hT0).but b1 d1
    have l6p := okp.l6
    have l1p := okp.l1
    obtain ⟨kd, hkd, kvd⟩ := id hdp
    have lkd := kvd.length
    refine ⟨.ref p, rfl, .ref d, rfl, d, kd, rfl, hkd, fun G2 l ts g2 nl nt ni hl pr => ?_⟩
    have R2 := R1.same g2
    have lts' := Paired.length pr
    refine ⟨p, l, ts.map V.ref, rfl, R2.dc, hl, ne_p R1.dc nl, by rw [List.length_map]; omega, fun l2 G3 ys nl2 b3 d3 hl2 py => ?_⟩
    have R3 := R2.but b3 d3
    obtain ⟨z2, hz2⟩ := R2.dc.some
    obtain ⟨ts', rfl, pt'⟩ := perm_refs py
    obtain ⟨kd', pk', pr'⟩ := perm_paired pt'.symm pr
    obtain ⟨bp', pb', kvd'⟩ := perm_paired pk'.symm kvd
    have okp' := okp.perm pb'.symm
    have t13 : Tps G1 G3 := (Same.tps g2).trans (b3.tps hz2)
    refine ⟨l2, ts', kd', rfl, sql hl2, Paired.mapP pr' fun a b h => sqt (b3.tps hz2 _ _ h), fun dg ndg => ?_⟩
    have sG := Same.new (o := .dK (mergeK [] kd')) ndg
    have R4 := R3.same sG
    have hdg : DictAt (upd G3 dg (.dK (mergeK [] kd'))) dg bp' := by
      have k0 : KvAt G1 kd' bp' := kvd'
      have k := (k0.tps (t13.trans sG.tps)).mrg (.nil : KvAt (upd G3 dg (.dK (mergeK [] kd'))) [] [])
      rw [mrg_nil (show (keys ([] ++ bp')).Nodup from okp'.nd)] at k
      exact ⟨_, upd_same, k⟩
    have nedg := ne_p R3.dc ndg
    have ndgH : vw p H dg = none := R3.s.free ndg
    refine ⟨rfl, .ref dg, rfl, dg, bp', rfl, hdg, okp', fun b dx dk G5 bd nb ndk s5 hb5 hd5 pp aa => ?_⟩
    have R5 := R4.same s5
    refine ⟨z_le 1, fun t1 m1 => ⟨z_le 2, fun t2 m2 => ?_⟩⟩
    have s6 := (Same.new (o := .tup [.str "ok"]) m1).put (o := .tup [.int 0, .ref t1]) m2
    have R6 := R5.same s6
    obtain ⟨kg, hkg, kvg⟩ := hdg.same (s5.trans s6)
    have okd := okp'.perm pp.symm
    refine ⟨.ref dg, rfl, dg, _, rfl, .inl ⟨kg, Sum.inr "zzzz", hkg, rfl, thou (by have := kvg.length; have := okp'.l6; omega), rfl⟩, ?_⟩
    have nebg : b ≠ dg := fun z => by
      have := s6 _ _ hb5
      rw [z, hkg] at this
      cases this
    have nekg : dk ≠ dg := fun z => by
      rw [z, upd_same] at ndk
      cases ndk
    have nedd : d ≠ dg := fun z => by
      have h3 : G3 d = some (.dK kd) := b3 _ _ (g2 _ _ hkd) (fun zz => by
        have := g2 _ _ hkd
        rw [zz, hz2] at this
        cases this)
      rw [z, ndg] at h3
      cases h3
    have pmf : bd.Perm bp := pp.trans pb'
    have hdd6 : DictAt _ d bp := ((((hdp.same g2).but b3 hz2).same sG).same s5).same s6
    generalize hO : putK kg (Sum.inr "zzzz") (.ref t2) = kz
    have R7 := R6.chgD (o := .dK kz) ndgH nedg hkg
    have hbk : BookAt C (upd (upd (upd G5 t1 (.tup [.str "ok"])) t2 (.tup [.int 0, .ref t1])) dg (.dK kz)) b bd := ⟨dx, dk, by rw [upd_ne nebg]; exact s6 _ _ hb5, (hd5.same s6).other nekg hkg⟩
    have hdk : DictAt (upd (upd (upd G5 t1 (.tup [.str "ok"])) t2 (.tup [.int 0, .ref t1])) dg (.dK kz)) d bp := hdd6.other nedd hkg
    obtain ⟨zz, hzz⟩ := R7.dc.some
    have I : RI C p b d bd bp (upd (upd (upd G5 t1 (.tup [.str "ok"])) t2 (.tup [.int 0, .ref t1])) dg (.dK kz)) := ⟨hbk.vw hzz, hdk.vw hzz, okd, pmf, aa⟩
    have R0 := RS.refl R7.dc R7.tb
    generalize upd (upd (upd G5 t1 (.tup [.str "ok"])) t2 (.tup [.int 0, .ref t1])) dg (.dK kz) = X at I R0 R7
    have fin : ∀ G', RS T p X G' → Q (.bl true) G' := fun G' r => q G' (R7.re r).s r.dc r.tb
    refine ⟨.ref b, rfl, .ref d, rfl, b, bd, d, bp, rfl, I.hb.same R0.s, I.hd.same R0.s, okd, pmf, aa, fun G8 s8 => ⟨true, rfl, iteF ?_⟩⟩
    have R8 := R0.same s8
    refine ⟨.ref b, rfl, b, bd, rfl, I.hb.same R8.s, okd, fun dt G9 ndt s9 hdt => ?_⟩
    have R9 := R8.same s9
    obtain ⟨kt, hkt, kvt⟩ := hdt
    obtain ⟨k9, hk9, kv9⟩ := I.hd.same R9.s
    refine ⟨.ref d, rfl, dt, d, kt, k9, bd, bp, rfl, rfl, hkt, hk9, kvt, kv9, okd.s, okp.s, _, rfl, ?_⟩
    have esb : (if true = true then !sameB bd bp else sameB bd bp) = false := by
      rw [perm_sameB okp.nd pmf]
      rfl
    rw [esb]
    refine iteF ⟨3, rfl, by decide, by decide, ?_⟩
    refine for_it (walk_range (lo := 0) (n := (3 : Int).toNat)) (fun i σ G => ∃ s4 s5 s6 : Option V, σ = [some (.ref p), some (.ref d), some (.ref dg), some (.ref b), s4, s5, s6, none, none, none, none, none] ∧ RS T p X G) ⟨none, none, none, rfl, R9⟩ (fun _ _ _ _ _ => True.intro) (fun i x σ Ga Gb hi hP hy => ?_) fun σ Ga hP => ?_
    · obtain ⟨s4, s5', s6', rfl, R⟩ := hP
      obtain ⟨rfl, rfl⟩ := hy
      obtain ⟨ka, hka, kva⟩ := I.hd.same R.s
      have lka := kva.length
      refine ⟨.ref p, rfl, .ref d, rfl, d, ka, rfl, .inl hka, fun la nla => ?_⟩
      have Ra := R.same (Same.new (o := .lst (ka.map fun kv => kV kv.1)) nla)
      refine ⟨p, la, _, rfl, Ra.dc, upd_same, ne_p R.dc nla, by rw [List.length_map]; omega, by rw [List.length_map]; omega, fun x G1 b1' d1' hx => ?_⟩
      rw [kva.kvs] at hx
      obtain ⟨y, hy, rfl⟩ := List.mem_map.mp hx
      have Rb := Ra.but b1' d1'
      have hyn := (okp.key hy).nm
      have ly := (name_len hyn).2
      refine ⟨.ref p, rfl, .ref p, rfl, p, rfl, Rb.dc, fun v1 G2' b2' d2' ho1 => ?_⟩
      have Rc := Rb.but b2' d2'
      refine ⟨.str y, rfl, y, "x", rfl, rfl, ?_, .str y, rfl, 1, rfl, -1, rfl, y, rfl, str_sz ly (by omega), z_le 3, fun lb nlb => ?_⟩
      · rw [show (Str.ofString "x").length = 1 by decide +kernel, sizeLine_eq]
        omega
      have sl := Same.new (o := .lst [v1, .str (y ++ "x"), .str (cutS y none (some (-1)))]) nlb
      have Rd' := Rc.same sl
      refine ⟨p, lb, [v1, .str (y ++ "x"), .str (cutS y none (some (-1)))], rfl, Rd'.dc, upd_same, ne_p Rc.dc nlb, Nat.lt_of_lt_of_le (Nat.zero_lt_succ 2) (Nat.le_of_ble_eq_true rfl), Nat.le_of_ble_eq_true rfl, fun v G3' b3' d3' hv => ?_⟩
      have Re := Rd'.but b3' d3'
      have so : Same (vw p G2') (vt G3') := vw_vt (vw_but ((vw_self p G2').trans sl) b3')
      have ov : OddO K (vt G3') v := by
        simp only [List.mem_cons, List.not_mem_nil, or_false] at hv
        rcases hv with rfl | rfl | rfl
        · exact (oddO_vt ho1).same so
        · exact oo_str (okD_str (sm_x hyn))
        · exact oo_str (okD_str (sm_cut hyn _ _))
      exact ⟨.ref b, rfl, v, rfl, .ref d, rfl, b, bd, d, bp, v, rfl, I.hb.same (vw_vt Re.s), I.hd.same (vw_vt Re.s), okd, pmf, ov, Re.tb, fun G4' s4' T4' => ⟨true, rfl, iteF ⟨_, _, _, rfl, Re.ext s4' T4'⟩⟩⟩
    · obtain ⟨s4, s5', s6', rfl, R⟩ := hP
      exact rC X Ga b d bd bp _ _ _ _ _ _ _ _ _ I R fin
end
end Bk
end
section
set_option Elab.async false
set_option linter.all false
set_option maxRecDepth 100000
set_option maxHeartbeats 4000000
set_option pp.maxSteps 600
/-! law. -/
namespace Bk
open PySem PySem.Spec PyProof.Rows L2 ClX LamX
theorem ans_of {x : Str} (h : nameB x = true) (n : x ∉ resv) : Ans x := ⟨h, n⟩
theorem a_look : Ans "look" := ⟨by decide +kernel, by decide +kernel⟩
theorem a_a : Ans "a" := ⟨by decide +kernel, by decide +kernel⟩
theorem a_z : Ans "zzzzzzzz" := ⟨by decide +kernel, by decide +kernel⟩
theorem a_ok : Ans "ok" := ⟨by decide +kernel, by decide +kernel⟩
theorem a_no : Ans "no" := ⟨by decide +kernel, by decide +kernel⟩
theorem a_yes : Ans "yes" := ⟨by decide +kernel, by decide +kernel⟩
theorem a_self : Ans "self" := ⟨by decide +kernel, by decide +kernel⟩
theorem pr_ok {t : Int} (h0 : 0 ≤ t) (h2 : t ≤ 2) : PrOk (t, ["ok"]) := ⟨h0, h2, Nat.le_refl 1, by show 1 ≤ 3; decide, fun x hx => by rw [List.mem_singleton.mp hx]; exact a_ok, List.pairwise_singleton _ _⟩
def bd3 (t : Int) (an : List Str) : Bd := [("look", (t, an)), ("a", (2 - t, ["ok"])), ("zzzzzzzz", (1, an))]
theorem bd3_ok {t : Int} {an : List Str} (h0 : 0 ≤ t) (h2 : t ≤ 2) (l1 : 1 ≤ an.length) (l3 : an.length ≤ 3) (ha : ∀ x ∈ an, Ans x) (as : Asc an) : BdOk (bd3 t an) := by
  refine ⟨by show 1 ≤ 3; decide, by show 3 ≤ 6; decide, fun e he => ?_, ?_⟩
  · unfold bd3 at he
    simp only [List.mem_cons, List.not_mem_nil, or_false] at he
    rcases he with rfl | rfl | rfl
    · exact ⟨a_look, h0, h2, l1, l3, ha, as⟩
    · exact ⟨a_a, pr_ok (by omega) (by omega)⟩
    · exact ⟨a_z, by show (0 : Int) ≤ 1; decide, by show (1 : Int) ≤ 2; decide, l1, l3, ha, as⟩
  · show (["look", "a", "zzzzzzzz"] : List Str).Nodup
    decide +kernel
def bdA (t : Int) : Bd := [("a", (t, ["ok"]))]
theorem bdA_ok {t : Int} (h0 : 0 ≤ t) (h2 : t ≤ 2) : BdOk (bdA t) := ⟨Nat.le_refl 1, by show 1 ≤ 6; decide, fun e he => by rw [List.mem_singleton.mp he]; exact ⟨a_a, pr_ok h0 h2⟩, List.nodup_cons.mpr ⟨List.not_mem_nil, List.nodup_nil⟩⟩
def bdS : Bd := [("self", (1, ["no", "yes"]))]
theorem bdS_ok : BdOk bdS := by
  refine ⟨Nat.le_refl 1, by show 1 ≤ 6; decide, fun e he => ?_, List.nodup_cons.mpr ⟨List.not_mem_nil, List.nodup_nil⟩⟩
  rw [List.mem_singleton.mp he]
  refine ⟨a_self, by show (0 : Int) ≤ 1; decide, by show (1 : Int) ≤ 2; decide, by show 1 ≤ 2; decide, by show 2 ≤ 3; decide, fun x hx => ?_, ?_⟩
  · have hx : x ∈ (["no", "yes"] : List Str) := hx
    simp only [List.mem_cons, List.not_mem_nil, or_false] at hx
    rcases hx with rfl | rfl
    · exact a_no
    · exact a_yes
  · refine List.pairwise_cons.mpr ⟨fun y hy => ?_, List.pairwise_singleton _ _⟩
    rw [List.mem_singleton.mp hy]
    show (Str.ofString "no").cps.toList < (Str.ofString "yes").cps.toList
    decide +kernel
theorem mk_newA {C : Addr} {H : Hp} {kvs : List (Str × V)} {bd : Bd} {Q' : Addr → Hp → Prop} {E : XK} (h : KvAt H (inrs kvs) bd) (ok : BdOk bd) (q : ∀ b dx d H' bd', H b = none → H d = none → Same H H' → H' b = some (.ins C dx [(oF, .ref d)]) → DictAt H' d bd' → bd'.Perm bd → Asc (keys bd') → Q' b H') :
    ∀ x dx, H x = none → H dx = none → dx ≠ x → spKw C (.ref x) kvs (upd (upd H dx (.own x)) x (.ins C dx [])) (fun v H2 => v = .non ∧ Q' x H2) E :=
  mk_new (Q := fun v H => match v with | .ref x => Q' x H | _ => False) h ok q
section
variable {P : Program} {w : World} {K : PySem.W.Frag} {mg : Str → Option Value} {base : Heap} {C CI CO CU fU : Addr}
abbrev spLaw (K : PySem.W.Frag) (T : List (Addr × Str)) : Sp := fun vs H Q _ => ∃ (a : Addr) (ns : List Int), vs = [.ref a] ∧ ns.length ≤ 63 ∧ SqL K H a (ns.map V.int) ∧ Tabs T H ∧ ∀ H', Q (.bl true) H'
abbrev N42 : List Str := ["_law_script", "_law_at", "_law_dice_here", "_law_turn", "_law_answers", "_law_takes", "_law_written", "_law_due"]
theorem sc42 : FnScope N42 ["_law_script"] (defScope (top 42)) := ⟨rfl, rfl, rfl, by decide +kernel, rfl, by decide +kernel, by decide +kernel⟩
theorem ok_law {f : Addr} {fd : FuncData} {T : List (Addr × Str)} (F : Fun K "law" "law" (top 42) f fd) (B : Bf P w K mg base C CI CO CU fU)
    (N26 : Kn P w K mg base L2.CX0 1 "_law_dice" ["_law_script", "_law_at"] (spDice K)) (N27 : Kn P w K mg base L2.CX0 1 "_law_roll" ["_law_dice_here", "_law_total"] spRoll) (N31 : Kn P w K mg base L2.CX0 4 "_law_names" ["_law_dice_here", "_law_size"] spNames)
    (N37' : KnG P w K mg base 7 "_law_is_right" ["_law_book", "_law_pairs_here"] (spRight C)) (N41' : KnG P w K mg base 12 "_law_right" ["_law_dice_here"] (spRt T)) : FnG P w K mg base 13 f fd ["_law_script"] (spLaw K T) := by
  refine okG F sc42 (fun vs H Q E h => ?_) (fun cdv A outer s H vs Q E ecd hr hgd h => ?_)
  · obtain ⟨a, ns, rfl, _⟩ := h
    rfl
  · obtain ⟨a, ns, rfl, l63, hs, hT, q⟩ := h
    obtain ⟨fE, cE, FE⟩ := B.sEq
    obtain ⟨mcO, pO, gO, rO, cmO, FOf⟩ := B.cOf
    obtain ⟨fI, M, FI⟩ := B.mkB
    refine ⟨_, pss_cons (ps_for PassesOwn.never rfl (pi_range1 (by rfl) B.B.T.rng (pa_cons (pe_callB (call_max2 rfl) (by rfl) B.B.T.max boot_max (pa_cons pe_int (pa_cons (pe_callB (call_min2 rfl) (by rfl) B.B.T.min boot_min (pa_cons pe_int (pa_cons (pe_callB call_len (by rfl) B.B.T.len PySem.boot_len (pa_cons (pv 0) pa_nil)) pa_nil))) pa_nil))) pa_nil)) (pg_name (i := 1) sc42.nd rfl (.inl rfl))
        (pss_cons (ps_set (i := 2) sc42.nd rfl (.inl rfl) (pk0 N26 hr (by omega) (pa_cons (pv 0) (pa_cons (pv 1) pa_nil))))
        (pss_cons (ps_for PassesOwn.never rfl (pi_range1 (by rfl) B.B.T.rng (pa_cons pe_int pa_nil)) (pg_name (i := 3) sc42.nd rfl (.inl rfl)) (pss_one (ps_if (pt_not (pt_val (pkG N41' hr (by omega) hgd (pa_cons (pv 2) pa_nil)))) (pss_one (ps_ret pe_bl)) pss_nil)))
        (pss_cons (ps_set (i := 4) sc42.nd rfl (.inl rfl) (pe_callTy call_tuple_of (by rfl) B.B.T.tup PyProof.Rows.boot_tuple (pa_cons (pe_callB cr_sortedS (by rfl) B.B.T.srt boot_sorted (pa_cons (pk0 N31 hr (by omega) (pa_cons (pv 2) (pa_cons (pe_op op_add pe_int (pk0 N27 hr (by omega) (pa_cons (pv 2) (pa_cons pe_int pa_nil)))) pa_nil))) pa_nil)) pa_nil)))
        (pss_cons (ps_set (i := 5) sc42.nd rfl (.inl rfl) (pk0 N27 hr (by omega) (pa_cons (pv 2) (pa_cons pe_int pa_nil))))
        (pss_cons (ps_set (i := 6) sc42.nd rfl (.inl rfl) (pe_makeKs (E := L2.E0) (ks := ["look", "a", "zzzzzzzz"]) M FI (hr.mono (by omega)) (by rfl) B.B.mB pass0 (pk_cons (pe_tup (pa_cons (pv 5) (pa_cons (pv 4) pa_nil))) (pk_cons (pe_tup (pa_cons (pe_op op_sub pe_int (pv 5)) (pa_cons (pe_tup (pa_cons pe_str pa_nil)) pa_nil))) (pk_cons (pe_tup (pa_cons pe_int (pa_cons (pv 4) pa_nil))) pk_nil)))))
        (pss_cons (ps_set (i := 7) sc42.nd rfl (.inl rfl) (pe_disp (pps_cons pe_str (pe_tup (pa_cons (pv 5) (pa_cons (pv 4) pa_nil))) (pps_cons pe_str (pe_tup (pa_cons (pe_op op_sub pe_int (pv 5)) (pa_cons (pe_tup (pa_cons pe_str pa_nil)) pa_nil))) (pps_cons pe_str (pe_tup (pa_cons pe_int (pa_cons (pv 4) pa_nil))) pps_nil))) (by rfl) (by rfl) (by simp) (by decide)))
        (pss_cons (ps_if (pw_or (pt_not (pt_val (pkG N37' hr (by omega) hgd (pa_cons (pv 6) (pa_cons (pv 7) pa_nil))))) (pw_or1 (pt_cmpR (op_neO (E := L2.E0) cE B.ne B.B.c4 (FE.mono (by omega : 1 ≤ 11)) hr pass0) (pv 6) (pe_cmeth (pl := ?pl1) (pe_glob (v := .ref C) (by rfl) B.B.mB rfl) rO cmO (FOf.mono (by omega : 7 ≤ 12)) hr pass0 (pa_cons (pv 7) pa_nil)) (by with_unfolding_all rfl)))).pt (pss_one (ps_ret pe_bl)) pss_nil)
        (pss_one (ps_if (pt_cmpR (op_eqO (E := L2.E0) cE (FE.mono (by omega : 1 ≤ 12)) hr pass0) (pe_makeKs (E := L2.E0) (ks := ["a"]) M FI (hr.mono (by omega)) (by rfl) B.B.mB pass0 (pk_cons (pe_tup (pa_cons pe_int (pa_cons (pe_tup (pa_cons pe_str pa_nil)) pa_nil))) pk_nil)) (pe_makeKs (E := L2.E0) (ks := ["a"]) M FI (hr.mono (by omega)) (by rfl) B.B.mB pass0 (pk_cons (pe_tup (pa_cons pe_int (pa_cons (pe_tup (pa_cons pe_str pa_nil)) pa_nil))) pk_nil)) (by with_unfolding_all rfl)) (pss_one (ps_ret pe_bl)) pss_nil))))))))))
      (pss_one (ps_ret (pkG N37' hr (by omega) hgd (pa_cons (pe_cmeth (pl := ?pl2) (pe_glob (v := .ref C) (by rfl) B.B.mB rfl) rO cmO (FOf.mono (by omega : 7 ≤ 12)) hr pass0 (pa_cons (pe_disp (pps_cons pe_str (pe_tup (pa_cons pe_int (pa_cons (pe_tup (pa_cons pe_str (pa_cons pe_str pa_nil))) pa_nil))) pps_nil) (by rfl) (by rfl) (by simp) (by decide)) pa_nil)) (pa_cons (pe_disp (pps_cons pe_str (pe_tup (pa_cons pe_int (pa_cons (pe_tup (pa_cons pe_str (pa_cons pe_str pa_nil))) pa_nil))) pps_nil) (by rfl) (by rfl) (by simp) (by decide)) pa_nil))))), ?_⟩
    refine ⟨.ref a, rfl, .ref a, _, rfl, .inl ⟨_, hs, rfl⟩, 4, _, rfl, 1, _, rfl, _, rfl, ?_, ?_, ?_⟩
    · split <;> split <;> omega
    · split <;> split <;> omega
    refine for_it (walk_range (lo := 0) (n := _)) (fun i σ G => ∃ s1 s2 s3 s4 s5 s6 s7 : Option V, σ = [some (.ref a), s1, s2, s3, s4, s5, s6, s7] ∧ Same (vt H) G ∧ Tabs T G) ⟨none, none, none, none, none, none, none, rfl, vt_self H, hT⟩ (fun _ _ _ _ _ => True.intro) (fun i x σ G0 Gx hi hP hy => ?_) fun σ G hP => ?_
    · obtain ⟨s1, s2, s3, s4, s5, s6, s7, rfl, S, TG⟩ := hP
      obtain ⟨rfl, rfl⟩ := hy
      refine ⟨.ref a, rfl, .int (0 + (i : Int)), rfl, a, ns, i, by rw [Int.zero_add], SqL.ext (sqL_vt hs) S, fun p G1 np sp d1 => ?_⟩
      have R1 := RS.refl d1 (tabs_same TG sp)
      refine ⟨2, rfl, by decide, by decide, ?_⟩
      refine for_it (walk_range (lo := 0) (n := (2 : Int).toNat)) (fun j σ G' => ∃ t3 : Option V, σ = [some (.ref a), some (.int (0 + (i : Int))), some (.ref p), t3, s4, s5, s6, s7] ∧ RS T p G1 G') ⟨s3, rfl, R1⟩ (fun _ _ _ _ _ => True.intro) (fun j x σ Ga Gb hj hP hy => ?_) fun σ Ga hP => ?_
      · obtain ⟨t3, rfl, R⟩ := hP
        obtain ⟨rfl, rfl⟩ := hy
        exact ⟨.ref p, rfl, p, rfl, R.dc, R.tb, fun G3 s3' d3 t3' => ⟨true, rfl, iteF ⟨_, rfl, ⟨(vw_vw R.s).trans s3', d3, t3'⟩⟩⟩⟩
      obtain ⟨t3, rfl, R⟩ := hP
      refine ⟨.ref p, rfl, .ref p, rfl, p, 3, rfl, R.dc, by decide, by decide, fun r G4 b4 d4 r0 r1 => ⟨1, r, rfl, rfl, p, (1 + r).toNat, by rw [show (((1 + r).toNat : Nat) : Int) = 1 + r by omega], d4, by omega, fun l G5 xs nl b5 d5 hl el en ea => ⟨l, xs, rfl, sql hl, by omega, fun ys l2 py sy nl2 => ⟨l2, _, rfl, .inl ⟨sql upd_same, fun ta nta => ?_⟩⟩⟩⟩⟩
      have R5 := (R.but b4 d4).but b5 d5
      have sT := (Same.new (o := .lst (ys.map V.str)) nl2).put (o := .tup (ys.map V.str)) nta
      have R6 := R5.same sT
      have neta : ta ≠ p := ne_p (R5.same (Same.new (o := .lst (ys.map V.str)) nl2)).dc nta
      have yl := py.length_eq
      have yan : ∀ x ∈ ys, Ans x := fun x hx => ea x (py.mem_iff.mp hx)
      have yas : Asc ys := nf_asc (sorted_nf sy) (py.nodup_iff.mpr en)
      refine ⟨.ref p, rfl, p, 3, rfl, R6.dc, by decide, by decide, fun t G7 b7 d7 t0 t1 => ?_⟩
      have R7 := R6.but b7 d7
      have hta := b7 _ _ (upd_same (H := upd G5 l2 (.lst (ys.map V.str))) (a := ta) (o := .tup (ys.map V.str))) neta
      have ok3 : BdOk (bd3 t ys) := bd3_ok t0 (by omega) (by omega) (by omega) yan yas
      refine ⟨.int t, rfl, .ref ta, rfl, z_le 2, fun v1 n1 => ⟨.int t, rfl, 2, t, rfl, rfl, z_le 1, fun v2 n2 => ⟨z_le 2, fun v3 n3 => ⟨.ref ta, rfl, z_le 2, fun v4 n4 => ⟨rfl, ?_⟩⟩⟩⟩⟩
      have S4 := Same.new (o := .tup [.int 1, .ref ta]) n4
      have S3 := (Same.new (o := .tup [.int (2 - t), .ref v2]) n3).trans S4
      have S2 := (Same.new (o := .tup [.str "ok"]) n2).trans S3
      have S1 := (Same.new (o := .tup [.int t, .ref ta]) n1).trans S2
      have R8 := R7.same S1
      refine mk_newA (kvs := [("look", .ref v1), ("a", .ref v3), ("zzzzzzzz", .ref v4)]) (bd := bd3 t ys) (.cons ⟨rfl, v1, ta, rfl, S2 _ _ upd_same, S1 _ _ hta⟩ (.cons ⟨rfl, v3, v2, rfl, S4 _ _ upd_same, S3 _ _ upd_same⟩ (.cons ⟨rfl, v4, ta, rfl, upd_same, S1 _ _ hta⟩ .nil))) ok3 fun b dx dk G8 bd nb ndk s8 hb8 hd8 pp aa => ?_
      have R9 := R8.same s8
      have hta8 := s8 _ _ (S1 _ _ hta)
      have hBk : BookAt C G8 b bd := ⟨dx, dk, hb8, hd8⟩
      have okb := ok3.perm pp.symm
      refine fun e ne => ⟨.int t, rfl, .ref ta, rfl, z_le 2, fun w1 m1 => ⟨.int t, rfl, 2, t, rfl, rfl, z_le 1, fun w2 m2 => ⟨z_le 2, fun w3 m3 => ⟨.ref ta, rfl, z_le 2, fun w4 m4 => ?_⟩⟩⟩⟩
      have Z4 := Same.new (o := .tup [.int 1, .ref ta]) m4
      have Z3 := (Same.new (o := .tup [.int (2 - t), .ref w2]) m3).trans Z4
      have Z2 := (Same.new (o := .tup [.str "ok"]) m2).trans Z3
      have Z1 := (Same.new (o := .tup [.int t, .ref ta]) m1).trans Z2
      have Z0 := (Same.new (o := .dK []) ne).trans Z1
      have heE := Z1 _ _ (upd_same (H := G8) (a := e) (o := .dK []))
      have tE : ∀ {G : Hp} {o : HO}, G e = some (.dK []) → Tps G (upd G e o) := fun {G o} h c xs hc => by
        rw [upd_ne (fun z => by rw [z, h] at hc; cases hc)]
        exact hc
      refine ⟨heE, [(Sum.inr "look", .ref w1), (Sum.inr "a", .ref w3), (Sum.inr "zzzzzzzz", .ref w4)], rfl, by show 3 ≤ 15; decide, ?_⟩
      have hkv : KvAt (upd (upd (upd (upd (upd G8 e (.dK [])) w1 (.tup [.int t, .ref ta])) w2 (.tup [.str "ok"])) w3 (.tup [.int (2 - t), .ref w2])) w4 (.tup [.int 1, .ref ta])) [(Sum.inr "look", .ref w1), (Sum.inr "a", .ref w3), (Sum.inr "zzzzzzzz", .ref w4)] (bd3 t ys) := .cons ⟨rfl, w1, ta, rfl, Z2 _ _ upd_same, Z0 _ _ hta8⟩ (.cons ⟨rfl, w3, w2, rfl, Z4 _ _ upd_same, Z3 _ _ upd_same⟩ (.cons ⟨rfl, w4, ta, rfl, upd_same, Z0 _ _ hta8⟩ .nil))
      have hdue : DictAt (upd (upd (upd (upd (upd (upd G8 e (.dK [])) w1 (.tup [.int t, .ref ta])) w2 (.tup [.str "ok"])) w3 (.tup [.int (2 - t), .ref w2])) w4 (.tup [.int 1, .ref ta])) e (.dK (mergeK [] [(Sum.inr "look", .ref w1), (Sum.inr "a", .ref w3), (Sum.inr "zzzzzzzz", .ref w4)]))) e (bd3 t ys) := by
        have k := (hkv.tps (tE (o := .dK (mergeK [] [(Sum.inr "look", .ref w1), (Sum.inr "a", .ref w3), (Sum.inr "zzzzzzzz", .ref w4)])) heE)).mrg (.nil : KvAt _ [] [])
        rw [mrg_nil (show (keys ([] ++ bd3 t ys)).Nodup from ok3.nd)] at k
        exact ⟨_, upd_same, k⟩
      have sD : Same G8 _ := Z0.chg (o := .dK (mergeK [] [(Sum.inr "look", .ref w1), (Sum.inr "a", .ref w3), (Sum.inr "zzzzzzzz", .ref w4)])) ne
      have R10 := R9.same sD
      refine ⟨.ref b, rfl, .ref e, rfl, b, bd, e, bd3 t ys, rfl, hBk.same sD, hdue, okb, pp, aa, fun G11 s11 => ⟨true, rfl, iteF ?_⟩⟩
      have R11 := R10.same s11
      refine ⟨.ref b, rfl, rfl, .ref e, rfl, e, bd3 t ys, rfl, hdue.same s11, ok3, fun b2 dx2 dk2 G12 bd2 nb2 ndk2 s12 hb12 hd12 pp2 aa2 => ?_⟩
      have R12 := R11.same s12
      have hB2 : BookAt C G12 b2 bd2 := ⟨dx2, dk2, hb12, hd12⟩
      have hB1 := ((hBk.same sD).same s11).same s12
      refine ⟨hB1.insO, ⟨.ref C, B.B.ty hB2, B.nC⟩, .inl ⟨b, bd, b2, bd2, rfl, hB1, hB2, okb, ok3.perm pp2.symm, fun G13 s13 => ⟨_, rfl, _, rfl, ?_⟩⟩⟩
      rw [perm_sameB (ok3.perm pp2.symm).nd (pp.trans pp2.symm)]
      refine iteF ?_
      have R13 := R12.same s13
      refine ⟨z_le 1, fun u1 k1 => ⟨z_le 2, fun u2 k2 => ⟨rfl, ?_⟩⟩⟩
      have Y1 := (Same.new (o := .tup [.str "ok"]) k1).put (o := .tup [.int 0, .ref u1]) k2
      refine mk_newA (kvs := [("a", .ref u2)]) (bd := bdA 0) (.cons ⟨rfl, u2, u1, rfl, upd_same, (Same.new k2) _ _ upd_same⟩ .nil) (bdA_ok (by decide) (by decide)) fun b3 dx3 dk3 G14 bd3' nb3 ndk3 s14 hb14 hd14 pp3 aa3 => ?_
      have R14 := (R13.same Y1).same s14
      refine ⟨z_le 1, fun u3 k3 => ⟨z_le 2, fun u4 k4 => ⟨rfl, ?_⟩⟩⟩
      have Y2 := (Same.new (o := .tup [.str "ok"]) k3).put (o := .tup [.int 1, .ref u3]) k4
      refine mk_newA (kvs := [("a", .ref u4)]) (bd := bdA 1) (.cons ⟨rfl, u4, u3, rfl, upd_same, (Same.new k4) _ _ upd_same⟩ .nil) (bdA_ok (by decide) (by decide)) fun b4' dx4 dk4 G15 bd4 nb4 ndk4 s15 hb15 hd15 pp4 aa4 => ?_
      have R15 := (R14.same Y2).same s15
      have hB3 : BookAt C G14 b3 bd3' := ⟨dx3, dk3, hb14, hd14⟩
      have hB4 : BookAt C G15 b4' bd4 := ⟨dx4, dk4, hb15, hd15⟩
      have hB3' := (hB3.same Y2).same s15
      have okA0 := (bdA_ok (t := 0) (by decide) (by decide)).perm pp3.symm
      have okA1 := (bdA_ok (t := 1) (by decide) (by decide)).perm pp4.symm
      refine ⟨hB3'.insO, ⟨.ref C, B.B.ty hB4, B.nC⟩, .inl ⟨b3, bd3', b4', bd4, rfl, hB3', hB4, okA0, okA1, fun G16 s16 => ⟨_, rfl, ?_⟩⟩⟩
      have eA : sameB bd3' bd4 = false := by
        rw [same_perm okA0.nd okA1.nd pp3 pp4]
        decide +kernel
      rw [eA]
      have R16 := R15.same s16
      have frame : Same (vt H) G16 := fun c o hco => by
        have g0 := S _ _ hco
        have nep : c ≠ p := fun z => by
          rw [z, np] at g0
          cases g0
        exact R16.s _ _ (vw_at (sp _ _ g0) (vt_some hco).2 nep)
      exact iteF ⟨_, _, _, _, _, _, _, rfl, frame, R16.tb⟩
    · obtain ⟨s1, s2, s3, s4, s5, s6, s7, rfl, S, TG⟩ := hP
      have tE : ∀ {G : Hp} {e : Addr} {o : HO}, G e = some (.dK []) → Tps G (upd G e o) := fun {G e o} h c xs hc => by
        rw [upd_ne (fun z => by rw [z, h] at hc; cases hc)]
        exact hc
      refine ⟨rfl, fun e ne => ⟨z_le 2, fun w1 m1 => ⟨z_le 2, fun w2 m2 => ?_⟩⟩⟩
      have Z2 := Same.new (o := .tup [.int 1, .ref w1]) m2
      have Z1 := (Same.new (o := .tup [.str "no", .str "yes"]) m1).trans Z2
      have heE := Z1 _ _ (upd_same (H := G) (a := e) (o := .dK []))
      refine ⟨heE, [(Sum.inr "self", .ref w2)], rfl, by show 1 ≤ 15; decide, e, bdS, rfl, ?_, bdS_ok, fun b dx dk G1 bd nb ndk s1 hb1 hd1 pp aa => ?_⟩
      · have hkv : KvAt (upd (upd (upd G e (.dK [])) w1 (.tup [.str "no", .str "yes"])) w2 (.tup [.int 1, .ref w1])) [(Sum.inr "self", .ref w2)] bdS := .cons ⟨rfl, w2, w1, rfl, upd_same, Z2 _ _ upd_same⟩ .nil
        have k := (hkv.tps (tE (o := .dK (mergeK [] [(Sum.inr "self", .ref w2)])) heE)).mrg (.nil : KvAt _ [] [])
        rw [mrg_nil (show (keys ([] ++ bdS)).Nodup from bdS_ok.nd)] at k
        exact ⟨_, upd_same, k⟩
      have hBk : BookAt C G1 b bd := ⟨dx, dk, hb1, hd1⟩
      refine fun e2 ne2 => ⟨z_le 2, fun w3 m3 => ⟨z_le 2, fun w4 m4 => ?_⟩⟩
      have Y2 := Same.new (o := .tup [.int 1, .ref w3]) m4
      have Y1 := (Same.new (o := .tup [.str "no", .str "yes"]) m3).trans Y2
      have Y0 := (Same.new (o := .dK []) ne2).trans Y1
      have heE2 := Y1 _ _ (upd_same (H := G1) (a := e2) (o := .dK []))
      refine ⟨heE2, [(Sum.inr "self", .ref w4)], rfl, by show 1 ≤ 15; decide, b, bd, e2, bdS, rfl, ?_, ?_, bdS_ok.perm pp.symm, pp, aa, fun G2 s2 => q G2⟩
      · exact hBk.same (Y0.chg (o := .dK (mergeK [] [(Sum.inr "self", .ref w4)])) ne2)
      · have hkv : KvAt (upd (upd (upd G1 e2 (.dK [])) w3 (.tup [.str "no", .str "yes"])) w4 (.tup [.int 1, .ref w3])) [(Sum.inr "self", .ref w4)] bdS := .cons ⟨rfl, w4, w3, rfl, upd_same, Y2 _ _ upd_same⟩ .nil
        have k := (hkv.tps (tE (o := .dK (mergeK [] [(Sum.inr "self", .ref w4)])) heE2)).mrg (.nil : KvAt _ [] [])
        rw [mrg_nil (show (keys ([] ++ bdS)).Nodup from bdS_ok.nd)] at k
        exact ⟨_, upd_same, k⟩
end
end Bk
end
section
set_option Elab.async false
set_option linter.all false
set_option maxRecDepth 100000
set_option maxHeartbeats 4000000
set_option pp.maxSteps 600
/-! The law's call: from a promise that needs the guards, with tables of code objects. -/
namespace BkE
open PySem PySem.Spec PyProof.Rows L2 LamX Bk
section
variable {P : Program} {w : World} {K : PySem.W.Frag} {mg mb : Str → Option Value} {k : Nat} {fa a : Addr} {cs : List (Addr × Addr)} {fd : FuncData} {x : Str} {sp : Sp} {s : Shared} {vs : List Value} {ns : List Int}
abbrev lstO (vs : List Value) : Obj := { cls := .type "list", data := .seq vs.toArray }
abbrev tabO : Obj := { cls := .none, data := .fields #[] }
/-- what is tracked as the law begins: the tables, and the script where the written part has it not -/
structure Ent (K : PySem.W.Frag) (cs : List (Addr × Addr)) (a : Addr) (vs : List Value) (ns : List Int) (H : Hp) : Prop where
  tab : ∀ p ∈ cs, H p.2 = some (.tbl #[])
  one : ∀ b u, H b = some u → (u = .tbl #[] ∧ b ∈ cs.map (·.2)) ∨ (u = .frz (lstO vs) (.lst (ns.map V.int)) ∧ b = a ∧ K.lookup a = none)
theorem ent_of (aT : a ∉ cs.map (·.2)) : ∃ H, Ent K cs a vs ns H ∧ (K.lookup a = none → H a = some (.frz (lstO vs) (.lst (ns.map V.int)))) := by
  cases hk : K.lookup a with
  | some o =>
    refine ⟨fun b => if b ∈ cs.map (·.2) then some (.tbl #[]) else none, ⟨fun p hp => if_pos (List.mem_map.mpr ⟨p, hp, rfl⟩), fun b u h => ?_⟩, fun z => by cases z⟩
    by_cases hb : b ∈ cs.map (·.2)
    · rw [if_pos hb] at h
      cases h
      exact .inl ⟨rfl, hb⟩
    · rw [if_neg hb] at h
      cases h
  | none =>
    refine ⟨fun b => if b ∈ cs.map (·.2) then some (.tbl #[]) else if b = a then some (.frz (lstO vs) (.lst (ns.map V.int))) else none, ⟨fun p hp => if_pos (List.mem_map.mpr ⟨p, hp, rfl⟩), fun b u h => ?_⟩, fun _ => ?_⟩
    · by_cases hb : b ∈ cs.map (·.2)
      · rw [if_pos hb] at h
        cases h
        exact .inl ⟨rfl, hb⟩
      · rw [if_neg hb] at h
        by_cases he : b = a
        · rw [if_pos he] at h
          cases h
          exact .inr ⟨rfl, he, hk⟩
        · rw [if_neg he] at h
          cases h
    · show (if a ∈ cs.map (·.2) then _ else if a = a then _ else _) = _
      rw [if_neg aT, if_pos rfl]
section
variable {H : Hp} (hT : ∀ p ∈ cs, s.heap.get? p.2 = some tabO) (ha : s.heap.get? a = some (lstO vs)) (e : Ent K cs a vs ns H)
include hT ha e
theorem tab_at {b : Addr} (hb : b ∈ cs.map (·.2)) : s.heap.get? b = some tabO := by
  obtain ⟨p, hp, rfl⟩ := List.mem_map.mp hb
  exact hT p hp
/-- an object that is neither the script nor a table is not tracked -/
theorem free_of {b : Addr} {o : Obj} (h : s.heap.get? b = some o) (n1 : o ≠ lstO vs) (n2 : o ≠ tabO) : H b = none := by
  cases q : H b with
  | none => rfl
  | some u =>
    rcases e.one b u q with ⟨_, hb⟩ | ⟨_, rfl, _⟩
    · rw [tab_at hT ha e hb] at h
      exact absurd (Option.some.inj h).symm n2
    · rw [ha] at h
      exact absurd (Option.some.inj h).symm n1
theorem hidden {b : Addr} {o : Obj} (h : s.heap.get? b = some o) (n1 : o ≠ lstO vs) (n2 : o ≠ tabO) : (hidT s.heap H).get? b = some o := hidT_get h (free_of hT ha e h n1 n2)
theorem ns_hid {b : Addr} {m : Str → Option Value} (h : s.heap.Ns b m) : (hidT s.heap H).Ns b m := by
  obtain ⟨o, es, ep, h1, h2, h3⟩ := h
  refine ⟨o, es, ep, hidden hT ha e h1 (fun z => ?_) (fun z => ?_), h2, h3⟩
  · rw [z] at h2
    cases h2
  · rw [z] at h2
    cases h2
end
theorem law_callG (KX : K.In s.heap) (hns : s.heap.Ns mainGlobals mg) (hb : s.heap.Ns builtinsNs mb) (hbb : ∀ x : Str, x ≠ "__name__" → mb x = bootBuiltins x) (hlim : s.heap.NoLimit) (hg : s.gens = #[])
    (hT : ∀ p ∈ cs, s.heap.get? p.2 = some tabO) (nT : ∀ p ∈ cs, K.lookup p.2 = none) (C : ∀ p ∈ cs, PySem.W.CodeHd s.heap p.1 p.2)
    (hbm : ∃ (bm : Addr) (ob : Obj), mg "__builtins__" = some (.ref bm) ∧ bm ≠ builtinsNs ∧ s.heap.get? bm = some ob ∧ ob.cls = .type "module" ∧ ob.dict = some builtinsNs ∧ ob.data = .plain)
    (ha : s.heap.get? a = some (lstO vs)) (hi : IntsAre vs ns) (hl : ns.length ≤ sizeLine) (hr : Room k callerA)
    (F : ∀ base : Heap, K.In base → base.Ns mainGlobals mg → (∀ p ∈ cs, TabB base mg p.1 p.2) → FnG P w K mg base k fa fd [x] sp) (hbind : ∀ (s : Shared) (u : Value), BindsTo s fd ⟨[u], []⟩ [(x, u)])
    (hsp : ∀ H : Hp, (∀ p ∈ cs, H p.2 = some (.tbl #[])) → SqL K H a (ns.map V.int) → sp [.ref a] H (fun v _ => v = .bl true) fun _ _ _ => False) :
    codeAny (model P w) callerA (.call (.ref fa) ⟨[.ref a], []⟩) (fun r s' => r = .ok (.ret (.bool true)) ∧ OldK s.heap s'.heap ∧ s'.os = s.os ∧ AllBare s'.gens) s := by
  have rv := vals_ints hi
  have lenV := hi.length
  have aT : a ∉ cs.map (·.2) := fun z => by
    obtain ⟨p, hp, e⟩ := List.mem_map.mp z
    have h1 := hT p hp
    rw [e, ha] at h1
    have := congrArg Obj.data (Option.some.inj h1)
    cases this
  obtain ⟨H, e, hHa⟩ := ent_of (K := K) (vs := vs) (ns := ns) aT
  have hok : HOk P w H s.heap := fun b u q => by
    rcases e.one b u q with ⟨rfl, hb⟩ | ⟨rfl, rfl, _⟩
    · exact tab_at hT ha e hb
    · exact ⟨ha, by rw [List.length_map]; exact hl, vs, _, rv, ha⟩
  have hKb : K.In (hidT s.heap H) := fun b o h => by
    refine hidT_get (KX b o h) ?_
    cases q : H b with
    | none => rfl
    | some u =>
      rcases e.one b u q with ⟨_, hb⟩ | ⟨_, rfl, hk⟩
      · obtain ⟨p, hp, rfl⟩ := List.mem_map.mp hb
        rw [nT p hp] at h
        cases h
      · rw [hk] at h
        cases h
  have hSq : SqL K H a (ns.map V.int) := by
    cases hk : K.lookup a with
    | none => exact .inl (.inr ⟨_, hHa hk⟩)
    | some o =>
      have h := KX a o hk
      rw [ha] at h
      cases h
      exact .inr ⟨_, vs.toArray, _, hk, rfl, rfl, rfl, by rw [List.size_toArray, lenV]; exact hl, by simpa using rv⟩
  have hM : L2.Mod K mg (hidT s.heap H) := by
    refine ⟨hKb, ns_hid hT ha e hns, ⟨mb, ns_hid hT ha e hb, hbb⟩, ?_⟩
    obtain ⟨mc, h1, h2⟩ := hlim
    exact ⟨mc, ns_hid hT ha e h1, h2⟩
  have hTB : ∀ p ∈ cs, TabB (hidT s.heap H) mg p.1 p.2 := fun p hp => by
    have hTp := hT p hp
    refine ⟨?_, ?_, fun z => ?_⟩
    · obtain ⟨o, us, file, tf, flags, tg, inF, text, tt, e1, r1, r2, r3, rest⟩ := C p hp
      refine ⟨o, us, file, tf, flags, tg, inF, text, tt, hidden hT ha e e1 (fun z => ?_) (fun z => ?_), r1, r2, r3, rest⟩
      · rw [z] at r2
        cases r2
      · rw [z] at r2
        have r2 : Data.fields #[] = Data.fields us := r2
        cases r2
        simp at r3
    · obtain ⟨bm, ob, b1, b2, b3, b4, b5, b6⟩ := hbm
      have n1 : ob ≠ lstO vs := fun z => by
        rw [z] at b6
        cases b6
      have n2 : ob ≠ tabO := fun z => by
        rw [z] at b6
        cases b6
      refine ⟨bm, ob, b1, b2, fun z => ?_, fun z => ?_, hidden hT ha e b3 n1 n2, b4, b5, b6⟩
      · obtain ⟨o, es, ep, h1, h2, _⟩ := hns
        rw [← z, b3] at h1
        cases h1
        rw [b6] at h2
        cases h2
      · rw [z, hTp] at b3
        exact n2 (Option.some.inj b3).symm
    · obtain ⟨o, es, ep, h1, h2, _⟩ := hns
      rw [z, hTp] at h1
      cases h1
      cases h2
  have e0 : Env0 P w K mg (hidT s.heap H) callerA [] s H := ⟨rfl, hM, fun b o h => of_hidT h, Nat.le_of_eq (hidT_size _ _), trivial, (fun b hb => absurd (show b ∈ ([] : List Addr) from hb) (by simp)), hok, .of_eq hg⟩
  refine codeAny_mono ((F _ hKb (ns_hid hT ha e hns) hTB).run callerA [] s H ⟨[.ref a], []⟩ [.ref a] [.ref a] _ _ hr rfl e0 (hbind s (.ref a)) (.cons rfl .nil) (hsp H e.tab hSq)) fun r s' h => ?_
  cases r with
  | error er => exact (show False from h).elim
  | ok fl =>
    cases fl with
    | next => exact (show False from h).elim
    | brk => exact (show False from h).elim
    | cont => exact (show False from h).elim
    | ret u =>
      obtain ⟨v, H', os, bare, un, hok', ru, ev⟩ := h
      obtain rfl : v = .bl true := ev
      obtain rfl : u = Value.bool true := ru
      have grown : ∀ b, b ∈ cs.map (·.2) → ∃ more : Array Value, s'.heap.get? b = some { cls := .none, data := .fields more } := fun b hb => by
        obtain ⟨p, hp, rfl⟩ := List.mem_map.mp hb
        obtain ⟨more, z⟩ := un.tbls p.2 #[] (e.tab p hp)
        exact ⟨_, hok' p.2 _ z⟩
      have kept : ∀ b o, b ∉ cs.map (·.2) → s.heap.get? b = some o → s'.heap.get? b = some o := fun b o nb h => by
        cases q : H b with
        | none => exact un.keep b o h q (fun z => absurd (show b ∈ ([] : List Addr) from z) (by simp)) (by simp)
        | some u =>
          rcases e.one b u q with ⟨_, hb⟩ | ⟨rfl, rfl, _⟩
          · exact absurd hb nb
          · have z := (hok' b _ (un.frzs b _ _ q)).1
            rw [ha] at h
            cases h
            exact z
      refine ⟨rfl, ⟨fun b o h => ?_, fun b o h => ?_⟩, os, bare⟩
      · by_cases hb : b ∈ cs.map (·.2)
        · obtain ⟨more, hm⟩ := grown b hb
          have ht := tab_at hT ha e hb
          obtain ⟨p, hp, rfl⟩ := List.mem_map.mp hb
          rw [ht] at h
          cases h
          exact .inr (.inl ⟨((C p hp).tab ht).isCodeTable, rfl, #[], more, rfl, by rw [Array.empty_append]; exact hm⟩)
        · exact .inl (kept b o hb h)
      · by_cases hb : b ∈ cs.map (·.2)
        · exact let ⟨more, hm⟩ := grown b hb; ⟨_, hm⟩
        · exact ⟨o, kept b o hb h⟩
end
end BkE
end
section
set_option Elab.async false
set_option linter.all false
set_option maxRecDepth 100000
set_option maxHeartbeats 0
set_option pp.maxSteps 600
/-! What the top leaves: facts, defs, tables. -/
namespace Bk
open PySem PySem.Spec PyProof.Rows L2
abbrev R : PySem.W.OpenRow := PySem.W.OpenLaw.row PySem.Challenge.rw_skipahead_k02_whole_books_as_values
/-- a def of the top; a method -/
def gd (i : Nat) (x : Str) : He.DefD := ⟨(x, none), x, x, defArgs (top i), defBody (top i), defScope (top i), [], []⟩
def gm (j : Nat) (m q : Str) : He.DefD := ⟨("Book", some m), m, q, defArgs (meth j), defBody (meth j), defScope (meth j), [], []⟩
def fnL : List He.DefD := [gd 4 "is_name", gd 5 "is_answer", gd 6 "is_integer", gd 7 "are_ascending", gd 18 "is_pair", gd 19 "pairs_of", gd 21 "is_command", gd 22 "outcomes_in", gd 23 "require_book", gd 24 "require_command",
  gd 26 "_law_dice", gd 27 "_law_roll", gd 28 "_law_one_of", gd 29 "_law_mixed", gd 30 "_law_name", gd 31 "_law_names", gd 32 "_law_pairs", gd 33 "_law_outcomes", gd 34 "_law_odd", gd 35 "_law_met", gd 36 "_law_told", gd 37 "_law_is_right",
  gd 38 "_law_stranger", gd 39 "_law_second", gd 40 "_law_both_right", gd 41 "_law_right", gd 42 "law",
  gm 3 "takes" "Book.takes", gm 4 "answers" "Book.answers", gm 5 "outcomes" "Book.outcomes", gm 6 "without" "Book.without", gm 7 "is_within" "Book.is_within", gm 8 "__or__" "Book.__or__", gm 9 "__getitem__" "Book.__getitem__",
  gm 10 "__contains__" "Book.__contains__", gm 12 "__len__" "Book.__len__", gm 13 "__eq__" "Book.__eq__", gm 14 "__str__" "Book.__str__", gm 0 "__init__" "Book.__init__",
  ⟨("UnknownName", some "__init__"), "__init__", "UnknownName.__init__", defArgs (inClass (top 12) 0), defBody (inClass (top 12) 0), defScope (inClass (top 12) 0), [], []⟩]
def frees : List Str := ["isinstance", "len", "all", "any", "zip", "sorted", "tuple", "dict", "str", "int", "bool", "list", "range", "max", "min", "abs", "repr"]
def glos : List Str := ["is_name", "is_answer", "is_integer", "are_ascending", "is_pair", "pairs_of", "is_command", "outcomes_in", "require_book", "require_command",
  "_law_dice", "_law_roll", "_law_one_of", "_law_mixed", "_law_name", "_law_names", "_law_pairs", "_law_outcomes", "_law_odd", "_law_met", "_law_told", "_law_is_right", "_law_stranger", "_law_second", "_law_both_right", "_law_right", "law",
  "Book", "InvalidBook", "InvalidOperation", "UnknownName", "RESERVED"]
def faL : List He.Fa := glos.map .glo ++ frees.map .free ++ [.str "LETTERS" letS, .str "FAILED" "failed", .int "MAX_LETTERS" 8, .int "MAX_COMMANDS" 6, .int "MAX_TAKES" 2, .int "MAX_ANSWERS" 3,
  .cls "Book", .noat "Book" oF, .mkr "Book", .meth "Book" "takes", .meth "Book" "answers", .meth "Book" "outcomes", .meth "Book" "without", .meth "Book" "is_within",
  .exc "InvalidBook", .exc "InvalidOperation", .noat "UnknownName" "name"]
def tfL : List He.Defn := [("_law_stranger", none), ("_law_both_right", none), ("_law_right", none)]
abbrev gB (K : PySem.W.Frag) : Addr := He.ga K "Book"
abbrev gI (K : PySem.W.Frag) : Addr := He.ga K "InvalidBook"
abbrev gO (K : PySem.W.Frag) : Addr := He.ga K "InvalidOperation"
abbrev gU (K : PySem.W.Frag) : Addr := He.ga K "UnknownName"
def spcB (K : PySem.W.Frag) (n : Str) : Bool := decide (PySem.W.findIn K (.ref (gB K)) n = some (some (.ref (He.ma K (gB K) n)))) && (PySem.W.isFn K (.ref (He.ma K (gB K) n)) && PySem.W.fnIn K (He.ma K (gB K) n))
/-- the def under the classmethod, under the property -/
def pOf (K : PySem.W.Frag) : Addr := He.ma K (gB K) "of"
def gOf (K : PySem.W.Frag) : Addr := match PySem.W.recIn K (pOf K) "classmethod" with
  | some (.ref g :: _) => g
  | _ => 0
def pCm (K : PySem.W.Frag) : Addr := He.ma K (gB K) "commands"
def gCm (K : PySem.W.Frag) : Addr := match PySem.W.recIn K (pCm K) "property" with
  | some (.ref g :: _) => g
  | _ => 0
def fnA (K : PySem.W.Frag) (a : Addr) : He.FnW := match K.lookup a with
  | some ⟨_, _, .func fd, _⟩ => some (fd.name, fd.qualname, fd.params, fd.body, fd.scope, fd.globals, fd.closure, fd.builtins)
  | _ => none
def okA (K : PySem.W.Frag) (a : Addr) (q : Str) : Bool := PySem.W.keepIn K (.ref a) && (match K.lookup a with
  | some ⟨_, _, .func fd, _⟩ => PySem.W.codeIn K fd.code q && (He.dflB K fd.defaults [] && He.kwdB K fd.kwdefaults [])
  | _ => false)
def moreL (K : PySem.W.Frag) : List He.FnW := [fnA K (gOf K), fnA K (gCm K)]
def moreV : List He.FnW := [some ("of", "Book.of", defArgs (meth 1), .stmts (defBody (meth 1)), defScope (meth 1), mainGlobals, [], builtinsNs), some ("commands", "Book.commands", defArgs (meth 2), .stmts (defBody (meth 2)), defScope (meth 2), mainGlobals, [], builtinsNs)]
def resB (K : PySem.W.Frag) : Bool := match K.lookup (He.ga K "RESERVED") with
  | some ⟨.type "tuple", _, .seq its _, _⟩ => (match its.toList with
    | [.str a _, .str b _, .str c _, .str d _] => decide ([a, b, c, d] = resv)
    | _ => false)
  | _ => false
def mcOf (K : PySem.W.Frag) : Value := .type "type"
def cmB (K : PySem.W.Frag) : Bool := match PySem.W.findCls K (.ref (gB K)) (mcOf K) "of" with
  | some (.get g a o t) => decide (g = .builtin "classmethod.__get__") && (decide (a = .ref (pOf K)) && (decide (o = .none) && decide (t = .ref (gB K))))
  | _ => false
/-- the rest of what is to be known, one by one -/
def exL (K : PySem.W.Frag) : List Bool := [
  decide (PySem.W.findIn K (.ref (gB K)) "__class__" = some (some (.builtin "object.__class__"))),
  decide (PySem.W.specialIn K (.builtin "object.__class__") "__get__" = some (some (.builtin "getset_descriptor.__get__"))),
  decide (PySem.W.takesIn K (.builtin "object.__class__") = some true),
  decide (PySem.W.mroIn K (gB K) (.type "object") = some true),
  decide (PySem.W.kitOne K (.ref (gB K)) (.ref (gB K)) = some true),
  ("str" :: TL).all fun T => decide (PySem.W.kitOne K (.type T) (.ref (gB K)) = some false),
  decide (PySem.W.exmOne K (.ref (gI K)) (.ref (gI K)) = some true), decide (PySem.W.exmOne K (.ref (gO K)) (.ref (gI K)) = some false), decide (PySem.W.exmOne K (.ref (gO K)) (.ref (gO K)) = some true),
  decide (PySem.W.exmOne K (.ref (gU K)) (.ref (gI K)) = some false), decide (PySem.W.exmOne K (.ref (gU K)) (.ref (gO K)) = some false), decide (PySem.W.exmOne K (.ref (gU K)) (.ref (gU K)) = some true),
  kxB K (gU K),
  decide (PySem.W.findIn K (.ref (gU K)) "__init__" = some (some (.ref (He.ma K (gU K) "__init__")))),
  decide (PySem.W.typeIn K (.ref (He.ma K (gU K) "__init__")) = some (.type "function")),
  spcB K "__or__", spcB K "__getitem__", spcB K "__contains__", spcB K "__len__", spcB K "__eq__", spcB K "__str__",
  decide (PySem.W.findIn K (.ref (gB K)) "commands" = some (some (.ref (pCm K)))), decide (PySem.W.specialIn K (.ref (pCm K)) "__get__" = some (some (.builtin "property.__get__"))), decide (PySem.W.takesIn K (.ref (pCm K)) = some true),
  (match PySem.W.recIn K (pCm K) "property" with | some (.ref _ :: _) => true | _ => false),
  PySem.W.readsIn K (gB K) (mcOf K), decide (PySem.W.specialIn K (.ref (gB K)) "__getattribute__" = some (some (.builtin "type.__getattribute__"))),
  (match PySem.W.recIn K (pOf K) "classmethod" with | some (.ref _ :: _) => true | _ => false), PySem.W.fnIn K (gOf K),
  okA K (gOf K) "Book.of", okA K (gCm K) "Book.commands",
  decide (PySem.W.findIn K (.ref (gB K)) "__ne__" = some (some (.builtin "object.__ne__"))),
  ("str" :: TL).all fun T => PySem.W.notFirst K (gB K) (.type T), PySem.W.notFirst K (gB K) (.ref (gB K)), PySem.W.selfFirst K (gB K),
  decide (PySem.W.findIn K (.ref (gB K)) "__ror__" = some none),
  ("str" :: TL).all fun T => (PySem.W.findIn K (.type T) "__or__").isSome && ((PySem.W.findIn K (.type T) "__ror__").isSome && decide (PySem.W.subIn K (.type T) (.ref (gB K)) = some false)),
  resB K, xfB K (gU K), cmB K,
  decide ((He.cT K ("_law_stranger", none)).2 ≠ (He.cT K ("_law_both_right", none)).2), decide ((He.cT K ("_law_stranger", none)).2 ≠ (He.cT K ("_law_right", none)).2), decide ((He.cT K ("_law_both_right", none)).2 ≠ (He.cT K ("_law_right", none)).2)]
/-- what is looked at: the module's names, six steps deep, and the dict of the machine's statics -/
def asY (g : Addr → Option Obj) : List Addr := cStatics :: He.asD g 6
abbrev kY (g : Addr → Option Obj) : PySem.W.Frag := He.frT g (asY g)
abbrev AlY : Type := He.AlX × List He.FnW
def obsY (g : Addr → Option Obj) : AlY := ((He.obsT faL fnL [] (kY g), (exL (kY g)).all id && He.tabsB g tfL (kY g)), moreL (kY g))
def valY (w : World) : AlY := (He.valX fnL [] w, moreV)
def SaysY (w : World) (h : Heap) (K : PySem.W.Frag) : Prop := He.SaysX faL fnL [] tfL (fun K => (exL K).all id) w h K ∧ moreL K = moreV
theorem saysY_of {w : World} {h : Heap} (e : obsY h.get? = valY w) : SaysY w h (kY h.get?) := by
  have e1 : He.obsT faL fnL [] (kY h.get?) = He.valT fnL [] w := congrArg (fun z : AlY => z.1.1) e
  have e2 : ((exL (kY h.get?)).all id && He.tabsB h.get? tfL (kY h.get?)) = true := congrArg (fun z : AlY => z.1.2) e
  have e3 : moreL (kY h.get?) = moreV := congrArg (fun z : AlY => z.2) e
  obtain ⟨h1, h2⟩ := Bool.and_eq_true_iff.mp e2
  have key : ∀ p ∈ tfL, PySem.W.codeHdIn (kY h.get?) (He.cT (kY h.get?) p).1 (He.cT (kY h.get?) p).2 = true ∧ ∃ o, h.get? (He.cT (kY h.get?) p).2 = some o ∧ He.emptyTab o = true := fun p hp => by
    obtain ⟨h3, h4⟩ := Bool.and_eq_true_iff.mp (List.all_eq_true.mp h2 p hp)
    refine ⟨h3, ?_⟩
    cases q : h.get? (He.cT (kY h.get?) p).2 with
    | none =>
      rw [q] at h4
      cases h4
    | some o =>
      rw [q] at h4
      exact ⟨o, rfl, h4⟩
  refine ⟨⟨e1, h1, fun p hp => (key p hp).1, fun p hp => ?_, fun p hp => ?_⟩, e3⟩
  · obtain ⟨_, o, q, z⟩ := key p hp
    exact He.frT_none q z
  · obtain ⟨_, o, q, z⟩ := key p hp
    rw [q, He.emptyTab_eq z]
def hookY : PySem.W.Hook where
  α := AlY
  obs := fun s => obsY s.heap.get?
  val := valY
  says := fun w h => ∃ K : PySem.W.Frag, K.In h ∧ SaysY w h K
  of := fun _ _ e => ⟨_, He.frT_in, saysY_of e⟩
  keeps := fun _ _ _ ⟨K, hK, c, m⟩ k => ⟨K, PySem.W.Frag.In.keeps hK k, ⟨c.t, c.more, c.hd, c.out, fun p hp => k _ _ (c.empty p hp)⟩, m⟩
end Bk
end
section
set_option Elab.async false
set_option linter.all false
set_option maxRecDepth 1000000
set_option maxHeartbeats 0
set_option pp.maxSteps 300
/-! The top's run. -/
namespace Bk
open PySem PySem.Spec PyProof.Rows L2
def loose : List Str := (["RESERVED", "LETTERS", "MAX_LETTERS", "is_name", "is_answer", "is_integer", "are_ascending", "AheadError", "InvalidBook", "InvalidOperation", "UnknownName", "MAX_COMMANDS", "MAX_TAKES", "MAX_ANSWERS", "FAILED", "is_pair", "pairs_of", "Book", "is_command", "outcomes_in", "require_book", "require_command"] : List Str) ++ ([
  "_law_dice", "_law_roll", "_law_one_of", "_law_mixed", "_law_name", "_law_names", "_law_pairs", "_law_outcomes", "_law_odd", "_law_met", "_law_told", "_law_is_right", "_law_stranger", "_law_second", "_law_both_right", "_law_right"] : List Str)
noncomputable def ob (s : PySem.W.SharedT) : AlY := obsY (HandSHeadRun.getT s)
theorem ob_eq (s : PySem.W.SharedT) : ob s = hookY.obs s.abs := by
  have e : HandSHeadRun.getT s = s.abs.heap.get? := funext fun a => HandSHeadRun.getT_eq s a
  show obsY (HandSHeadRun.getT s) = obsY s.abs.heap.get?
  rw [e]
theorem run (w : World) : HandSHeadRun.RunEq R (PySem.W.view R.prog [42]) hookY ob 4000 loose w := by
  intro os
  kernel_rfl
end Bk
end
section
set_option Elab.async false
set_option linter.all false
set_option maxRecDepth 100000
set_option maxHeartbeats 4000000
set_option pp.maxSteps 600
/-! The facts taken apart. -/
namespace Bk
open PySem PySem.Spec PyProof.Rows L2 ClX LamX
section
variable {w : World} {h : Heap} {K : PySem.W.Frag} {mg : Str → Option Value}
theorem fun_of {x q : Str} {st : Stmt} {f : Addr} {fd : FuncData} (d : FunD K x q (defArgs st) (defBody st) (defScope st) [] [] f fd) : Fun K x q st f fd := by
  obtain ⟨⟨oc, od, dV, kV, doc, pm, an, cdv, ct, osl, e, lk, hc, h1, h2⟩, kp⟩ := d
  rcases h1 with ⟨_, rfl⟩ | ⟨n, _⟩
  · exact ⟨⟨oc, od, kV, doc, pm, an, cdv, ct, osl, e, lk, hc⟩, kp⟩
  · exact absurd rfl n
theorem gd_fun (c : SaysY w h K) (n i : Nat) {x : Str} (hm : fnL[n]? = some (gd i x) := by rfl) : ∃ fd, Fun K x x (top i) (He.ga K x) fd := by
  obtain ⟨fd, hd⟩ := c.1.t.d.defs (List.mem_of_getElem? hm)
  exact ⟨fd, fun_of hd⟩
theorem gm_fun (c : SaysY w h K) (n j : Nat) {m q : Str} (hm : fnL[n]? = some (gm j m q) := by rfl) : ∃ fd, Fun K m q (meth j) (He.ma K (gB K) m) fd := by
  obtain ⟨fd, hd⟩ := c.1.t.d.defs (List.mem_of_getElem? hm)
  exact ⟨fd, fun_of hd⟩
theorem fa_at (c : SaysY w h K) (n : Nat) {f : He.Fa} (hm : faL[n]? = some f := by rfl) : f.ok K = true := c.1.t.d.facts (List.mem_of_getElem? hm)
theorem ex_at (c : SaysY w h K) (n : Nat) {b : Bool} (hm : (exL K)[n]? = some b := by rfl) : b = true := by
  have := List.all_eq_true.mp c.1.more b (List.mem_of_getElem? hm)
  exact this
end
end Bk
end
section
set_option Elab.async false
set_option linter.all false
set_option maxRecDepth 100000
set_option maxHeartbeats 4000000
set_option pp.maxSteps 600
/-! Tx, Bx. -/
namespace Bk
open PySem PySem.Spec PyProof.Rows L2 ClX LamX
section
variable {w : World} {h base : Heap} {K : PySem.W.Frag} {mg : Str → Option Value}
theorem res_ok (e : resB K = true) : ∀ H, SqT K H (He.ga K "RESERVED") (resv.map V.str) := by
  unfold resB at e
  intro H
  split at e
  · rename_i od its n sl hk
    split at e
    · rename_i a t1 b t2 c t3 d t4 hl
      have e := of_decide_eq_true e
      refine .inr ⟨_, its, n, hk, rfl, rfl, ?_, ?_⟩
      · rw [← Array.length_toList, hl, sizeLine_eq]
        show 4 ≤ _
        omega
      · rw [hl, ← e]
        exact .cons ⟨t1, rfl⟩ (.cons ⟨t2, rfl⟩ (.cons ⟨t3, rfl⟩ (.cons ⟨t4, rfl⟩ .nil)))
    · cases e
  · cases e
theorem tx_ok (c : SaysY w h K) (X : K.In base) (G : base.Ns mainGlobals mg) : Tx K mg :=
  ⟨He.free_ok X G (fa_at c 32), He.free_ok X G (fa_at c 33), He.free_ok X G (fa_at c 34), He.free_ok X G (fa_at c 35), He.free_ok X G (fa_at c 36), He.free_ok X G (fa_at c 37), He.free_ok X G (fa_at c 38), He.free_ok X G (fa_at c 39), He.free_ok X G (fa_at c 40), He.free_ok X G (fa_at c 41),
    He.free_ok X G (fa_at c 42), He.free_ok X G (fa_at c 43), He.free_ok X G (fa_at c 44), He.free_ok X G (fa_at c 45), He.free_ok X G (fa_at c 46), He.free_ok X G (fa_at c 47), He.free_ok X G (fa_at c 48),
    He.str_ok X G (fa_at c 49), ⟨He.ga K "RESERVED", He.glo_ok X G (fa_at c 31), res_ok (ex_at c 37)⟩, He.int_ok X G (fa_at c 51), He.int_ok X G (fa_at c 52), He.int_ok X G (fa_at c 53), He.int_ok X G (fa_at c 54), He.str_ok X G (fa_at c 50)⟩
end
end Bk
end
section
set_option Elab.async false
set_option linter.all false
set_option maxRecDepth 100000
set_option maxHeartbeats 4000000
set_option pp.maxSteps 600
/-! Bx. -/
namespace Bk
open PySem PySem.Spec PyProof.Rows L2 ClX LamX
section
variable {w : World} {h base : Heap} {K : PySem.W.Frag} {mg : Str → Option Value}
abbrev fUn (K : PySem.W.Frag) : Addr := He.ma K (gU K) "__init__"
theorem bx_ok (c : SaysY w h K) (X : K.In base) (G : base.Ns mainGlobals mg) : Bx K mg (gB K) (gI K) (gO K) (gU K) (fUn K) := by
  obtain ⟨i1, i2, i3, i4⟩ := He.exc_ok (fa_at c 63)
  obtain ⟨o1, o2, o3, o4⟩ := He.exc_ok (fa_at c 64)
  exact {
    T := tx_ok c X G
    cls := He.cls_ok (fa_at c 55)
    na := He.noat_ok (fa_at c 56)
    c1 := of_decide_eq_true (ex_at c 0)
    c2 := of_decide_eq_true (ex_at c 1)
    c3 := of_decide_eq_true (ex_at c 2)
    c4 := of_decide_eq_true (ex_at c 3)
    kB := of_decide_eq_true (ex_at c 4)
    kT := fun T hT => of_decide_eq_true (List.all_eq_true.mp (ex_at c 5) T hT)
    mB := He.glo_ok X G (fa_at c 27)
    mI := He.glo_ok X G (fa_at c 28)
    mO := He.glo_ok X G (fa_at c 29)
    mU := He.glo_ok X G (fa_at c 30)
    ex := ⟨of_decide_eq_true (ex_at c 6), of_decide_eq_true (ex_at c 7), of_decide_eq_true (ex_at c 8), of_decide_eq_true (ex_at c 9), of_decide_eq_true (ex_at c 10), of_decide_eq_true (ex_at c 11), xfB_ok (ex_at c 38), He.noat_ok (fa_at c 65)⟩
    eI := i1
    eO := o1
    kI := i2
    kO := o2
    sI := i3
    sO := o3
    tI := i4
    tO := o4
    xU := kxB_ok (ex_at c 12)
    iU := of_decide_eq_true (ex_at c 13)
    fU := of_decide_eq_true (ex_at c 14) }
end
end Bk
end
section
set_option Elab.async false
set_option linter.all false
set_option maxRecDepth 100000
set_option maxHeartbeats 4000000
set_option pp.maxSteps 600
/-! The defs of the program; Bf. -/
namespace Bk
open PySem PySem.Spec PyProof.Rows L2 ClX LamX
theorem fun_at {K : PySem.W.Frag} {a : Addr} {x q : Str} {st : Stmt} (e : fnA K a = some (x, q, defArgs st, .stmts (defBody st), defScope st, mainGlobals, [], builtinsNs)) (k : okA K a q = true) : ∃ fd, Fun K x q st a fd := by
  obtain ⟨kp, c2⟩ := He.ba k
  unfold fnA at e
  cases z : K.lookup a with
  | none =>
    rw [z] at c2
    cases c2
  | some o =>
    obtain ⟨oc, od, dt, osl⟩ := o
    rw [z] at c2 e
    cases dt with
    | func fd =>
      obtain ⟨n1, n2, n3, n4, n5, n6, n7, n8, n9, n10, n11, n12, n13, n14, n15⟩ := fd
      have e2 : (some (n1, n2, n3, n4, n5, n6, n7, n15) : He.FnW) = some (x, q, defArgs st, .stmts (defBody st), defScope st, mainGlobals, [], builtinsNs) := e
      simp only [Option.some.injEq, Prod.mk.injEq] at e2
      obtain ⟨h1, h2, h3, h4, h5, h6, h7, h8⟩ := e2
      subst h1 h2 h3 h4 h5 h6 h7 h8
      have c3 : (PySem.W.codeIn K n13 n2 && (He.dflB K n8 [] && He.kwdB K n9 [])) = true := c2
      obtain ⟨k1, k2⟩ := He.ba c3
      obtain ⟨k3, k4⟩ := He.ba k2
      exact ⟨_, fun_of ⟨⟨oc, od, n8, n9, n10, n11, n12, n13, n14, osl, rfl, z, k1, He.dflB_ok k3, He.kwdB_ok k4⟩, kp⟩⟩
    | _ => cases c2
theorem rec_first {r : Option (List Value)} (e : (match r with | some (.ref _ :: _) => true | _ => false) = true) : ∃ g rest, r = some (Value.ref g :: rest) := by
  split at e
  · exact ⟨_, _, rfl⟩
  · cases e
theorem gOf_eq {K : PySem.W.Frag} {g : Addr} {rest : List Value} (e : PySem.W.recIn K (pOf K) "classmethod" = some (.ref g :: rest)) : gOf K = g := by
  unfold gOf
  rw [e]
theorem gCm_eq {K : PySem.W.Frag} {g : Addr} {rest : List Value} (e : PySem.W.recIn K (pCm K) "property" = some (.ref g :: rest)) : gCm K = g := by
  unfold gCm
  rw [e]
theorem spc_of {K : PySem.W.Frag} {n : Str} (e : spcB K n = true) : Spc K (gB K) n (He.ma K (gB K) n) := by
  obtain ⟨e1, e2⟩ := He.ba e
  obtain ⟨e2, e3⟩ := He.ba e2
  exact ⟨of_decide_eq_true e1, e2, e3⟩
theorem fnR_of {P : Program} {w : World} {K : PySem.W.Frag} {mg : Str → Option Value} {base : Heap} {CX : CXT} {k : Nat} {f : Addr} {fd : FuncData} {ps : List Str} {sp : Sp} (F : FnOk P w K mg base CX k f fd ps sp) (hb : Binds K fd ps []) : FnR P w K mg base CX k f sp :=
  (F.raw hb .nil).imp fun vs H Q E hh => by
    show sp (vs ++ []) H Q E
    rw [List.append_nil]
    exact hh
section
variable {P : Program} {w : World} {h base : Heap} {K : PySem.W.Frag} {mg : Str → Option Value}
theorem kn_of {CX : CXT} {k : Nat} {x : Str} {st : Stmt} {fd : FuncData} {ps : List Str} {sp : Sp} (c : SaysY w h K) (X : K.In base) (G : base.Ns mainGlobals mg) (n : Nat) (F : Fun K x x st (He.ga K x) fd) (ok : FnOk P w K mg base CX k (He.ga K x) fd ps sp) (hb : Binds K fd ps [])
    (hm : faL[n]? = some (.glo x) := by rfl) : Kn P w K mg base CX k x ps sp := ⟨_, fd, ok, He.glo_ok X G (fa_at c n hm), F.kp, hb⟩
theorem kg_of {k : Nat} {x : Str} {st : Stmt} {fd : FuncData} {ps : List Str} {sp : Sp} (c : SaysY w h K) (X : K.In base) (G : base.Ns mainGlobals mg) (n : Nat) (F : Fun K x x st (He.ga K x) fd) (ok : FnG P w K mg base k (He.ga K x) fd ps sp) (hb : Binds K fd ps [])
    (hm : faL[n]? = some (.glo x) := by rfl) : KnG P w K mg base k x ps sp := ⟨_, fd, ok, He.glo_ok X G (fa_at c n hm), F.kp, hb⟩
theorem mt_of {CX : CXT} {k : Nat} {m : Str} {fd : FuncData} {ps : List Str} {sp : Sp} (c : SaysY w h K) (n : Nat) (ok : FnOk P w K mg base CX k (He.ma K (gB K) m) fd ps sp) (hb : Binds K fd ps [])
    (hm : faL[n]? = some (.meth "Book" m) := by rfl) : MtK P w K mg base CX k (gB K) m ps sp := ⟨_, fd, He.meth_ok (fa_at c n hm), ok, hb⟩
theorem sp_of {CX : CXT} {k : Nat} {m : Str} {fd : FuncData} {ps : List Str} {sp : Sp} (c : SaysY w h K) (n : Nat) (ok : FnOk P w K mg base CX k (He.ma K (gB K) m) fd ps sp) (hb : Binds K fd ps [])
    (hm : (exL K)[n]? = some (spcB K m) := by rfl) : SpK P w K mg base CX k (gB K) m sp := ⟨_, spc_of (ex_at c n hm), fnR_of ok hb⟩
variable (c : SaysY w h K) (X : K.In base) (G : base.Ns mainGlobals mg)
include c X G
theorem n_is_name : Kn P w K mg base L2.CX0 1 "is_name" ["value"] spName := by
  obtain ⟨fd, F⟩ := gd_fun c 0 4 (x := "is_name")
  exact kn_of c X G 0 F (ok_is_name F (tx_ok c X G)) (F.binds fun _ _ _ _ _ _ us hl => match us, hl with | [_], _ => rfl)
theorem n_is_answer : Kn P w K mg base L2.CX0 2 "is_answer" ["value"] spAnswer := by
  obtain ⟨fd, F⟩ := gd_fun c 1 5 (x := "is_answer")
  exact kn_of c X G 1 F (ok_is_answer F (tx_ok c X G) (n_is_name c X G)) (F.binds fun _ _ _ _ _ _ us hl => match us, hl with | [_], _ => rfl)
theorem n_is_integer : Kn P w K mg base L2.CX0 1 "is_integer" ["value"] spInteger := by
  obtain ⟨fd, F⟩ := gd_fun c 2 6 (x := "is_integer")
  exact kn_of c X G 2 F (ok_is_integer F (tx_ok c X G)) (F.binds fun _ _ _ _ _ _ us hl => match us, hl with | [_], _ => rfl)
theorem n_are_asc : Kn P w K mg base L2.CX0 1 "are_ascending" ["items"] spAsc := by
  obtain ⟨fd, F⟩ := gd_fun c 3 7 (x := "are_ascending")
  exact kn_of c X G 3 F (ok_are_asc F (tx_ok c X G)) (F.binds fun _ _ _ _ _ _ us hl => match us, hl with | [_], _ => rfl)
theorem n_is_pair : Kn P w K mg base L2.CX0 3 "is_pair" ["value"] spPair := by
  obtain ⟨fd, F⟩ := gd_fun c 4 18 (x := "is_pair")
  exact kn_of c X G 4 F (ok_is_pair F (tx_ok c X G) (n_is_answer c X G) (n_is_integer c X G) (n_are_asc c X G)) (F.binds fun _ _ _ _ _ _ us hl => match us, hl with | [_], _ => rfl)
theorem n_pairs_of : Kn P w K mg base L2.CX0 4 "pairs_of" ["commands"] spPairsOf := by
  obtain ⟨fd, F⟩ := gd_fun c 5 19 (x := "pairs_of")
  exact kn_of c X G 5 F (ok_pairs_of F (tx_ok c X G) (n_is_answer c X G) (n_is_pair c X G)) (F.binds fun _ _ _ _ _ _ us hl => match us, hl with | [_], _ => rfl)
theorem n_is_cmd : Kn P w K mg base L2.CX0 1 "is_command" ["book", "value"] (spIsCmd K (gB K)) := by
  obtain ⟨fd, F⟩ := gd_fun c 6 21 (x := "is_command")
  exact kn_of c X G 6 F (ok_is_cmd (bx_ok c X G) F) (F.binds fun _ _ _ _ _ _ us hl => match us, hl with | [_, _], _ => rfl)
theorem n_outc : Kn P w K mg base L2.CX0 1 "outcomes_in" ["book", "command"] (spOutc (gB K)) := by
  obtain ⟨fd, F⟩ := gd_fun c 7 22 (x := "outcomes_in")
  exact kn_of c X G 7 F (ok_outc (bx_ok c X G) F) (F.binds fun _ _ _ _ _ _ us hl => match us, hl with | [_, _], _ => rfl)
theorem n_reqb : Kn P w K mg base (L2.CX P w) 1 "require_book" ["book"] (spReqB K (gB K) (gI K)) := by
  obtain ⟨fd, F⟩ := gd_fun c 8 23 (x := "require_book")
  exact kn_of c X G 8 F (ok_reqb (bx_ok c X G) F) (F.binds fun _ _ _ _ _ _ us hl => match us, hl with | [_], _ => rfl)
theorem n_uinit : ∃ fdU, FnOk P w K mg base L2.CX0 1 (fUn K) fdU ["self", "name"] (spUI (gU K)) ∧ Binds K fdU ["self", "name"] [] := by
  obtain ⟨fd, hd⟩ := c.1.t.d.defs (List.mem_of_getElem? (show fnL[39]? = some _ from rfl))
  have F : Fun K "__init__" "UnknownName.__init__" (inClass (top 12) 0) (fUn K) fd := fun_of hd
  exact ⟨fd, ok_uinit (bx_ok c X G) F, F.binds fun _ _ _ _ _ _ us hl => match us, hl with | [_, _], _ => rfl⟩
theorem n_reqc : Kn P w K mg base (L2.CX P w) 3 "require_command" ["book", "command"] (spReqC K (gB K) (gU K)) := by
  obtain ⟨fd, F⟩ := gd_fun c 9 24 (x := "require_command")
  obtain ⟨fdU, FU, bU⟩ := n_uinit (P := P) c X G
  exact kn_of c X G 9 F (ok_reqc (bx_ok c X G) F (n_is_cmd c X G) FU bU) (F.binds fun _ _ _ _ _ _ us hl => match us, hl with | [_, _], _ => rfl)
theorem b_init : FnKw P w K mg base L2.CX0 5 (He.ma K (gB K) "__init__") (spKw (gB K)) := by
  obtain ⟨fd, F⟩ := gm_fun c 38 0 (m := "__init__") (q := "Book.__init__")
  exact ok_init (bx_ok c X G) F (n_pairs_of c X G)
theorem b_of : FnR P w K mg base L2.CX0 7 (gOf K) (spOf (gB K)) := by
  obtain ⟨fd, F⟩ := fun_at (List.cons.inj c.2).1 (ex_at c 29)
  exact fnR_of (ok_of (bx_ok c X G) F (n_pairs_of c X G) (He.mkr_ok (fa_at c 57)) (b_init c X G)) (F.binds fun _ _ _ _ _ _ us hl => match us, hl with | [_, _], _ => rfl)
theorem b_cread : CRead K (gB K) (mcOf K) := ⟨ex_at c 25, of_decide_eq_true (ex_at c 26)⟩
theorem b_cmet : CMet K (gB K) (mcOf K) "of" (pOf K) (gOf K) := by
  refine ⟨?_, ?_, ex_at c 28⟩
  · have e : cmB K = true := ex_at c 39
    unfold cmB at e
    split at e
    · rename_i g a o t q
      obtain ⟨e1, e⟩ := He.ba e
      obtain ⟨e2, e⟩ := He.ba e
      obtain ⟨e3, e4⟩ := He.ba e
      rw [q, of_decide_eq_true e1, of_decide_eq_true e2, of_decide_eq_true e3, of_decide_eq_true e4]
    · cases e
  · obtain ⟨g, rest, e⟩ := rec_first (ex_at c 27)
    rw [gOf_eq e]
    exact ⟨rest, e⟩
theorem b_prop : PropOf K (gB K) "commands" (pCm K) (gCm K) := by
  refine ⟨of_decide_eq_true (ex_at c 21), of_decide_eq_true (ex_at c 22), of_decide_eq_true (ex_at c 23), ?_⟩
  obtain ⟨g, rest, e⟩ := rec_first (ex_at c 24)
  rw [gCm_eq e]
  exact ⟨rest, e⟩
theorem bf_ok : Bf P w K mg base (gB K) (gI K) (gO K) (gU K) (fUn K) := by
  have B := bx_ok c X G
  have N24 := n_reqc (P := P) c X G
  exact {
    B := B
    mTa := by
      obtain ⟨fd, F⟩ := gm_fun c 27 3 (m := "takes") (q := "Book.takes")
      exact mt_of c 58 (ok_takes B N24 F) (F.binds fun _ _ _ _ _ _ us hl => match us, hl with | [_, _], _ => rfl)
    mAn := by
      obtain ⟨fd, F⟩ := gm_fun c 28 4 (m := "answers") (q := "Book.answers")
      exact mt_of c 59 (ok_answers B N24 F) (F.binds fun _ _ _ _ _ _ us hl => match us, hl with | [_, _], _ => rfl)
    mOu := by
      obtain ⟨fd, F⟩ := gm_fun c 29 5 (m := "outcomes") (q := "Book.outcomes")
      exact mt_of c 60 (ok_outcomes B N24 F (n_outc c X G)) (F.binds fun _ _ _ _ _ _ us hl => match us, hl with | [_, _], _ => rfl)
    mWo := by
      obtain ⟨fd, F⟩ := gm_fun c 30 6 (m := "without") (q := "Book.without")
      exact mt_of c 61 (ok_without (fI := 0) (fdO := fd) B F N24 (b_cread c X G) (b_cmet c X G) (b_of c X G)) (F.binds fun _ _ _ _ _ _ us hl => match us, hl with | [_, _], _ => rfl)
    mWi := by
      obtain ⟨fd, F⟩ := gm_fun c 31 7 (m := "is_within") (q := "Book.is_within")
      exact mt_of c 62 (ok_within B F (n_reqb c X G)) (F.binds fun _ _ _ _ _ _ us hl => match us, hl with | [_, _], _ => rfl)
    sOr := by
      obtain ⟨fd, F⟩ := gm_fun c 32 8 (m := "__or__") (q := "Book.__or__")
      exact sp_of c 15 (ok_or B F (He.mkr_ok (fa_at c 57)) (b_init c X G)) (F.binds fun _ _ _ _ _ _ us hl => match us, hl with | [_, _], _ => rfl)
    sIt := by
      obtain ⟨fd, F⟩ := gm_fun c 33 9 (m := "__getitem__") (q := "Book.__getitem__")
      exact sp_of c 16 (ok_item B N24 F) (F.binds fun _ _ _ _ _ _ us hl => match us, hl with | [_, _], _ => rfl)
    sCo := by
      obtain ⟨fd, F⟩ := gm_fun c 34 10 (m := "__contains__") (q := "Book.__contains__")
      exact sp_of c 17 (ok_cont F (n_is_cmd c X G)) (F.binds fun _ _ _ _ _ _ us hl => match us, hl with | [_, _], _ => rfl)
    sLe := by
      obtain ⟨fd, F⟩ := gm_fun c 35 12 (m := "__len__") (q := "Book.__len__")
      exact sp_of c 18 (ok_len B F) (F.binds fun _ _ _ _ _ _ us hl => match us, hl with | [_], _ => rfl)
    sEq := by
      obtain ⟨fd, F⟩ := gm_fun c 36 13 (m := "__eq__") (q := "Book.__eq__")
      exact sp_of c 19 (ok_eq B F) (F.binds fun _ _ _ _ _ _ us hl => match us, hl with | [_, _], _ => rfl)
    sSt := by
      obtain ⟨fd, F⟩ := gm_fun c 37 14 (m := "__str__") (q := "Book.__str__")
      exact sp_of c 20 (ok_str B F) (F.binds fun _ _ _ _ _ _ us hl => match us, hl with | [_], _ => rfl)
    pCm := by
      obtain ⟨fd, F⟩ := fun_at (List.cons.inj (List.cons.inj c.2).2).1 (ex_at c 30)
      exact ⟨_, _, fd, b_prop c X G, ok_cmds B F, F.binds fun _ _ _ _ _ _ us hl => match us, hl with | [_], _ => rfl⟩
    cOf := ⟨_, _, _, b_cread c X G, b_cmet c X G, b_of c X G⟩
    mkB := ⟨_, He.mkr_ok (fa_at c 57), b_init c X G⟩
    ne := of_decide_eq_true (ex_at c 31)
    nT := fun T hT => List.all_eq_true.mp (ex_at c 32) T hT
    nC := ex_at c 33
    sf := ex_at c 34
    ror := of_decide_eq_true (ex_at c 35)
    orT := fun T hT => by
      obtain ⟨e1, e⟩ := He.ba (List.all_eq_true.mp (ex_at c 36) T hT)
      obtain ⟨e2, e3⟩ := He.ba e
      obtain ⟨fo, e1⟩ := Option.isSome_iff_exists.mp e1
      obtain ⟨ro, e2⟩ := Option.isSome_iff_exists.mp e2
      exact ⟨fo, ro, e1, e2, of_decide_eq_true e3⟩ }
end
end Bk
end
section
set_option Elab.async false
set_option linter.all false
set_option maxRecDepth 100000
set_option maxHeartbeats 4000000
set_option pp.maxSteps 600
/-! The law's defs; the law's call. -/
namespace Bk
open PySem PySem.Spec PyProof.Rows L2 ClX LamX
abbrev tS (K : PySem.W.Frag) : Addr × Addr := He.cT K ("_law_stranger", none)
abbrev tB (K : PySem.W.Frag) : Addr × Addr := He.cT K ("_law_both_right", none)
abbrev tR (K : PySem.W.Frag) : Addr × Addr := He.cT K ("_law_right", none)
abbrev csL (K : PySem.W.Frag) : List (Addr × Addr) := tfL.map (He.cT K)
def tabL (K : PySem.W.Frag) : List (Addr × Str) := [((tS K).2, qS), ((tB K).2, qB), ((tR K).2, qR)]
theorem tabL_or {K : PySem.W.Frag} {p : Addr × Str} (hp : p ∈ tabL K) : p = ((tS K).2, qS) ∨ p = ((tB K).2, qB) ∨ p = ((tR K).2, qR) := by
  unfold tabL at hp
  simp only [List.mem_cons, List.not_mem_nil, or_false] at hp
  exact hp
theorem tabs_of {K : PySem.W.Frag} {H : Hp} (h : ∀ p ∈ csL K, H p.2 = some (.tbl #[])) : Tabs (tabL K) H := fun p hp => by
  rcases tabL_or hp with rfl | rfl | rfl
  · exact TabS.nil (h (tS K) (List.mem_map.mpr ⟨_, .head _, rfl⟩))
  · exact TabS.nil (h (tB K) (List.mem_map.mpr ⟨_, .tail _ (.head _), rfl⟩))
  · exact TabS.nil (h (tR K) (List.mem_map.mpr ⟨_, .tail _ (.tail _ (.head _)), rfl⟩))
theorem code_at {K : PySem.W.Frag} {x q : Str} {st : Stmt} {fd : FuncData} {n : Str} (F : Fun K x q st (He.ga K n) fd) : fd.code = .ref (He.cT K (n, none)).1 := by
  obtain ⟨oc, od, kV, doc, pm, an, cdv, ct, osl, rfl, lk, hcd⟩ := F.ex
  obtain ⟨c, e⟩ := He.codeIn_ref hcd
  subst e
  have e2 : He.codeOf K (n, none) = c := He.codeOf_eq (p := (n, none)) lk rfl
  show Value.ref c = Value.ref (He.codeOf K (n, none))
  rw [e2]
section
variable {P : Program} {w : World} {h base : Heap} {K : PySem.W.Frag} {mg : Str → Option Value}
theorem hu_S (c : SaysY w h K) : ∀ p ∈ tabL K, p.1 = (tS K).2 → p.2 = qS := fun p hp e => by
  have n1 : (tS K).2 ≠ (tB K).2 := of_decide_eq_true (ex_at c 40)
  have n2 : (tS K).2 ≠ (tR K).2 := of_decide_eq_true (ex_at c 41)
  rcases tabL_or hp with rfl | rfl | rfl
  · rfl
  · exact absurd e.symm n1
  · exact absurd e.symm n2
theorem hu_B (c : SaysY w h K) : ∀ p ∈ tabL K, p.1 = (tB K).2 → p.2 = qB := fun p hp e => by
  have n1 : (tS K).2 ≠ (tB K).2 := of_decide_eq_true (ex_at c 40)
  have n2 : (tB K).2 ≠ (tR K).2 := of_decide_eq_true (ex_at c 42)
  rcases tabL_or hp with rfl | rfl | rfl
  · exact absurd e n1
  · rfl
  · exact absurd e.symm n2
theorem hu_R (c : SaysY w h K) : ∀ p ∈ tabL K, p.1 = (tR K).2 → p.2 = qR := fun p hp e => by
  have n1 : (tS K).2 ≠ (tR K).2 := of_decide_eq_true (ex_at c 41)
  have n2 : (tB K).2 ≠ (tR K).2 := of_decide_eq_true (ex_at c 42)
  rcases tabL_or hp with rfl | rfl | rfl
  · exact absurd e n1
  · exact absurd e n2
  · rfl
section
variable (c : SaysY w h K) (X : K.In base) (G : base.Ns mainGlobals mg)
include c X G
theorem n_dice : Kn P w K mg base L2.CX0 1 "_law_dice" ["_law_script", "_law_at"] (spDice K) := by
  obtain ⟨fd, F⟩ := gd_fun c 10 26 (x := "_law_dice")
  exact kn_of c X G 10 F (ok_dice F (tx_ok c X G)) (F.binds fun _ _ _ _ _ _ us hl => match us, hl with | [_, _], _ => rfl)
theorem n_roll : Kn P w K mg base L2.CX0 1 "_law_roll" ["_law_dice_here", "_law_total"] spRoll := by
  obtain ⟨fd, F⟩ := gd_fun c 11 27 (x := "_law_roll")
  exact kn_of c X G 11 F (ok_roll F (tx_ok c X G)) (F.binds fun _ _ _ _ _ _ us hl => match us, hl with | [_, _], _ => rfl)
theorem n_one : Kn P w K mg base L2.CX0 2 "_law_one_of" ["_law_dice_here", "_law_items"] spOne := by
  obtain ⟨fd, F⟩ := gd_fun c 12 28 (x := "_law_one_of")
  exact kn_of c X G 12 F (ok_one F (tx_ok c X G) (n_roll c X G)) (F.binds fun _ _ _ _ _ _ us hl => match us, hl with | [_, _], _ => rfl)
theorem n_mixed : Kn P w K mg base L2.CX0 2 "_law_mixed" ["_law_dice_here", "_law_items"] spMixed := by
  obtain ⟨fd, F⟩ := gd_fun c 13 29 (x := "_law_mixed")
  exact kn_of c X G 13 F (ok_mixed F (tx_ok c X G) (n_roll c X G)) (F.binds fun _ _ _ _ _ _ us hl => match us, hl with | [_, _], _ => rfl)
theorem n_name : Kn P w K mg base L2.CX0 3 "_law_name" ["_law_dice_here", "_law_taken"] spNam := by
  obtain ⟨fd, F⟩ := gd_fun c 14 30 (x := "_law_name")
  exact kn_of c X G 14 F (ok_name F (tx_ok c X G) (n_roll c X G) (n_one c X G)) (F.binds fun _ _ _ _ _ _ us hl => match us, hl with | [_, _], _ => rfl)
theorem n_names : Kn P w K mg base L2.CX0 4 "_law_names" ["_law_dice_here", "_law_size"] spNames := by
  obtain ⟨fd, F⟩ := gd_fun c 15 31 (x := "_law_names")
  exact kn_of c X G 15 F (ok_names F (tx_ok c X G) (n_name c X G)) (F.binds fun _ _ _ _ _ _ us hl => match us, hl with | [_, _], _ => rfl)
theorem n_pairs : Kn P w K mg base L2.CX0 5 "_law_pairs" ["_law_dice_here", "_law_most", "_law_answers"] spPairs := by
  obtain ⟨fd, F⟩ := gd_fun c 16 32 (x := "_law_pairs")
  exact kn_of c X G 16 F (ok_pairs F (tx_ok c X G) (n_roll c X G) (n_mixed c X G) (n_names c X G)) (F.binds fun _ _ _ _ _ _ us hl => match us, hl with | [_, _, _], _ => rfl)
theorem n_outl : Kn P w K mg base L2.CX0 1 "_law_outcomes" ["_law_pairs_here", "_law_command"] spOutL := by
  obtain ⟨fd, F⟩ := gd_fun c 17 33 (x := "_law_outcomes")
  exact kn_of c X G 17 F (ok_outl F (tx_ok c X G)) (F.binds fun _ _ _ _ _ _ us hl => match us, hl with | [_, _], _ => rfl)
theorem n_odd : Kn P w K mg base L2.CX0 3 "_law_odd" ["_law_dice_here"] (spOdd K) := by
  obtain ⟨fd, F⟩ := gd_fun c 18 34 (x := "_law_odd")
  exact kn_of c X G 18 F (ok_odd F (tx_ok c X G) (n_one c X G)) (F.binds fun _ _ _ _ _ _ us hl => match us, hl with | [_], _ => rfl)
theorem n_told : Kn P w K mg base L2.CX0 5 "_law_told" ["_law_book"] (spTold (gB K)) := by
  obtain ⟨fd, F⟩ := gd_fun c 20 36 (x := "_law_told")
  exact kn_of c X G 20 F (ok_told F (bf_ok c X G)) (F.binds fun _ _ _ _ _ _ us hl => match us, hl with | [_], _ => rfl)
theorem n_is_right : KnG P w K mg base 7 "_law_is_right" ["_law_book", "_law_pairs_here"] (spRight (gB K)) := by
  obtain ⟨fd, F⟩ := gd_fun c 21 37 (x := "_law_is_right")
  exact kg_of c X G 21 F (ok_is_right F (bf_ok c X G) (n_outl c X G)) (F.binds fun _ _ _ _ _ _ us hl => match us, hl with | [_, _], _ => rfl)
theorem n_second : Kn P w K mg base L2.CX0 6 "_law_second" ["_law_dice_here", "_law_pairs_here"] spSec := by
  obtain ⟨fd, F⟩ := gd_fun c 23 39 (x := "_law_second")
  exact kn_of c X G 23 F (ok_second F (tx_ok c X G) (n_roll c X G) (n_one c X G) (n_mixed c X G) (n_pairs c X G)) (F.binds fun _ _ _ _ _ _ us hl => match us, hl with | [_, _], _ => rfl)
variable (TB : ∀ p ∈ csL K, TabB base mg p.1 p.2)
include TB
theorem n_stranger : KnG P w K mg base 11 "_law_stranger" ["_law_book", "_law_odd_here", "_law_pairs_here"] (spStr_ K (gB K) (tabL K)) := by
  obtain ⟨fd, F⟩ := gd_fun c 22 38 (x := "_law_stranger")
  obtain ⟨fdm, FM⟩ := gd_fun c 19 35 (x := "_law_met")
  exact kg_of c X G 22 F (ok_stranger F (bf_ok c X G) FM (He.glo_ok X G (fa_at c 19)) (TB (tS K) (List.mem_map.mpr ⟨_, .head _, rfl⟩)) (code_at F) (.head _) (hu_S c)) (F.binds fun _ _ _ _ _ _ us hl => match us, hl with | [_, _, _], _ => rfl)
theorem n_both : KnG P w K mg base 10 "_law_both_right" P40 (spBoth K (gB K) (tabL K)) := by
  obtain ⟨fd, F⟩ := gd_fun c 24 40 (x := "_law_both_right")
  obtain ⟨fdm, FM⟩ := gd_fun c 19 35 (x := "_law_met")
  exact kg_of c X G 24 F (ok_both F (bf_ok c X G) FM (He.glo_ok X G (fa_at c 19)) (TB (tB K) (List.mem_map.mpr ⟨_, .tail _ (.head _), rfl⟩)) (code_at F) (.tail _ (.head _)) (hu_B c) (n_is_right c X G)) (F.binds fun _ _ _ _ _ _ us hl => match us, hl with | [_, _, _, _, _], _ => rfl)
theorem n_right : KnG P w K mg base 12 "_law_right" ["_law_dice_here"] (spRt (tabL K)) := by
  obtain ⟨fd, F⟩ := gd_fun c 25 41 (x := "_law_right")
  obtain ⟨fdm, FM⟩ := gd_fun c 19 35 (x := "_law_met")
  exact kg_of c X G 25 F (ok_right F (bf_ok c X G) FM (He.glo_ok X G (fa_at c 19)) (TB (tR K) (List.mem_map.mpr ⟨_, .tail _ (.tail _ (.head _)), rfl⟩)) (code_at F) (.tail _ (.tail _ (.head _))) (hu_R c) (n_one c X G) (n_mixed c X G) (n_pairs c X G) (n_odd c X G) (n_told c X G) (n_is_right c X G) (n_stranger c X G TB) (n_second c X G) (n_both c X G TB))
    (F.binds fun _ _ _ _ _ _ us hl => match us, hl with | [_], _ => rfl)
theorem g_law {fd : FuncData} (F : Fun K "law" "law" (top 42) (He.ga K "law") fd) : FnG P w K mg base 13 (He.ga K "law") fd ["_law_script"] (spLaw K (tabL K)) :=
  ok_law F (bf_ok c X G) (n_dice c X G) (n_roll c X G) (n_names c X G) (n_is_right c X G) (n_right c X G TB)
end
theorem room13 : Room 13 callerA := ⟨rfl, by decide +kernel, by decide +kernel⟩
theorem law_end {s : Shared} {mb : Str → Option Value} {a fa : Addr} {vs : List Value} {ns : List Int} (c : SaysY w s.heap K) (X : K.In s.heap) (hns : s.heap.Ns mainGlobals mg) (hb : s.heap.Ns builtinsNs mb) (hbb : ∀ x : Str, x ≠ "__name__" → mb x = bootBuiltins x) (hlim : s.heap.NoLimit) (hg : s.gens = #[])
    (hbm : ∃ (bm : Addr) (ob : Obj), mg "__builtins__" = some (.ref bm) ∧ bm ≠ builtinsNs ∧ s.heap.get? bm = some ob ∧ ob.cls = .type "module" ∧ ob.dict = some builtinsNs ∧ ob.data = .plain)
    (ha : s.heap.get? a = some { cls := .type "list", data := .seq vs.toArray }) (hi : IntsAre vs ns) (hl : ns.length ≤ 63) (hmg : mg "law" = some (.ref fa)) :
    codeAny (model P w) callerA (.call (.ref fa) ⟨[.ref a], []⟩) (fun r s' => r = .ok (.ret (.bool true)) ∧ OldK s.heap s'.heap ∧ s'.os = s.os ∧ AllBare s'.gens) s := by
  have e := He.glo_ok X hns (fa_at c 26 (f := .glo "law"))
  rw [hmg] at e
  injection e with e
  injection e with e
  subst e
  obtain ⟨fd, F⟩ := gd_fun c 26 42 (x := "law")
  have hd : ∀ p ∈ csL K, ∃ q ∈ tfL, He.cT K q = p := fun p hp => List.mem_map.mp hp
  refine BkE.law_callG (cs := csL K) (ns := ns) (x := "_law_script") (sp := spLaw K (tabL K)) X hns hb hbb hlim hg (fun p hp => ?_) (fun p hp => ?_) (fun p hp => ?_) hbm ha hi (Nat.le_trans hl (by decide)) room13 (fun base X2 G2 TB => g_law c X2 G2 TB F) ?_ (fun H hT hS => ⟨a, ns, rfl, hl, hS, tabs_of hT, fun _ => rfl⟩)
  · obtain ⟨q, hq, rfl⟩ := hd p hp
    exact c.1.empty q hq
  · obtain ⟨q, hq, rfl⟩ := hd p hp
    exact c.1.out q hq
  · obtain ⟨q, hq, rfl⟩ := hd p hp
    exact PySem.W.codeHd_of_K X (c.1.hd q hq)
  · obtain ⟨oc, od, kV, doc, pm, an, cdv, ct, osl, rfl, lk, hcd⟩ := F.ex
    exact fun s u => .of_eq rfl
end
end Bk
end
section
set_option Elab.async false
set_option linter.all false
set_option maxRecDepth 1000000
set_option maxHeartbeats 0
set_option pp.maxSteps 300
/-! The law. -/
open PySem PySem.W PySem.Calls PyProof.Rows
theorem PySem.Challenge.cw_skipahead_k02_whole_books_as_values_holds : PySem.Challenge.rw_skipahead_k02_whole_books_as_values.Holds := by
  w_on; o_law
  refine HandSHeadRun.head_any (r := OpenLaw.row PySem.Challenge.rw_skipahead_k02_whole_books_as_values) (q := view (OpenLaw.row PySem.Challenge.rw_skipahead_k02_whole_books_as_values).prog [42]) (H := Bk.hookY) (ob := Bk.ob) (M := 4000) (loose := Bk.loose) (d := HandSHeadRun.topDef (OpenLaw.row PySem.Challenge.rw_skipahead_k02_whole_books_as_values).prog 42) (kwd := []) Bk.ob_eq
    (by kernel_rfl) (fun s => by kernel_rfl) Bk.run (by kernel_rfl) (by kernel_rfl) (by kernel_rfl) (by rfl) (by first | assumption | decide +kernel) (by decide +kernel) ⟨rfl, rfl, rfl, rfl, rfl, by decide +kernel⟩ ?hw ?hc
  case hw => w_witness2
  case hc =>
    refine Att.attach_callB (n := 63) rfl rfl fun w s₀ s₁ mg mb fa o pm cd doc a vs ns G Y ho hd hcd hmg hobj hints hlen hbits hg => ?_
    obtain ⟨K, KX, c⟩ := Y
    exact Bk.law_end c KX G.T.g G.T.b G.T.builtins G.T.nolimit hg G.T.bmain hobj hints hlen hmg
end
