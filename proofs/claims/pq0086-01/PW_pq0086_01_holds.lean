import PyProof.Rows.All
import Wide.All
import OpenK.AllK
import Wide.FinOn
import Lean
import PySem.Challenge.RW_pq0086_01
open scoped Classical
set_option Elab.async false
set_option linter.unusedVariables false
set_option genSizeOfSpec false
set_option genInjectivity false
section
open PySem PySem.W PyProof.Rows
namespace PL
theorem Z6p:type_of% @Nat.le_trans:=@Nat.le_trans
theorem Z6q:type_of% @Nat.le_refl:=@Nat.le_refl
theorem Z6r:type_of% @Nat.le_add_right:=@Nat.le_add_right
theorem Z6s:type_of% @Nat.le_add_left:=@Nat.le_add_left
theorem Z6t:type_of% @Nat.lt_of_lt_of_le:=@Nat.lt_of_lt_of_le
theorem Z6u:type_of% @Nat.lt_of_le_of_lt:=@Nat.lt_of_le_of_lt
theorem Z6v:type_of% @Nat.succ_le_succ:=@Nat.succ_le_succ
theorem Z6w:type_of% @Nat.add_le_add_left:=@Nat.add_le_add_left
theorem Z6x:type_of% @Nat.add_le_add_right:=@Nat.add_le_add_right
theorem Z6y:type_of% @Nat.le_of_ble_eq_true:=@Nat.le_of_ble_eq_true
theorem Z6z:type_of% @Nat.lt_succ_self:=@Nat.lt_succ_self
theorem Z60:type_of% @Nat.add_assoc:=@Nat.add_assoc
theorem Z61:type_of% @Nat.le_of_succ_le:=@Nat.le_of_succ_le
theorem Z62:type_of% @Nat.le_of_eq:=@Nat.le_of_eq
theorem Z63:type_of% @Nat.zero_le:=@Nat.zero_le
theorem Z64:type_of% @Nat.le_of_lt:=@Nat.le_of_lt
theorem Z65:type_of% @Nat.le_of_lt_succ:=@Nat.le_of_lt_succ
theorem Z66:type_of% @List.mem_cons_self:=@List.mem_cons_self
theorem Z67:type_of% @List.mem_cons_of_mem:=@List.mem_cons_of_mem
theorem Z68:type_of% @List.length_map:=@List.length_map
theorem Z69:type_of% @List.length_append:=@List.length_append
theorem Z7a:type_of% @List.mem_cons:=@List.mem_cons
theorem Z7b:type_of% @List.mem_map:=@List.mem_map
theorem Z7c:type_of% @List.mem_singleton:=@List.mem_singleton
theorem Z7d:type_of% @List.append_assoc:=@List.append_assoc
theorem Z7e:type_of% @List.map_cons:=@List.map_cons
theorem Z7f:type_of% @List.length_cons:=@List.length_cons
theorem Z7g:type_of% @Option.some.inj:=@Option.some.inj
theorem Z7h:type_of% @Option.map_eq_some_iff:=@Option.map_eq_some_iff
theorem Z7i:type_of% @Array.getElem?_toList:=@Array.getElem?_toList
theorem Z7j:type_of% @Array.getElem?_eq_getElem:=@Array.getElem?_eq_getElem
theorem Z7k:type_of% @Array.length_toList:=@Array.length_toList
theorem Z7l:type_of% @List.getElem?_eq_getElem:=@List.getElem?_eq_getElem
theorem Z7m:type_of% @List.getElem?_eq_some_iff:=@List.getElem?_eq_some_iff
theorem Z7n:type_of% @Heap.get?_push_of_some:=@Heap.get?_push_of_some
theorem Z7o:type_of% @Heap.get?_push_size:=@Heap.get?_push_size
theorem Z7p:type_of% @wpAny_bind:=@wpAny_bind
theorem Z7q:type_of% @wpAny_pure:=@wpAny_pure
theorem Z7r:type_of% @congrArg:=@congrArg
theorem Z7s:type_of% @decide_eq_true:=@decide_eq_true
theorem Z7t:type_of% @decide_eq_false:=@decide_eq_false
theorem Z7u:type_of% @eq_of_beq:=@eq_of_beq
theorem Z7v:type_of% @beq_eq_false_iff_ne:=@beq_eq_false_iff_ne
theorem Z7w:type_of% @Bool.false_ne_true:=@Bool.false_ne_true
theorem Z7x:type_of% @beq_self_eq_true:=@beq_self_eq_true
theorem Z7y:type_of% @List.nodup_cons:=@List.nodup_cons
theorem Z7z:type_of% @List.mem_of_getElem?:=@List.mem_of_getElem?
end PL
end
section
open PySem PySem.W PyProof.Rows
namespace PL
noncomputable abbrev SM (α:Type):Type:=StateT SortSt Sem α
def Runs {α:Type} (m:SM α) (st:SortSt) (a:α) (st':SortSt):Prop:=∀ {prog:Program} {w:World} {A:Around} {E:Value→Shared→Prop} {s:Shared} {Q:α→SortSt→Prop},Q a st'→wpS (model prog w) A E s m Q st
section
variable {Γ:Type} {α β:Type}
def Fam (m:Γ→SM α) (s:Γ→SortSt) (Φ:(Γ→α)→(Γ→SortSt)→Prop):Prop:=∃ a s',(∀ γ,Runs (m γ) (s γ) (a γ) (s' γ))∧Φ a s'
theorem Zv {a:Γ→α} {s:Γ→SortSt} {Φ} (h:Φ a s):Fam (λ γ=>(pure (a γ):SM α)) s Φ:=⟨a,s,λ γ zz zz zz zz zz zz q=>wpS_pure q,h⟩
theorem Zk6 {m:Γ→SM α} {s Φ Ψ} (h:Fam m s Ψ) (k:∀ a s',Ψ a s'→Φ a s'):Fam m s Φ:=by obtain ⟨a,s',r,p⟩:=h; exact ⟨a,s',r,k _ _ p⟩
theorem Zz {m:Γ→SM α} {f:Γ→α→SM β} {s Φ} (h:Fam m s λ a s'=>Fam (λ γ=>f γ (a γ)) s' Φ):Fam (λ γ=>m γ >>= f γ) s Φ:=by
  obtain ⟨a,s',r,b,s'',r2,p⟩:=h
  exact ⟨b,s'',λ γ zz zz zz zz zz zz q=>wpS_bind (r γ (r2 γ q)),p⟩
theorem Zj {c:Prop} {inst:Γ→Decidable c} {m n:Γ→SM α} {s Φ} (h1:c→Fam m s Φ) (h2:¬ c→Fam n s Φ):Fam (λ γ=>@ite _ c (inst γ) (m γ) (n γ)) s Φ:=by
  rcases Classical.em c with h | h
  · simpa only [if_pos h] using h1 h
  · simpa only [if_neg h] using h2 h
theorem Z12 {s:Γ→SortSt} {Φ} (h:Φ s s):Fam (λ zz=>(get:SM SortSt)) s Φ:=⟨s,s,λ γ zz zz zz zz zz zz q=>wpS_get q,h⟩
theorem Zab {g:Γ→SortSt→SortSt} {s:Γ→SortSt} {Φ:(Γ→PUnit)→_→Prop} (h:Φ (λ zz=>⟨⟩) λ γ=>g γ (s γ)):Fam (λ γ=>(modify (g γ):SM PUnit)) s Φ:=⟨_,_,λ γ zz zz zz zz zz zz q=>wpS_modify q,h⟩
theorem Z11 {g s:Γ→SortSt} {Φ:(Γ→PUnit)→_→Prop} (h:Φ (λ zz=>⟨⟩) g):Fam (λ γ=>(set (g γ):SM PUnit)) s Φ:=⟨_,_,λ γ zz zz zz zz zz zz q=>by
  unfold wpS; rw [StateT.run_set]; exact Z7q ⟨rfl,q⟩,h⟩
theorem Zy7 {n:String} {s:Γ→SortSt} {Φ:(Γ→Unit)→_→Prop} (h:Φ (λ zz=>()) s):Fam (λ zz=>(liftM (rule n):SM Unit)) s Φ:=⟨_,_,λ γ zz zz zz zz zz zz q=>wpS_lift (wpAny_rule ⟨rfl,q⟩),h⟩
theorem Zip {f:Nat→β→SM (ForInStep β)}:∀ {l:List Nat} {b:β} {st:SortSt} {x:Nat} {r:ForInStep β} {st1:SortSt} {b':β} {st':SortSt},Runs (f x b) st r st1→(match r with | .done b1=>b1=b'∧st1=st' | .yield b1=>Runs (forIn l b1 f) st1 b' st')→Runs (forIn (x::l) b f) st b' st':=by
  intro l b st x r st1 b' st' h1 h2 zz zz zz zz zz Q q
  rw [List.forIn_cons]
  refine wpS_bind (h1 ?_)
  cases r with
  | done b1=>obtain ⟨rfl,rfl⟩:=h2; exact wpS_pure q
  | yield b1=>exact h2 q
theorem Zg1 {f:Γ→Nat→β→SM (ForInStep β)} {I:List Nat→(Γ→β)→(Γ→SortSt)→Prop} {Φ:(Γ→β)→(Γ→SortSt)→Prop}
    (step:∀ x l c s,I (x::l) c s→Fam (λ γ=>f γ x (c γ)) s λ r s'=>(∃ c',r=(λ γ=>.yield (c' γ))∧I l c' s')∨∃ c',r=(λ γ=>.done (c' γ))∧Φ c' s')
    (fin:∀ c s,I [] c s→Φ c s):∀ (l:List Nat) (c:Γ→β) (s:Γ→SortSt),I l c s→Fam (λ γ=>forIn l (c γ) (f γ)) s Φ
  | [],c,s,h=>by simp only [List.forIn_nil]; exact Zv (fin c s h)
  | x::l,c,s,h=>by
    obtain ⟨r,s',h1,h2⟩:=step x l c s h
    rcases h2 with ⟨c',rfl,h2⟩ | ⟨c',rfl,h2⟩
    · obtain ⟨b,s'',h3,h4⟩:=Zg1 step fin l c' s' h2
      exact ⟨b,s'',λ γ=>Zip (h1 γ) (h3 γ),h4⟩
    · exact ⟨c',s',λ γ=>Zip (h1 γ) ⟨rfl,rfl⟩,h2⟩
theorem Zv1 {a n:Nat} {f:Γ→Nat→β→SM (ForInStep β)} (I:Nat→(Γ→β)→(Γ→SortSt)→Prop) {Φ:(Γ→β)→(Γ→SortSt)→Prop}
    (step:∀ x c s,a≤x→x < n→I x c s→Fam (λ γ=>f γ x (c γ)) s λ r s'=>(∃ c',r=(λ γ=>.yield (c' γ))∧I (x+1) c' s')∨∃ c',r=(λ γ=>.done (c' γ))∧Φ c' s')
    (fin:∀ c s,I (max a n) c s→Φ c s) {c:Γ→β} {s:Γ→SortSt} (h:I a c s):Fam (λ γ=>forIn [a:n] (c γ) (f γ)) s Φ:=by
  have hsz:([a:n]:Std.Legacy.Range).size=n-a:=by simp [Std.Legacy.Range.size]
  have e:(λ γ=>(forIn [a:n] (c γ) (f γ):SM β))=λ γ=>forIn (List.range' a (n-a) 1) (c γ) (f γ):=by
    funext γ
    rw [Std.Legacy.Range.forIn_eq_forIn_range']
    show forIn (List.range' a ([a:n]:Std.Legacy.Range).size 1) (c γ) (f γ)=_
    rw [hsz]
  rw [e]
  refine Zg1 (I:=λ l c s=>∃ i,a≤i∧l=List.range' i l.length∧i+l.length=max a n∧I i c s) ?_ ?_ _ c s ⟨a,Z6q _,by rw [List.length_range'],by rw [List.length_range',Nat.add_comm]; exact (Nat.sub_add_eq_max n a).trans (Nat.max_comm n a),h⟩
  · rintro x l c s ⟨i,hai,hl,hm,hI⟩
    rw [Z7f,List.range'_succ] at hl
    obtain ⟨rfl,hl⟩:=List.cons.inj hl
    have hx:x < max a n:=hm▸Nat.lt_add_of_pos_right (Nat.succ_pos _)
    have hn:x < n:=(Nat.lt_or_ge x n).resolve_right λ q=>Nat.lt_irrefl _ (Z6t hx (Nat.max_le.mpr ⟨hai,q⟩))
    exact Zk6 (step x c s hai hn hI) λ r s' h'=>h'.imp (λ ⟨c',e,h'⟩=>⟨c',e,x+1,Nat.le_succ_of_le hai,hl,(Nat.succ_add_eq_add_succ x l.length).trans hm,h'⟩) id
  · rintro c s ⟨i,hai,hl,hm,hI⟩
    exact fin _ _ (hm▸hI)
def NumP (p:Keyed) (n:Int):Prop:=∃ t u,p=(.int n t,.int n u)
def UK (p:Γ→Keyed):Prop:=∃ n,∀ γ,NumP (p γ) n
def UO (o:Γ→Option Keyed):Prop:=(∀ γ,o γ=none)∨∃ p,UK p∧∀ γ,o γ=some (p γ)
def UA (a:Γ→Array Keyed) (n:Nat):Prop:=(∀ γ,(a γ).size=n)∧∀ i:Nat,UO λ γ=>(a γ)[i]?
theorem UA.at {a:Γ→Array Keyed} {n i:Nat} (h:UA a n) (hi:i < n):∃ p,UK p∧∀ γ,(a γ)[i]? = some (p γ):=by
  rcases h.2 i with h' | h'
  · by_cases hΓ:Nonempty Γ
    · obtain ⟨γ⟩:=hΓ
      have:=h' γ
      rw [Array.getElem?_eq_none_iff,h.1 γ] at this
      exact absurd hi (Nat.not_lt.mpr this)
    · exact ⟨λ zz=>(.none,.none),⟨0,λ γ=>absurd ⟨γ⟩ hΓ⟩,λ γ=>absurd ⟨γ⟩ hΓ⟩
  · exact h'
theorem UO.none:UO λ _:Γ=>(none:Option Keyed):=.inl λ zz=>rfl
theorem UO.ite {c:Prop} [Decidable c] {o1 o2:Γ→Option Keyed} (h1:UO o1) (h2:UO o2):UO λ γ=>if c then o1 γ else o2 γ:=by
  by_cases h:c
  · simpa only [if_pos h] using h1
  · simpa only [if_neg h] using h2
theorem UK.some {p:Γ→Keyed} (h:UK p):UO λ γ=>some (p γ):=.inr ⟨p,h,λ zz=>rfl⟩
theorem UO.congr {o1 o2:Γ→Option Keyed} (h:UO o2) (e:∀ γ,o1 γ=o2 γ):UO o1:=by rw [funext e]; exact h
theorem UA.mk1 {p:Γ→Keyed} (h:UK p):UA (λ γ=>#[p γ]) 1:=⟨λ zz=>rfl,λ i=>(UO.ite (c:=i=0) h.some UO.none).congr λ γ=>by
  by_cases e:i=0
  · subst e; simp
  · rw [if_neg e]; exact Array.getElem?_eq_none (Nat.pos_of_ne_zero e)⟩
theorem UA.push {a:Γ→Array Keyed} {n:Nat} {p:Γ→Keyed} (h:UA a n) (k:UK p):UA (λ γ=>(a γ).push (p γ)) (n+1):=
  ⟨λ γ=>by rw [Array.size_push,h.1],λ i=>(UO.ite (c:=i=n) k.some (h.2 i)).congr λ γ=>by rw [Array.getElem?_push,h.1]⟩
theorem UA.append {a b:Γ→Array Keyed} {n m:Nat} (h:UA a n) (k:UA b m):UA (λ γ=>a γ++b γ) (n+m):=
  ⟨λ γ=>by rw [Array.size_append,h.1,k.1],λ i=>(UO.ite (c:=i < n) (h.2 i) (k.2 (i-n))).congr λ γ=>by rw [Array.getElem?_append,h.1]⟩
theorem UA.extract {a:Γ→Array Keyed} {n i j:Nat} (h:UA a n):UA (λ γ=>(a γ).extract i j) (min j n-i):=
  ⟨λ γ=>by rw [Array.size_extract,h.1],λ k=>(UO.ite (c:=k < min j n-i) (h.2 (i+k)) UO.none).congr λ γ=>by rw [Array.getElem?_extract,h.1]⟩
theorem UA.reverse {a:Γ→Array Keyed} {n:Nat} (h:UA a n):UA (λ γ=>(a γ).reverse) n:=
  ⟨λ γ=>by rw [Array.size_reverse,h.1],λ k=>(UO.ite (c:=k < n) (h.2 (n-1-k)) UO.none).congr λ γ=>by
    by_cases e:k < n
    · rw [if_pos e,Array.getElem?_reverse (by rw [h.1]; exact e),h.1]
    · rw [if_neg e,Array.getElem?_eq_none_iff,Array.size_reverse,h.1]; exact Nat.not_lt.mp e⟩
theorem UA.swap {a:Γ→Array Keyed} {n:Nat} (h:UA a n) (i j:Nat):UA (λ γ=>(a γ).swapIfInBounds i j) n:=
  ⟨λ γ=>by rw [Array.size_swapIfInBounds,h.1],λ k=>by
    by_cases e:i < n∧j < n
    · exact (UO.ite (c:=j=k) (h.2 i) (UO.ite (c:=i=k) (h.2 j) (h.2 k))).congr λ γ=>getElem?_swapIB (by rw [h.1]; exact e.1) (by rw [h.1]; exact e.2) k
    · refine (h.2 k).congr λ γ=>?_
      show ((a γ).swapIfInBounds i j)[k]? = _
      rw [Array.swapIfInBounds_def]
      by_cases e1:i < (a γ).size
      · rw [dif_pos e1,dif_neg λ e2=>e ⟨h.1 γ▸e1,h.1 γ▸e2⟩]
      · rw [dif_neg e1]⟩
theorem UA.swaps (f g:Nat→Nat) {n:Nat}:∀ (l:List Nat) {a:Γ→Array Keyed},UA a n→UA (λ γ=>l.foldl (λ x k=>x.swapIfInBounds (f k) (g k)) (a γ)) n
  | [],a,h=>h
  | k::l,a,h=>UA.swaps f g l (h.swap (f k) (g k))
theorem UA.set {a:Γ→Array Keyed} {n i:Nat} {p:Γ→Keyed} (h:UA a n) (k:UK p):UA (λ γ=>(a γ).setIfInBounds i (p γ)) n:=
  ⟨λ γ=>by rw [Array.size_setIfInBounds,h.1],λ j=>(UO.ite (c:=i=j) (UO.ite (c:=i < n) k.some UO.none) (h.2 j)).congr λ γ=>by rw [Array.getElem?_setIfInBounds,h.1]⟩
theorem Zq4 {sa n:Nat}:∀ (m k:Nat) {l:Γ→List Keyed} {x:Γ→Array Keyed},(∀ γ,(l γ).length=m)→(∀ i:Nat,UO λ γ=>(l γ)[i]?)→UA x n→UA (λ γ=>((l γ).zipIdx k).foldl (λ a (p:Keyed×Nat)=>a.setIfInBounds (sa+p.2) p.1) (x γ)) n
  | 0,k,l,x,hl,ho,hx=>by
    rw [show l=λ zz=>[] from funext λ γ=>List.eq_nil_of_length_eq_zero (hl γ)]
    exact hx
  | m+1,k,l,x,hl,ho,hx=>by
    have hc:∀ γ,∃ q,(l γ)[0]? = some q∧l γ=q::(l γ).tail:=λ γ=>by
      cases e:l γ with
      | nil=>have:=hl γ; rw [e] at this; exact nomatch this
      | cons q r=>exact ⟨q,rfl,rfl⟩
    have hp:∃ p:Γ→Keyed,UK p∧∀ γ,l γ=p γ::(l γ).tail:=by
      rcases ho 0 with h | ⟨p,h,e⟩
      · exact ⟨λ zz=>(.none,.none),⟨0,λ γ=>let ⟨q,e,_⟩:=hc γ; nomatch (h γ).symm.trans e⟩,λ γ=>let ⟨q,e,_⟩:=hc γ; nomatch (h γ).symm.trans e⟩
      · exact ⟨p,h,λ γ=>let ⟨q,e1,e2⟩:=hc γ; Z7g (e1.symm.trans (e γ))▸e2⟩
    obtain ⟨p,hu,e⟩:=hp
    rw [show (λ γ=>((l γ).zipIdx k).foldl (λ a (p:Keyed×Nat)=>a.setIfInBounds (sa+p.2) p.1) (x γ))=λ γ=>((l γ).tail.zipIdx (k+1)).foldl (λ a (p:Keyed×Nat)=>a.setIfInBounds (sa+p.2) p.1) ((x γ).setIfInBounds (sa+k) (p γ)) from funext λ γ=>by rw [Z7r (λ l=>l.zipIdx k) (e γ)]; rfl]
    exact Zq4 m (k+1) (λ γ=>by rw [List.length_tail,hl]; rfl) (λ i=>(ho (i+1)).congr λ γ=>List.getElem?_tail) (hx.set hu)
theorem UA.sets {a b:Γ→Array Keyed} {n m:Nat} (h:UA a n) (k:UA b m) (sa:Nat):UA (λ γ=>(b γ).toList.zipIdx.foldl (λ a (p:Keyed×Nat)=>a.setIfInBounds (sa+p.2) p.1) (a γ)) n:=
  Zq4 m 0 (λ γ=>Z7k.trans (k.1 γ)) (λ i=>(k.2 i).congr λ γ=>Z7i) h
def SF (n:Nat) (p:Array (Nat×Nat×Nat)) (g:Nat) (s:Γ→SortSt):Prop:=∃ arr,UA arr n∧s=λ γ=>SortSt.mk' oneType' (arr γ) p g none
theorem Q8 {a:Γ→Array Keyed} {n i:Nat} {f:Γ→Keyed→SM β} {s Φ} (h:UA a n) (hi:i < n) (k:∀ p:Γ→Keyed,UK p→Fam (λ γ=>f γ (p γ)) s Φ):Fam (λ γ=>elem' (a γ) i >>= f γ) s Φ:=by
  obtain ⟨p,hp,e⟩:=h.at hi
  refine Zz ?_
  have:(λ γ=>elem' (a γ) i)=λ γ=>pure (p γ):=funext λ γ=>by rw [elem'_eq,e]
  rw [this]
  exact Zv (k p hp)
theorem Zq8 {x y:Γ→Keyed} {n g} {p} {f:Γ→Option Bool→SM β} {s Φ} (hx:UK x) (hy:UK y) (hs:SF n p g s) (k:∀ b,Fam (λ γ=>f γ (some b)) s Φ):Fam (λ γ=>lt' (x γ) (y γ) >>= f γ) s Φ:=by
  obtain ⟨m1,h1⟩:=hx
  obtain ⟨m2,h2⟩:=hy
  refine Zz ⟨λ zz=>some (decide (m1 < m2)),s,λ γ zz zz zz zz zz zz q=>?_,k _⟩
  obtain ⟨t1,u1,e1⟩:=h1 γ
  obtain ⟨t2,u2,e2⟩:=h2 γ
  show wpS _ _ _ _ (lt' (x γ) (y γ)) _ _
  rw [e1,e2,lt'_eq]
  refine wpS_bind (wpS_get ?_)
  obtain ⟨arr,zz,rfl⟩:=hs
  refine wpS_bind (wpS_lift (wpAny_attempt (oneLt_int ⟨rfl,?_⟩)))
  exact wpS_pure q
end
end PL
end
section
open PySem PySem.W PyProof.Rows
namespace PL
noncomputable def Zks:Bool→Keyed→Array Keyed→Nat→Nat→Nat→SM (Option Nat):=sortPriv% PySem.Builtin.gallop
section
variable {Γ:Type} {α β:Type}
def Zpn (I J:(Γ→β)→(Γ→SortSt)→Prop) (r:Γ→ForInStep β) (s:Γ→SortSt):Prop:=(∃ c',r=(λ γ=>.yield (c' γ))∧I c' s)∨∃ c',r=(λ γ=>.done (c' γ))∧J c' s
theorem Zal {n:Nat} {N:Γ→Nat} {f:Γ→Nat→β→SM (ForInStep β)} {k:Γ→β→SM α} (I:Nat→(Γ→β)→(Γ→SortSt)→Prop) (J:(Γ→β)→(Γ→SortSt)→Prop) {Φ:(Γ→α)→(Γ→SortSt)→Prop} {c:Γ→β} {s:Γ→SortSt} (hN:∀ γ,N γ=n) (init:I 0 c s)
    (step:∀ x c s,x < n→I x c s→Fam (λ γ=>f γ x (c γ)) s (Zpn (I (x+1)) J))
    (fin:∀ c s,I n c s→J c s) (cont:∀ c s,J c s→Fam (λ γ=>k γ (c γ)) s Φ):Fam (λ γ=>forIn [0:N γ] (c γ) (f γ) >>= k γ) s Φ:=by
  obtain rfl:N=λ zz=>n:=funext hN
  exact Zz (Zk6 (Zv1 I (λ x c s zz h=>step x c s h) (λ c s h=>fin c s (by rwa [Nat.zero_max] at h)) init) cont)
theorem Zbl {n:Nat} {N:Γ→Nat} {f:Γ→Nat→β→SM (ForInStep β)} {k:Γ→β→SM α} (J:(Γ→β)→(Γ→SortSt)→Prop) {Φ:(Γ→α)→(Γ→SortSt)→Prop} {c:Γ→β} {s:Γ→SortSt} (hN:∀ γ,N γ=n) (init:J c s)
    (step:∀ x c s,x < n→J c s→Fam (λ γ=>f γ x (c γ)) s (Zpn J J))
    (cont:∀ c s,J c s→Fam (λ γ=>k γ (c γ)) s Φ):Fam (λ γ=>forIn [0:N γ] (c γ) (f γ) >>= k γ) s Φ:=
  Zal (λ zz=>J) J hN init step (λ zz zz h=>h) cont
theorem Zk {I J:(Γ→β)→(Γ→SortSt)→Prop} {c:Γ→β} {s:Γ→SortSt} (h:I c s):Fam (λ γ=>(pure (ForInStep.yield (c γ)):SM (ForInStep β))) s (Zpn I J):=Zv (.inl ⟨c,rfl,h⟩)
theorem Zp {I J:(Γ→β)→(Γ→SortSt)→Prop} {c:Γ→β} {s:Γ→SortSt} (h:J c s):Fam (λ γ=>(pure (ForInStep.done (c γ)):SM (ForInStep β))) s (Zpn I J):=Zv (.inr ⟨c,rfl,h⟩)
theorem Zk7 {x n:Nat} {N:Γ→Nat} {A B:Γ→SM α} {s Φ} (hN:∀ γ,N γ=n) (h1:x=n→Fam A s Φ) (h2:x≠n→Fam B s Φ):Fam (λ γ=>if (x==N γ)=true then A γ else B γ) s Φ:=by
  obtain rfl:N=λ zz=>n:=funext hN
  exact Zj (λ h=>h1 (Z7u h)) λ h=>h2 λ e=>h (beq_iff_eq.mpr e)
theorem Zev {left:Bool} {key:Γ→Keyed} {a:Γ→Array Keyed} {n i:Nat} {N g p} {s:Γ→SortSt} {k:Γ→Option Bool→SM α} {Φ} (hk:UK key) (ha:UA a n) (hs:SF N p g s) (hi:i < n) (h:∀ b,Fam (λ γ=>k γ (some b)) s Φ):
    Fam (λ γ=>(elem' (a γ) i >>= λ x=>if left=true then lt' x (key γ) else lt' (key γ) x >>= λ r=>pure (Option.map (λ x=>!x) r)) >>= k γ) s Φ:=by
  refine Zz (Q8 ha hi λ q hq=>?_)
  refine Zj (λ zz=>?_) λ zz=>Zq8 hk hq hs λ b=>Zv (h !b)
  have:=Zq8 (f:=λ zz r=>pure r) (Φ:=λ a s'=>Fam (λ γ=>k γ (a γ)) s' Φ) hq hk hs λ b=>Zv (h b)
  simpa only [bind_pure] using this
theorem Zz9 {lo hi m:Nat} (h:¬ lo ≥ hi) (k:hi≤m):lo+(hi-lo) / 2 < m:=have a:=Nat.not_le.mp h; Z6t (Nat.lt_of_lt_of_eq (Nat.add_lt_add_left (Nat.div_lt_self (Nat.sub_pos_of_lt a) (Z6q 2)) lo) (Nat.add_sub_of_le (Z64 a))) k
theorem Z38 {lo hi n b m:Nat} (h:¬ lo ≥ hi) (k:hi≤m) (hb:b+m≤n):b+(lo+(hi-lo) / 2) < n:=Z6t (Nat.add_lt_add_left (Zz9 h k) b) hb
def GInv (s:Γ→SortSt) (P:Nat→Nat→Prop) (c:Γ→Option (Option Nat)×Nat×Nat) (s':Γ→SortSt):Prop:=s'=s∧∃ l o,c=(λ zz=>(none,l,o))∧P l o
theorem GInv.mk {s:Γ→SortSt} {P:Nat→Nat→Prop} {l o:Nat} (h:P l o):GInv s P (λ zz=>(none,l,o)) s:=⟨rfl,l,o,rfl,h⟩
@[elab_as_elim] theorem GInv.el {s:Γ→SortSt} {P:Nat→Nat→Prop} {motive:(Γ→Option (Option Nat)×Nat×Nat)→(Γ→SortSt)→Prop} {c:Γ→Option (Option Nat)×Nat×Nat} {s':Γ→SortSt} (h:GInv s P c s') (k:∀ l o,P l o→motive (λ zz=>(none,l,o)) s):motive c s':=by
  obtain ⟨rfl,l,o,rfl,h⟩:=h
  exact k l o h
theorem Zet {left:Bool} {key:Γ→Keyed} {a:Γ→Array Keyed} {n base m hint:Nat} {M:Γ→Nat} {N g p} {s:Γ→SortSt} {k:Γ→Option Nat→SM α} {Φ} (hM:∀ γ,M γ=m) (hk:UK key) (ha:UA a n) (hs:SF N p g s) (hb:base+m≤n) (hh:hint < m)
    (h:∀ r,r≤m→Fam (λ γ=>k γ (some r)) s Φ):Fam (λ γ=>Zks left (key γ) (a γ) base (M γ) hint >>= k γ) s Φ:=by
  obtain rfl:M=λ zz=>m:=funext hM
  refine Zz ?_
  unfold Zks
  refine Zev hk ha hs (Z6t (Nat.add_lt_add_left hh _) hb) λ b=>Zj (λ zz=>?_) λ zz=>?_
  all_goals
    refine Zbl (GInv s λ l o=>l < o∧l≤hint+m) (λ zz=>rfl) (.mk ⟨Nat.zero_lt_one,Z63 _⟩) ?_ ?_
    · intro x c s' zz hh
      refine GInv.el hh λ l o hP=>?_
      have hl:=hP.1
      have hl2:=hP.2
      clear hP hh
      refine Zj (λ zz=>Zp (.mk ⟨hl,hl2⟩)) λ ho=>Zev hk ha hs (by lia) λ b=>?_
      cases b
      · first
          | exact Zp (.mk ⟨hl,hl2⟩)
          | exact Zk (.mk ⟨by lia,by lia⟩)
      · first
          | exact Zp (.mk ⟨hl,hl2⟩)
          | exact Zk (.mk ⟨by lia,by lia⟩)
    · intro c s' hh
      refine GInv.el hh λ l o hP=>?_
      have hl:=hP.1
      have hl2:=hP.2
      clear hP hh
      refine Zbl (GInv s λ lo hi=>hi≤m) (λ zz=>rfl) (.mk (by lia)) ?_ ?_
      · intro x c s' zz hh
        refine GInv.el hh λ lo hi hm=>?_
        refine Zj (λ zz=>Zp (.mk hm)) λ ho=>Zev hk ha hs (Z38 ho hm hb) λ b=>?_
        cases b
        · exact Zk (.mk (Z64 (Zz9 ho hm)))
        · exact Zk (.mk hm)
      · intro c s' hh
        refine GInv.el hh λ lo hi hm=>?_
        exact Zv (h hi hm)
end
end PL
end
section
open PySem PySem.W PyProof.Rows
namespace PL
noncomputable def Zqh:Array Keyed→Array Keyed→SM (Array Keyed):=sortPriv% PySem.Builtin.mergeLo
noncomputable def Zc9:Nat→SM Unit:=sortPriv% PySem.Builtin.setMinGallop
section
variable {Γ:Type} {α β:Type}
@[elab_as_elim] theorem SF.el {N g:Nat} {p} {motive:(Γ→SortSt)→Prop} {s:Γ→SortSt} (h:SF N p g s) (k:∀ arr,UA arr N→SF N p g (λ γ:Γ=>SortSt.mk' oneType' (arr γ) p g none)→motive λ γ=>SortSt.mk' oneType' (arr γ) p g none):motive s:=by
  obtain ⟨arr,h,rfl⟩:=h
  exact k arr h ⟨arr,h,rfl⟩
theorem SF.setGal {N g:Nat} {p} {s:Γ→SortSt} (h:SF N p g s) (g':Nat):SF N p g' λ γ=>SortSt.mk' (kindOf (s γ)) (arrOf (s γ)) (pendingOf (s γ)) g' (failedOf (s γ)):=by
  obtain ⟨arr,h,rfl⟩:=h
  exact ⟨arr,h,rfl⟩
theorem Zes {N g g':Nat} {p} {s:Γ→SortSt} {k:Γ→Unit→SM α} {Φ} (hs:SF N p g s) (h:∀ s',SF N p g' s'→Fam (λ γ=>k γ ()) s' Φ):Fam (λ γ=>Zc9 g' >>= k γ) s Φ:=
  Zz (Zab (h _ (hs.setGal g')))
theorem Q7 {s:Γ→SortSt} {k:Γ→SortSt→SM α} {Φ} (h:Fam (λ γ=>k γ (s γ)) s Φ):Fam (λ γ=>get >>= k γ) s Φ:=Zz (Z12 h)
theorem Zaa {n:String} {s:Γ→SortSt} {k:Γ→Unit→SM α} {Φ} (h:Fam (λ γ=>k γ ()) s Φ):Fam (λ γ=>liftM (rule n) >>= k γ) s Φ:=Zz (Zy7 h)
theorem UA.rest {a:Γ→Array Keyed} {n i:Nat} (h:UA a n):UA (λ γ=>(a γ).extract i (a γ).size) (min n n-i):=by
  rw [show (λ γ=>(a γ).extract i (a γ).size)=λ γ=>(a γ).extract i n from funext λ γ=>by rw [h.1 γ]]
  exact h.extract
inductive MI {ρ:Type} (N:Nat) (p:Array (Nat×Nat×Nat)) (P:Nat→Nat→Prop):(Γ→Option (Array Keyed)×Array Keyed×Nat×Nat×ρ)→(Γ→SortSt)→Prop
  | mk' (out:Γ→Array Keyed) (m ia ib:Nat) (r:ρ) (g:Nat) (s:Γ→SortSt) (ho:UA out m) (hs:SF N p g s) (h:P ia ib):MI N p P (λ γ=>(none,out γ,ia,ib,r)) s
inductive MR {ρ:Type} (N:Nat) (p:Array (Nat×Nat×Nat)):(Γ→Option (Array Keyed)×ρ)→(Γ→SortSt)→Prop
  | mk' (out:Γ→Array Keyed) (m g:Nat) (r:Γ→ρ) (s:Γ→SortSt) (ho:UA out m) (hs:SF N p g s):MR N p (λ γ=>(some (out γ),r γ)) s
inductive MJ {ρ:Type} (N:Nat) (p:Array (Nat×Nat×Nat)) (P:Nat→Nat→Prop):(Γ→Option (Array Keyed)×Array Keyed×Nat×Nat×ρ)→(Γ→SortSt)→Prop
  | i' (out:Γ→Array Keyed) (m ia ib:Nat) (r:ρ) (g:Nat) (s:Γ→SortSt) (ho:UA out m) (hs:SF N p g s) (h:P ia ib):MJ N p P (λ γ=>(none,out γ,ia,ib,r)) s
  | r' (out:Γ→Array Keyed) (m g:Nat) (r:Γ→Array Keyed×Nat×Nat×ρ) (s:Γ→SortSt) (ho:UA out m) (hs:SF N p g s):MJ N p P (λ γ=>(some (out γ),r γ)) s
section
variable {ρ:Type} {N g m ia ib:Nat} {p:Array (Nat×Nat×Nat)} {P:Nat→Nat→Prop} {out:Γ→Array Keyed} {r:ρ} {s:Γ→SortSt}
theorem MI.mk (ho:UA out m) (hs:SF N p g s) (h:P ia ib):MI N p P (λ γ=>(none,out γ,ia,ib,r)) s:=.mk' _ _ _ _ _ _ _ ho hs h
theorem MJ.i (ho:UA out m) (hs:SF N p g s) (h:P ia ib):MJ N p P (λ γ=>(none,out γ,ia,ib,r)) s:=.i' _ _ _ _ _ _ _ ho hs h
theorem MR.mk {r:Γ→ρ} (ho:UA out m) (hs:SF N p g s):MR N p (λ γ=>(some (out γ),r γ)) s:=.mk' _ _ _ _ _ ho hs
theorem MJ.e {r:Γ→Array Keyed×Nat×Nat×ρ} (ho:UA out m) (hs:SF N p g s):MJ N p P (λ γ=>(some (out γ),r γ)) s:=.r' _ _ _ _ _ ho hs
@[elab_as_elim] theorem MI.el {motive:(Γ→Option (Array Keyed)×Array Keyed×Nat×Nat×ρ)→(Γ→SortSt)→Prop} {c:Γ→Option (Array Keyed)×Array Keyed×Nat×Nat×ρ} (h:MI N p P c s) (k:∀ out m ia ib (r:ρ) g s,UA out m→SF N p g s→P ia ib→motive (λ γ=>(none,out γ,ia,ib,r)) s):motive c s:=
  MI.casesOn (motive:=λ c s zz=>motive c s) h k
@[elab_as_elim] theorem MR.el {motive:(Γ→Option (Array Keyed)×ρ)→(Γ→SortSt)→Prop} {c:Γ→Option (Array Keyed)×ρ} (h:MR N p c s) (k:∀ out m g (r:Γ→ρ) s,UA out m→SF N p g s→motive (λ γ=>(some (out γ),r γ)) s):motive c s:=
  MR.casesOn (motive:=λ c s zz=>motive c s) h k
@[elab_as_elim] theorem MJ.el {motive:(Γ→Option (Array Keyed)×Array Keyed×Nat×Nat×ρ)→(Γ→SortSt)→Prop} {c:Γ→Option (Array Keyed)×Array Keyed×Nat×Nat×ρ} (h:MJ N p P c s) (k:∀ out m ia ib (r:ρ) g s,UA out m→SF N p g s→P ia ib→motive (λ γ=>(none,out γ,ia,ib,r)) s)
    (k':∀ out m g (r:Γ→Array Keyed×Nat×Nat×ρ) s,UA out m→SF N p g s→motive (λ γ=>(some (out γ),r γ)) s):motive c s:=MJ.casesOn (motive:=λ c s zz=>motive c s) h k k'
theorem MI.j {c:Γ→Option (Array Keyed)×Array Keyed×Nat×Nat×ρ}:MI N p P c s→MJ N p P c s
  | .mk' _ _ _ _ _ _ _ ho hs h=>.i ho hs h
end
theorem Zbj {ρ:Type} {N g m:Nat} {p} {P I} {out:Γ→Array Keyed} {r:Γ→Array Keyed×Nat×Nat×ρ} {s:Γ→SortSt} (ho:UA out m) (hs:SF N p g s):
    Fam (λ γ=>(pure (ForInStep.done (some (out γ),r γ)):SM (ForInStep (Option (Array Keyed)×Array Keyed×Nat×Nat×ρ)))) s (Zpn I (MJ N p P)):=Zp (.e ho hs)
def LoP (na nb x ia ib:Nat):Prop:=ia+1 < na∧ib < nb∧x≤ia+ib
theorem Zuy {a b:Nat} (h:a < b) (k:a+1≠b):a+1 < b:=Nat.lt_of_le_of_ne h k
theorem LoP.lt {na nb x ia ib:Nat} (h:LoP na nb x ia ib):ia < na:=Nat.lt_of_succ_lt h.1
theorem LoP.a {na nb x ia ib:Nat} (h:LoP na nb x ia ib) (k:ia+1+1≠na):LoP na nb (x+1) (ia+1) ib:=⟨Zuy h.1 k,h.2.1,Nat.add_right_comm ia 1 ib▸Z6v h.2.2⟩
theorem LoP.b {na nb x ia ib:Nat} (h:LoP na nb x ia ib) (k:ib+1≠nb):LoP na nb (x+1) ia (ib+1):=⟨h.1,Zuy h.2.1 k,Z6v h.2.2⟩
theorem LoP.le {na nb x y ia ib:Nat} (h:LoP na nb x ia ib) (k:y≤x):LoP na nb y ia ib:=⟨h.1,h.2.1,Z6p k h.2.2⟩
theorem LoP.ka {na nb x ia ib k:Nat} (h:LoP na nb x ia ib) (hk:k≤na-ia) (k1:ia+k+1≠na) (k2:ia+k≠na):LoP na nb x (ia+k) ib:=⟨Zuy (Nat.lt_of_le_of_ne (Nat.add_comm k ia▸Nat.add_le_of_le_sub (Z64 h.lt) hk) k2) k1,h.2.1,Z6p h.2.2 (Z6x (Z6r ia k) ib)⟩
theorem LoP.kb {na nb x ia ib k:Nat} (h:LoP na nb x ia ib) (hk:k≤nb-ib) (k1:ib+k≠nb):LoP na nb x ia (ib+k):=⟨h.1,Nat.lt_of_le_of_ne (Nat.add_comm k ib▸Nat.add_le_of_le_sub (Z64 h.2.1) hk) k1,Z6p h.2.2 (Z6w (Z6r ib k) ia)⟩
theorem Zqg {x y:Nat}:x+min (y+1) 1≤x+min y 1+1:=Z60 x _ 1▸Z6w (Z6p (Nat.min_le_right _ _) (Z6s 1 _)) x
theorem Zke {x y:Nat}:x+1≤x+min y 1+1:=Z6v (Z6r _ _)
theorem Z0o {n i:Nat} (h:i < n):i+(n-i)≤n:=Z62 (Nat.add_sub_of_le (Z64 h))
theorem cut {T G:Prop} (a:T) (b:T→G):G:=b a
theorem Zqp {x:Nat}:x+1≤x+1+1+1:=Z6r _ 2
theorem Zv2 {x n:Nat} {N:Γ→Nat} {inst:∀ γ,Decidable ((x==N γ)=true)} {A B:Γ→SM α} {s Φ} (hN:∀ γ,N γ=n) (h1:x=n→Fam A s Φ) (h2:x≠n→Fam B s Φ):Fam (λ γ=>@ite _ ((x==N γ)=true) (inst γ) (A γ) (B γ)) s Φ:=by
  obtain rfl:N=λ zz=>n:=funext hN
  exact Zj (λ h=>h1 (Z7u h)) λ h=>h2 λ e=>h (beq_iff_eq.mpr e)
section
variable {a b:Γ→Array Keyed} {na nb i j x v x2 v2:Nat} {N1 N2:Γ→Nat} {s:Γ→SortSt} {Φ:(Γ→α)→(Γ→SortSt)→Prop}
theorem Zbm {inst:∀ γ,Decidable ((x==N1 γ)=true)} {A B:Γ→Keyed→SM α} (hb:UA b nb) (hi:i < nb) (e:∀ γ,N1 γ=v) (kA:∀ q:Γ→Keyed,UK q→Fam (λ γ=>A γ (q γ)) s Φ) (kB:∀ q:Γ→Keyed,UK q→x≠v→Fam (λ γ=>B γ (q γ)) s Φ):
    Fam (λ γ=>elem' (b γ) i >>= λ q=>@ite _ ((x==N1 γ)=true) (inst γ) (A γ q) (B γ q)) s Φ:=Q8 hb hi λ q hq=>Zv2 e (λ zz=>kA q hq) (kB q hq)
theorem Zv5 {i1:∀ γ,Decidable ((x==N1 γ)=true)} {i2:∀ γ,Decidable ((x2==N2 γ)=true)} {A B C:Γ→Keyed→SM α} (hb:UA b nb) (hi:i < nb) (e1:∀ γ,N1 γ=v) (e2:∀ γ,N2 γ=v2) (kA:∀ q:Γ→Keyed,UK q→Fam (λ γ=>A γ (q γ)) s Φ) (kB:∀ q:Γ→Keyed,UK q→Fam (λ γ=>B γ (q γ)) s Φ) (kC:∀ q:Γ→Keyed,UK q→x≠v→x2≠v2→Fam (λ γ=>C γ (q γ)) s Φ):
    Fam (λ γ=>elem' (b γ) i >>= λ q=>@ite _ ((x==N1 γ)=true) (i1 γ) (A γ q) (@ite _ ((x2==N2 γ)=true) (i2 γ) (B γ q) (C γ q))) s Φ:=
  Zbm hb hi e1 kA λ q hq h1=>Zv2 e2 (λ zz=>kB q hq) (kC q hq h1)
theorem Zv4 {N g:Nat} {p} {f:Γ→Option Bool→SM α} (hb:UA b nb) (hi:i < nb) (ha:UA a na) (hj:j < na) (hs:SF N p g s) (k:∀ w,Fam (λ γ=>f γ (some w)) s Φ):Fam (λ γ=>elem' (b γ) i >>= λ q=>elem' (a γ) j >>= λ r=>lt' q r >>= f γ) s Φ:=
  Q8 hb hi λ q hq=>Q8 ha hj λ r hr=>Zq8 hq hr hs k
theorem Zv3 {l:Bool} {N g c m hint:Nat} {M:Γ→Nat} {p} {f:Γ→Option Nat→SM α} (hb:UA b nb) (hi:i < nb) (hM:∀ γ,M γ=m) (ha:UA a na) (hs:SF N p g s) (h1:c+m≤na) (h2:hint < m) (k:∀ r,r≤m→Fam (λ γ=>f γ (some r)) s Φ):
    Fam (λ γ=>elem' (b γ) i >>= λ q=>Zks l q (a γ) c (M γ) hint >>= f γ) s Φ:=Q8 hb hi λ q hq=>Zet hM hq ha hs h1 h2 k
theorem Zvz {l:Bool} {N g g' c m hint:Nat} {M:Γ→Nat} {p} {f:Γ→Option Nat→SM α} (hb:UA b nb) (hi:i < nb) (hM:∀ γ,M γ=m) (ha:UA a na) (hs:SF N p g s) (h1:c+m≤na) (h2:hint < m) (k:∀ s',SF N p g' s'→∀ r,r≤m→Fam (λ γ=>f γ (some r)) s' Φ):
    Fam (λ γ=>Zc9 g' >>= λ zz=>elem' (b γ) i >>= λ q=>Zks l q (a γ) c (M γ) hint >>= f γ) s Φ:=Zes hs λ s' hs'=>Zv3 hb hi hM ha hs' h1 h2 (k s' hs')
end
theorem Zo6 {a b:Γ→Array Keyed} {na nb:Nat} {N g:Nat} {p} {s:Γ→SortSt} {k:Γ→Array Keyed→SM α} {Φ} (ha:UA a na) (hb:UA b nb) (ha0:0 < na) (hb0:0 < nb) (hs:SF N p g s)
    (h:∀ out m g' s',UA out m→SF N p g' s'→Fam (λ γ=>k γ (out γ)) s' Φ):Fam (λ γ=>Zqh (a γ) (b γ) >>= k γ) s Φ:=by
  refine Zz ?_
  unfold Zqh
  have hN:∀ γ,(a γ).size+(b γ).size=na+nb:=λ γ=>by rw [ha.1,hb.1]
  refine Zaa (Zv5 hb hb0 hb.1 ha.1 (λ q0 hq0=>Zv (h _ _ _ _ (((UA.mk1 hq0).append ha.rest).append hb.rest) hs)) (λ q0 hq0=>Zv (h _ _ _ _ (((UA.mk1 hq0).append hb.rest).append ha.rest) hs)) λ q0 hq0 h1 h2=>?_)
  refine SF.el hs λ arr har hs=>Q7 ?_
  refine Zal (I:=λ x=>MI N p (LoP na nb x)) (J:=MR N p) hN (.mk (UA.mk1 hq0) hs ⟨Zuy ha0 h2,Zuy hb0 h1,Z63 _⟩) ?_ ?_ ?_
  · intro x c s' hx hh
    refine MI.el hh λ out m ia ib mg g' s ho hs' hP=>?_
    dsimp only
    refine Zal (I:=λ y=>MI N p (LoP na nb (x+min y 1))) (J:=MJ N p (LoP na nb (x+1))) hN (.mk ho hs' hP) ?_ ?_ ?_
    · intro y c s'' hy hh
      refine MI.el hh λ out m ia ib r g' s ho hs' hP=>?_
      dsimp only
      refine Zv4 hb hP.2.1 ha hP.lt hs' λ bw=>?_
      refine Zj (λ zz=>?_) λ zz=>?_
      · refine Zbm hb hP.2.1 hb.1 (λ q3 hq3=>Zbj (((ho.push hq3).append ha.rest).append hb.rest) hs') λ q3 hq3 h3=>?_
        refine Zj (λ zz=>?_) λ zz=>?_
        · exact Zp (.i (ho.push hq3) hs' ((hP.b h3).le Zke))
        · exact Zk (MI.mk (ho.push hq3) hs' ((hP.b h3).le Zqg))
      · refine Zbm ha hP.lt ha.1 (λ q3 hq3=>Zbj (((ho.push hq3).append hb.rest).append ha.rest) hs') λ q3 hq3 h3=>?_
        refine Zj (λ zz=>?_) λ zz=>?_
        · exact Zp (.i (ho.push hq3) hs' ((hP.a h3).le Zke))
        · exact Zk (MI.mk (ho.push hq3) hs' ((hP.a h3).le Zqg))
    · intro c s'' hh
      refine MI.el hh λ out m ia ib r g' s ho hs' hP=>?_
      exact .i ho hs' (hP.le (by lia))
    · intro c s'' hh
      refine MJ.el hh (λ out m ia ib r g' s ho hs' hP=>?_) λ out m g' r s ho hs'=>?_
      · dsimp only
        refine Zaa ?_
        refine Zal (I:=λ zz=>MI N p (LoP na nb (x+1))) (J:=MJ N p (LoP na nb (x+1))) hN (.mk ho hs' hP) ?_ (λ c s h=>h.j) ?_
        · apply cut
          rotate_left
          · intro jp2
            intro y c s'' hy hh
            refine MI.el hh λ out m ia ib r g' s ho hs' hP=>?_
            dsimp only
            apply cut
            rotate_left
            · intro jp1
              refine Zj (λ zz=>?_) λ zz=>?_
              rotate_left
              · generalize r.fst=mg
                revert mg
                exact jp1
              · exact jp1 _
            intro mg
            refine Zvz hb hP.2.1 (λ γ=>by rw [ha.1]) ha hs' (Z0o hP.lt) (Nat.sub_pos_of_lt hP.lt) λ s2 hs2 k1 hk1=>?_
            refine Zj (λ zz=>?_) λ hk0=>?_
            rotate_left
            · clear hk0 hk1 hs'
              revert hs2 ho hP
              revert s2 out m ia ib mg k1 r
              exact jp2
            · exact Zk7 ha.1 (λ zz=>Zbj (((ho.append ha.extract).append hb.rest).append ha.rest) hs2) λ e1=>Zk7 ha.1 (λ zz=>Zbj (((ho.append ha.extract).append ha.rest).append hb.rest) hs2) λ e2=>jp2 (λ γ=>out γ++(a γ).extract ia (ia+k1)) _ _ _ _ _ _ _ (ho.append ha.extract) (hP.ka hk1 e1 e2) hs2
          intro out m ia ib r mg s2 k1 ho hP hs2
          refine Zbm hb hP.2.1 hb.1 (λ q3 hq3=>Zbj (((ho.push hq3).append ha.rest).append hb.rest) hs2) λ q3 hq3 e3=>?_
          have hP:=hP.b e3
          refine Zv3 ha hP.lt (λ γ=>by rw [hb.1]) hb hs2 (Z0o hP.2.1) (Nat.sub_pos_of_lt hP.2.1) λ k2 hk2=>?_
          have ho:=ho.push hq3
          refine Zj (λ zz=>Zk7 hb.1 (λ zz=>Zbj ((ho.append hb.extract).append ha.rest |>.append hb.rest) hs2) λ e4=>?_) λ zz=>?_
          · have hP:=hP.kb hk2 e4
            have ho:=ho.append (hb.extract (i:=ib+1) (j:=ib+1+k2))
            refine Zbm ha hP.lt ha.1 (λ q5 hq5=>Zbj (((ho.push hq5).append hb.rest).append ha.rest) hs2) λ q5 hq5 e5=>?_
            have hP:=(hP.a e5).le (Zqp (x:=x))
            refine Zj (λ zz=>?_) λ zz=>?_
            · exact Zp (.i (ho.push hq5) hs2 hP)
            · exact Zk (MI.mk (ho.push hq5) hs2 hP)
          · refine Zbm ha hP.lt ha.1 (λ q5 hq5=>Zbj (((ho.push hq5).append hb.rest).append ha.rest) hs2) λ q5 hq5 e5=>?_
            have hP:=(hP.a e5).le (Zqp (x:=x))
            refine Zj (λ zz=>?_) λ zz=>?_
            · exact Zp (.i (ho.push hq5) hs2 hP)
            · exact Zk (MI.mk (ho.push hq5) hs2 hP)
        · intro c s'' hh
          refine MJ.el hh (λ out m ia ib r g' s ho hs' hP=>?_) λ out m g' r s ho hs'=>?_
          · dsimp only
            refine Zes hs' λ s2 hs2=>?_
            exact Zk (MI.mk ho hs2 hP)
          · exact Zp (MR.mk ho hs')
      · exact Zp (MR.mk ho hs')
  · intro c s' hh
    refine MI.el hh λ out m ia ib mg g' s ho hs' hP=>?_
    have:=hP.1; have:=hP.2.1; have:=hP.2.2; lia
  · intro c s' hh
    refine MR.el hh λ out m g' r s ho hs'=>?_
    exact Zv (h _ _ _ _ ho hs')
end
end PL
end
section
open PySem PySem.W PyProof.Rows
namespace PL
noncomputable def Zqi:Array Keyed→Array Keyed→SM (Array Keyed):=sortPriv% PySem.Builtin.mergeHi
section
variable {Γ:Type} {α β:Type}
theorem Zeu {x n:Nat} {inst:Γ→Decidable ((x==n)=true)} {A B:Γ→SM α} {s Φ} (h1:x=n→Fam A s Φ) (h2:x≠n→Fam B s Φ):Fam (λ γ=>@ite _ ((x==n)=true) (inst γ) (A γ) (B γ)) s Φ:=
  Zj (λ h=>h1 (Z7u h)) λ h=>h2 λ e=>h (beq_iff_eq.mpr e)
def HiP (na nb x ia ib:Nat):Prop:=0 < ia∧1 < ib∧ia < na∧ib≤nb∧x+ia+ib≤na+nb
theorem HiP.ea {na nb x ia ib:Nat} (h:HiP na nb x ia ib):ia-1 < na:=Z6u (Nat.sub_le _ _) h.2.2.1
theorem HiP.eb {na nb x ia ib:Nat} (h:HiP na nb x ia ib):ib-1 < nb:=Z6t (Nat.sub_lt (Nat.lt_trans Nat.zero_lt_one h.2.1) Nat.zero_lt_one) h.2.2.2.1
theorem Z2y {x i:Nat} (h:0 < i):x+1+(i-1)=x+i:=by rw [Z60,Nat.add_sub_of_le h]
theorem HiP.a {na nb x ia ib:Nat} (h:HiP na nb x ia ib) (k:ia-1≠0):HiP na nb (x+1) (ia-1) ib:=⟨Nat.pos_of_ne_zero k,h.2.1,h.ea,h.2.2.2.1,by rw [Z2y h.1]; exact h.2.2.2.2⟩
theorem HiP.b {na nb x ia ib:Nat} (h:HiP na nb x ia ib) (k:ib-1≠1):HiP na nb (x+1) ia (ib-1):=⟨h.1,Nat.lt_of_le_of_ne (Nat.le_sub_one_of_lt h.2.1) k.symm,h.2.2.1,Z64 h.eb,by rw [Nat.add_right_comm x 1 ia,Z2y (Nat.lt_trans Nat.zero_lt_one h.2.1)]; exact h.2.2.2.2⟩
theorem HiP.le {na nb x y ia ib:Nat} (h:HiP na nb x ia ib) (k:y≤x):HiP na nb y ia ib:=⟨h.1,h.2.1,h.2.2.1,h.2.2.2.1,Z6p (Z6x (Z6x k ia) ib) h.2.2.2.2⟩
theorem HiP.ka {na nb x ia ib k:Nat} (h:HiP na nb x ia ib) (hk:k≤ia) (k1:k≠0):HiP na nb x k ib:=⟨Nat.pos_of_ne_zero k1,h.2.1,Z6u hk h.2.2.1,h.2.2.2.1,Z6p (Z6x (Z6w hk x) ib) h.2.2.2.2⟩
theorem HiP.kb {na nb x ia ib k:Nat} (h:HiP na nb x ia ib) (hk:k≤ib) (k1:k≠1) (k2:k≠0):HiP na nb x ia k:=⟨h.1,Nat.lt_of_le_of_ne (Nat.pos_of_ne_zero k2) k1.symm,h.2.2.1,Z6p hk h.2.2.2.1,Z6p (Z6w hk (x+ia)) h.2.2.2.2⟩
inductive HI {ρ:Type} (N:Nat) (p:Array (Nat×Nat×Nat)) (P:Nat→Nat→Prop):(Γ→Option (Array Keyed)×Nat×Nat×Array Keyed×ρ)→(Γ→SortSt)→Prop
  | mk' (out:Γ→Array Keyed) (m ia ib:Nat) (r:ρ) (g:Nat) (s:Γ→SortSt) (ho:UA out m) (hs:SF N p g s) (h:P ia ib):HI N p P (λ γ=>(none,ia,ib,out γ,r)) s
inductive HJ {ρ:Type} (N:Nat) (p:Array (Nat×Nat×Nat)) (P:Nat→Nat→Prop):(Γ→Option (Array Keyed)×Nat×Nat×Array Keyed×ρ)→(Γ→SortSt)→Prop
  | i' (out:Γ→Array Keyed) (m ia ib:Nat) (r:ρ) (g:Nat) (s:Γ→SortSt) (ho:UA out m) (hs:SF N p g s) (h:P ia ib):HJ N p P (λ γ=>(none,ia,ib,out γ,r)) s
  | r' (out:Γ→Array Keyed) (m g:Nat) (r:Γ→Nat×Nat×Array Keyed×ρ) (s:Γ→SortSt) (ho:UA out m) (hs:SF N p g s):HJ N p P (λ γ=>(some (out γ),r γ)) s
section
variable {ρ:Type} {N g m ia ib:Nat} {p:Array (Nat×Nat×Nat)} {P:Nat→Nat→Prop} {out:Γ→Array Keyed} {r:ρ} {s:Γ→SortSt}
theorem HI.mk (ho:UA out m) (hs:SF N p g s) (h:P ia ib):HI N p P (λ γ=>(none,ia,ib,out γ,r)) s:=.mk' _ _ _ _ _ _ _ ho hs h
theorem HJ.i (ho:UA out m) (hs:SF N p g s) (h:P ia ib):HJ N p P (λ γ=>(none,ia,ib,out γ,r)) s:=.i' _ _ _ _ _ _ _ ho hs h
theorem HJ.e {r:Γ→Nat×Nat×Array Keyed×ρ} (ho:UA out m) (hs:SF N p g s):HJ N p P (λ γ=>(some (out γ),r γ)) s:=.r' _ _ _ _ _ ho hs
@[elab_as_elim] theorem HI.el {motive:(Γ→Option (Array Keyed)×Nat×Nat×Array Keyed×ρ)→(Γ→SortSt)→Prop} {c:Γ→Option (Array Keyed)×Nat×Nat×Array Keyed×ρ} (h:HI N p P c s) (k:∀ out m ia ib (r:ρ) g s,UA out m→SF N p g s→P ia ib→motive (λ γ=>(none,ia,ib,out γ,r)) s):motive c s:=
  HI.casesOn (motive:=λ c s zz=>motive c s) h k
@[elab_as_elim] theorem HJ.el {motive:(Γ→Option (Array Keyed)×Nat×Nat×Array Keyed×ρ)→(Γ→SortSt)→Prop} {c:Γ→Option (Array Keyed)×Nat×Nat×Array Keyed×ρ} (h:HJ N p P c s) (k:∀ out m ia ib (r:ρ) g s,UA out m→SF N p g s→P ia ib→motive (λ γ=>(none,ia,ib,out γ,r)) s)
    (k':∀ out m g (r:Γ→Nat×Nat×Array Keyed×ρ) s,UA out m→SF N p g s→motive (λ γ=>(some (out γ),r γ)) s):motive c s:=HJ.casesOn (motive:=λ c s zz=>motive c s) h k k'
theorem HI.j {c:Γ→Option (Array Keyed)×Nat×Nat×Array Keyed×ρ}:HI N p P c s→HJ N p P c s
  | .mk' _ _ _ _ _ _ _ ho hs h=>.i ho hs h
end
theorem Ju {ρ:Type} {N g m:Nat} {p} {P I} {out:Γ→Array Keyed} {r:Γ→Nat×Nat×Array Keyed×ρ} {s:Γ→SortSt} (ho:UA out m) (hs:SF N p g s):
    Fam (λ γ=>(pure (ForInStep.done (some (out γ),r γ)):SM (ForInStep (Option (Array Keyed)×Nat×Nat×Array Keyed×ρ)))) s (Zpn I (HJ N p P)):=Zp (.e ho hs)
theorem Zo8 {a b:Γ→Array Keyed} {na nb:Nat} {N g:Nat} {p} {s:Γ→SortSt} {k:Γ→Array Keyed→SM α} {Φ} (ha:UA a na) (hb:UA b nb) (ha0:0 < na) (hb0:0 < nb) (hs:SF N p g s)
    (h:∀ out m g' s',UA out m→SF N p g' s'→Fam (λ γ=>k γ (out γ)) s' Φ):Fam (λ γ=>Zqi (a γ) (b γ) >>= k γ) s Φ:=by
  refine Zz ?_
  unfold Zqi
  have hN:∀ γ,(a γ).size+(b γ).size=na+nb:=λ γ=>by rw [ha.1,hb.1]
  refine Zaa ?_
  dsimp only
  simp only [ha.1,hb.1]
  refine Zv5 ha (Nat.sub_lt ha0 Nat.zero_lt_one) (λ zz=>rfl) (λ zz=>rfl) (λ q0 hq0=>Zv (h _ _ _ _ ((ha.extract.append hb.extract).append (UA.mk1 hq0).reverse) hs)) (λ q0 hq0=>Zv (h _ _ _ _ ((hb.extract.append ha.extract).append (UA.mk1 hq0).reverse) hs)) λ q0 hq0 h1 h2=>?_
  refine SF.el hs λ arr har hs=>Q7 ?_
  refine Zal (I:=λ x=>HI N p (HiP na nb x)) (J:=MR N p) (λ zz=>rfl) (.mk (UA.mk1 hq0) hs ⟨Nat.pos_of_ne_zero h1,Nat.lt_of_le_of_ne hb0 h2.symm,Nat.sub_lt ha0 Nat.zero_lt_one,Z6q _,(Nat.zero_add (na-1)).symm▸Z6x (Nat.sub_le _ _) nb⟩) ?_ ?_ ?_
  · intro x c s' hx hh
    refine HI.el hh λ out m ia ib mg g' s ho hs' hP=>?_
    dsimp only
    refine Zal (I:=λ y=>HI N p (HiP na nb (x+min y 1))) (J:=HJ N p (HiP na nb (x+1))) (λ zz=>rfl) (.mk ho hs' hP) ?_ ?_ ?_
    · intro y c s'' hy hh
      refine HI.el hh λ out m ia ib r g' s ho hs' hP=>?_
      dsimp only
      refine Zv4 hb hP.eb ha hP.ea hs' λ bw=>?_
      refine Zj (λ zz=>?_) λ zz=>?_
      · refine Zbm ha hP.ea (λ zz=>rfl) (λ q3 hq3=>Ju ((ha.extract.append hb.extract).append (ho.push hq3).reverse) hs') λ q3 hq3 h3=>?_
        refine Zj (λ zz=>?_) λ zz=>?_
        · exact Zp (.i (ho.push hq3) hs' ((hP.a h3).le Zke))
        · exact Zk (HI.mk (ho.push hq3) hs' ((hP.a h3).le Zqg))
      · refine Zbm hb hP.eb (λ zz=>rfl) (λ q3 hq3=>Ju ((hb.extract.append ha.extract).append (ho.push hq3).reverse) hs') λ q3 hq3 h3=>?_
        refine Zj (λ zz=>?_) λ zz=>?_
        · exact Zp (.i (ho.push hq3) hs' ((hP.b h3).le Zke))
        · exact Zk (HI.mk (ho.push hq3) hs' ((hP.b h3).le Zqg))
    · intro c s'' hh
      refine HI.el hh λ out m ia ib r g' s ho hs' hP=>?_
      exact .i ho hs' (hP.le (by lia))
    · intro c s'' hh
      refine HJ.el hh (λ out m ia ib r g' s ho hs' hP=>?_) λ out m g' r s ho hs'=>?_
      · dsimp only
        refine Zaa ?_
        refine Zal (I:=λ zz=>HI N p (HiP na nb (x+1))) (J:=HJ N p (HiP na nb (x+1))) (λ zz=>rfl) (.mk ho hs' hP) ?_ (λ c s h=>h.j) ?_
        · apply cut
          rotate_left
          · intro jp2
            intro y c s'' hy hh
            refine HI.el hh λ out m ia ib r g' s ho hs' hP=>?_
            dsimp only
            apply cut
            rotate_left
            · intro jp1
              refine Zj (λ zz=>?_) λ zz=>?_
              rotate_left
              · generalize r.fst=mg
                revert mg
                exact jp1
              · exact jp1 _
            intro mg
            refine Zvz hb hP.eb (λ γ=>rfl) ha hs' (by rw [Nat.zero_add]; exact Z64 hP.2.2.1) (Nat.sub_lt hP.1 Nat.zero_lt_one) λ s2 hs2 k1 hk1=>?_
            refine Zj (λ zz=>?_) λ hk0=>?_
            rotate_left
            · dsimp +instances only
              generalize ia-k1=ac
              clear hk0 hk1 hs'
              revert hs2 ho hP
              revert s2 out m ia ib mg ac r
              exact jp2
            · exact Zeu (λ zz=>Ju ((ha.extract.append hb.extract).append (ho.append ha.extract.reverse).reverse) hs2) λ e1=>jp2 (λ γ=>out γ++((a γ).extract k1 ia).reverse) _ _ _ _ _ _ _ (ho.append ha.extract.reverse) (hP.ka hk1 e1) hs2
          intro out m ia ib r mg s2 ac ho hP hs2
          refine Zbm hb hP.eb (λ zz=>rfl) (λ q3 hq3=>Ju ((hb.extract.append ha.extract).append (ho.push hq3).reverse) hs2) λ q3 hq3 e3=>?_
          have hP:=hP.b e3
          refine Zv3 ha hP.ea (λ γ=>rfl) hb hs2 (by rw [Nat.zero_add]; exact hP.2.2.2.1) (Nat.sub_lt (Nat.lt_trans Nat.zero_lt_one hP.2.1) Nat.zero_lt_one) λ k2 hk2=>?_
          have ho:=ho.push hq3
          refine Zj (λ zz=>Zeu (λ zz=>Ju ((hb.extract.append ha.extract).append (ho.append hb.extract.reverse).reverse) hs2) λ e4=>Zeu (λ zz=>Ju ((ha.extract.append hb.extract).append (ho.append hb.extract.reverse).reverse) hs2) λ e5=>?_) λ zz=>?_
          · have hP:=hP.kb hk2 e4 e5
            have ho:=ho.append (hb.extract (i:=k2) (j:=ib-1)).reverse
            refine Zbm ha hP.ea (λ zz=>rfl) (λ q5 hq5=>Ju ((ha.extract.append hb.extract).append (ho.push hq5).reverse) hs2) λ q5 hq5 e5=>?_
            have hP:=(hP.a e5).le (Zqp (x:=x))
            refine Zj (λ zz=>?_) λ zz=>?_
            · exact Zp (.i (ho.push hq5) hs2 hP)
            · exact Zk (HI.mk (ho.push hq5) hs2 hP)
          · refine Zbm ha hP.ea (λ zz=>rfl) (λ q5 hq5=>Ju ((ha.extract.append hb.extract).append (ho.push hq5).reverse) hs2) λ q5 hq5 e5=>?_
            have hP:=(hP.a e5).le (Zqp (x:=x))
            refine Zj (λ zz=>?_) λ zz=>?_
            · exact Zp (.i (ho.push hq5) hs2 hP)
            · exact Zk (HI.mk (ho.push hq5) hs2 hP)
        · intro c s'' hh
          refine HJ.el hh (λ out m ia ib r g' s ho hs' hP=>?_) λ out m g' r s ho hs'=>?_
          · dsimp only
            refine Zes hs' λ s2 hs2=>?_
            exact Zk (HI.mk ho hs2 hP)
          · exact Zp (MR.mk ho hs')
      · exact Zp (MR.mk ho hs')
  · intro c s' hh
    refine HI.el hh λ out m ia ib mg g' s ho hs' hP=>?_
    have:=hP.1; have:=hP.2.2.2.2; lia
  · intro c s' hh
    refine MR.el hh λ out m g' r s ho hs'=>?_
    exact Zv (h _ _ _ _ ho hs')
end
end PL
end
section
open PySem PySem.W PyProof.Rows
namespace PL
section
variable {Γ:Type} {α β:Type}
theorem Zbk {a n:Nat} {f:Γ→Nat→β→SM (ForInStep β)} {k:Γ→β→SM α} (I:Nat→(Γ→β)→(Γ→SortSt)→Prop) (J:(Γ→β)→(Γ→SortSt)→Prop) {Φ:(Γ→α)→(Γ→SortSt)→Prop} {c:Γ→β} {s:Γ→SortSt} (init:I a c s)
    (step:∀ x c s,a≤x→x < n→I x c s→Fam (λ γ=>f γ x (c γ)) s (Zpn (I (x+1)) J))
    (fin:∀ c s,I (max a n) c s→J c s) (cont:∀ c s,J c s→Fam (λ γ=>k γ (c γ)) s Φ):Fam (λ γ=>forIn [a:n] (c γ) (f γ) >>= k γ) s Φ:=
  Zz (Zk6 (Zv1 I step fin init) cont)
theorem Zb1 {i j n g:Nat} {p} {f:Γ→Option Bool→SM α} {s:Γ→SortSt} {Φ} (hs:SF n p g s) (hi:i < n) (hj:j < n) (k:∀ b,Fam (λ γ=>f γ (some b)) s Φ):Fam (λ γ=>ltAt' i j >>= f γ) s Φ:=by
  obtain ⟨arr,har,rfl⟩:=id hs
  refine Zz ?_
  simp only [ltAt'_eq]
  refine Q7 (Q8 har hi λ q1 h1=>Q8 har hj λ q2 h2=>?_)
  have:=Zq8 (f:=λ zz r=>pure r) (Φ:=λ a s'=>Fam (λ γ=>f γ (a γ)) s' Φ) h1 h2 hs λ b=>Zv (k b)
  simpa only [bind_pure] using this
theorem SF.swaps {n g:Nat} {p} {s:Γ→SortSt} (h:SF n p g s) (f e:Nat→Nat) (l:List Nat):SF n p g λ γ=>setArr (s γ) (l.foldl (λ x k=>x.swapIfInBounds (f k) (e k)) (arrOf (s γ))):=by
  obtain ⟨arr,har,rfl⟩:=h
  exact ⟨_,UA.swaps f e l har,rfl⟩
theorem Zk4 {i j n g:Nat} {p} {f:Γ→Unit→SM α} {s:Γ→SortSt} {Φ} (hs:SF n p g s) (k:∀ s',SF n p g s'→Fam (λ γ=>f γ ()) s' Φ):Fam (λ γ=>reverseSlice' i j >>= f γ) s Φ:=by
  refine Zz ?_
  simp only [reverseSlice'_eq]
  exact Zab (k _ (hs.swaps (λ k=>i+k) (λ k=>j-1-k) _))
theorem Zy8 {i j n g:Nat} {p} {f:Γ→Unit→SM α} {s:Γ→SortSt} {Φ} (hs:SF n p g s) (k:∀ s',SF n p g s'→Fam (λ γ=>f γ ()) s' Φ):Fam (λ γ=>moveDown' i j >>= f γ) s Φ:=by
  refine Zz ?_
  simp only [moveDown'_eq]
  exact Zab (k _ (hs.swaps (λ k=>i-k) (λ k=>i-k-1) _))
def CI (n:Nat) (p:Array (Nat×Nat×Nat)) (g:Nat) (P:Nat→Prop) (c:Γ→Option (Option Nat)×Nat) (s:Γ→SortSt):Prop:=SF n p g s∧∃ m,c=(λ zz=>(none,m))∧P m
def CI2 (n:Nat) (p:Array (Nat×Nat×Nat)) (g:Nat) (P:Nat→Prop) (c:Γ→Option (Option Nat)×Nat×Nat) (s:Γ→SortSt):Prop:=SF n p g s∧∃ m q,c=(λ zz=>(none,m,q))∧P m
@[elab_as_elim] theorem CI.el {n:Nat} {p} {g:Nat} {P:Nat→Prop} {motive:(Γ→Option (Option Nat)×Nat)→(Γ→SortSt)→Prop} {c:Γ→Option (Option Nat)×Nat} {s:Γ→SortSt} (h:CI n p g P c s) (k:∀ m,SF n p g s→P m→motive (λ zz=>(none,m)) s):motive c s:=by
  obtain ⟨h1,m,rfl,h2⟩:=h
  exact k m h1 h2
@[elab_as_elim] theorem CI2.el {n:Nat} {p} {g:Nat} {P:Nat→Prop} {motive:(Γ→Option (Option Nat)×Nat×Nat)→(Γ→SortSt)→Prop} {c:Γ→Option (Option Nat)×Nat×Nat} {s:Γ→SortSt} (h:CI2 n p g P c s) (k:∀ m q,SF n p g s→P m→motive (λ zz=>(none,m,q)) s):motive c s:=by
  obtain ⟨h1,m,q,rfl,h2⟩:=h
  exact k m q h1 h2
theorem cr1 {lo n m x N:Nat} (hl:lo+n≤N) (h1:1≤m) (hm:m≤x) (hx:x < n):lo+m < N∧lo+m-1 < N:=have a:=Z6t (Nat.add_lt_add_left (Z6u hm hx) lo) hl; ⟨a,Z6u (Nat.sub_le _ _) a⟩
theorem cr0 {lo n m N:Nat} (hl:lo+n≤N) (hm:m < n):lo < N∧lo+m-1 < N:=have a:=Z6t (Nat.add_lt_add_left hm lo) hl; ⟨Z6u (Z6r _ _) a,Z6u (Nat.sub_le _ _) a⟩
theorem Znc {lo n N g:Nat} {p} {k:Γ→Option Nat→SM α} {s:Γ→SortSt} {Φ} (hs:SF N p g s) (hl:lo+n≤N) (hn:1≤n) (h:∀ m s',1≤m→m≤n→SF N p g s'→Fam (λ γ=>k γ (some m)) s' Φ):Fam (λ γ=>countRun' lo n >>= k γ) s Φ:=by
  refine Zz ?_
  unfold countRun'
  apply cut
  rotate_left
  · intro jp
    refine Zbk (c:=λ zz=>(none,1)) (λ x=>CI N p g λ m=>1≤m∧m≤x) (CI N p g λ m=>1≤m∧m≤n) ⟨hs,1,rfl,Z6q _,Z6q _⟩ ?_ (λ c s h=>by rwa [Nat.max_eq_right hn] at h) ?_
    · intro x c s'' ha hx hh
      refine CI.el hh λ m' hs' hP=>?_
      have h1:=hP.1
      have h2:=hP.2
      clear hP hh
      refine Zb1 hs' (cr1 hl h1 h2 hx).1 (cr1 hl h1 h2 hx).2 λ b=>Zj (λ zz=>?_) λ zz=>?_
      · exact Zp ⟨hs',m',rfl,h1,Z6p h2 (Z64 hx)⟩
      · exact Zk ⟨hs',m'+1,rfl,Z6s ..,Z6v h2⟩
    · intro c s' hh
      refine CI.el hh λ m hs' hP=>?_
      have h1:=hP.1
      have h2:=hP.2
      clear hP hh
      refine Zeu (λ zz=>Zv (h m _ h1 h2 hs')) λ hne=>?_
      have hlt:m < n:=Nat.lt_of_le_of_ne h2 hne
      clear hne h2
      refine Zj (λ zz=>Zb1 (n:=N) hs' (cr0 hl hlt).1 (cr0 hl hlt).2 λ b=>Zj (λ zz=>Zv (h m _ h1 (Z64 hlt) hs')) λ zz=>Zk4 hs' λ s2 hs2=>?_) λ hg=>?_
      rotate_left
      · clear hg
        dsimp only
        revert h1 hlt hs'
        revert m s'
        exact jp
      · exact jp _ _ hs2 h1 hlt
  · intro s' m hs' h1 hlt
    refine Zaa ?_
    refine Zbk (c:=λ zz=>(none,m+1,0)) (λ x=>CI2 N p g λ m=>1≤m∧m≤x) (CI2 N p g λ m=>1≤m∧m≤n) ⟨hs',m+1,0,rfl,Z6s ..,Z6q _⟩ ?_ (λ c s h=>by rwa [Nat.max_eq_right hlt] at h) ?_
    · intro x c s'' ha hx hh
      refine CI2.el hh λ m' q hs' hP=>?_
      have h1:=hP.1
      have h2:=hP.2
      clear hP hh
      have hb:=cr1 hl h1 h2 hx
      refine Zb1 hs' hb.1 hb.2 λ b=>Zj (λ zz=>Zj (λ zz=>Zk4 hs' λ s2 hs2=>?_) λ zz=>?_) λ zz=>Zb1 hs' hb.2 hb.1 λ b=>Zj (λ zz=>?_) λ zz=>?_
      · exact Zk ⟨hs2,m'+1,0,rfl,Z6s ..,Z6v h2⟩
      · exact Zk ⟨hs',m'+1,0,rfl,Z6s ..,Z6v h2⟩
      · exact Zp ⟨hs',m',q,rfl,h1,Z6p h2 (Z64 hx)⟩
      · exact Zk ⟨hs',m'+1,q+1,rfl,Z6s ..,Z6v h2⟩
    · intro c s' hh
      refine CI2.el hh λ m q hs' hP=>?_
      have h1:=hP.1
      have h2:=hP.2
      clear hP hh
      refine Zj (λ zz=>Zk4 hs' λ s2 hs2=>?_) λ zz=>?_
      all_goals
        refine Zk4 (by assumption) λ s3 hs3=>?_
        refine Zbk (c:=λ zz=>(none,m)) (λ x=>CI N p g λ m=>1≤m∧m≤x) (CI N p g λ m=>1≤m∧m≤n) ⟨hs3,m,rfl,h1,Z6q _⟩ ?_ (λ c s h=>by rwa [Nat.max_eq_right h2] at h) ?_
        · intro x c s'' ha hx hh
          refine CI.el hh λ m' hs' hP=>?_
          have h1:=hP.1
          have h2:=hP.2
          clear hP hh
          refine Zb1 hs' (cr1 hl h1 h2 hx).1 (cr1 hl h1 h2 hx).2 λ b=>Zj (λ zz=>?_) λ zz=>?_
          · exact Zp ⟨hs',m',rfl,h1,Z6p h2 (Z64 hx)⟩
          · exact Zk ⟨hs',m'+1,rfl,Z6s ..,Z6v h2⟩
        · intro c s' hh
          refine CI.el hh λ m hs' hP=>?_
          have h1:=hP.1
          have h2:=hP.2
          clear hP hh
          exact Zv (h m _ h1 h2 hs')
theorem Zst {lo n ok N g:Nat} {p} {k:Γ→Bool→SM α} {s:Γ→SortSt} {Φ} (hs:SF N p g s) (hl:lo+n≤N) (h:∀ s',SF N p g s'→Fam (λ γ=>k γ true) s' Φ):Fam (λ γ=>binarySort' lo n ok >>= k γ) s Φ:=by
  refine Zz ?_
  unfold binarySort'
  refine Zbk (c:=λ zz=>(none,())) (λ x c s=>SF N p g s∧c=λ zz=>(none,())) (λ c s=>SF N p g s∧c=λ zz=>(none,())) ⟨hs,rfl⟩ ?_ (λ c s h=>h) ?_
  · rintro x c s'-hx ⟨hs',rfl⟩
    refine Zbk (c:=λ zz=>(none,0,x)) (λ zz c s=>SF N p g s∧∃ l r,c=(λ zz=>(none,l,r))∧r≤x) (λ c s=>SF N p g s∧∃ l r,c=(λ zz=>(none,l,r))∧r≤x) ⟨hs',0,x,rfl,Z6q _⟩ ?_ (λ c s h=>h) ?_
    · rintro y c s''-hy ⟨hs',l,r,rfl,hr⟩
      refine Zj (λ zz=>Zp ⟨hs',l,r,rfl,hr⟩) λ hlr=>Zb1 (n:=N) hs' (by lia) (by dsimp only at *; lia) λ b=>Zj (λ zz=>?_) λ zz=>?_
      · exact Zk ⟨hs',l,(l+r) / 2,rfl,by dsimp only at *; lia⟩
      · exact Zk ⟨hs',(l+r) / 2+1,r,rfl,hr⟩
    · rintro c s'' ⟨hs',l,r,rfl,hr⟩
      refine Zy8 hs' λ s3 hs3=>?_
      exact Zk ⟨hs3,rfl⟩
  · rintro c s' ⟨hs',rfl⟩
    exact Zv (h _ hs')
end
end PL
end
section
open PySem PySem.W PyProof.Rows
namespace PL
section
variable {Γ:Type} {α β:Type}
noncomputable def Chn:Nat→List (Nat×Nat×Nat)→Nat→Prop
  | a,[],b=>a=b
  | a,(s,n,_)::r,b=>s=a∧0 < n∧Chn (a+n) r b
theorem Chn.le:∀ {l:List (Nat×Nat×Nat)} {a b:Nat},Chn a l b→a≤b
  | [],a,b,h=>Z62 h
  | (s,n,q)::r,a,b,h=>Z6p (Z6r a n) h.2.2.le
theorem Chn.append:∀ {l m:List (Nat×Nat×Nat)} {a b:Nat},Chn a (l++m) b↔∃ c,Chn a l c∧Chn c m b
  | [],m,a,b=>⟨λ h=>⟨a,rfl,h⟩,λ ⟨c,h1,h2⟩=>by cases h1; exact h2⟩
  | (s,n,q)::l,m,a,b=>by
    show (s=a∧0 < n∧Chn (a+n) (l++m) b)↔∃ c,(s=a∧0 < n∧Chn (a+n) l c)∧Chn c m b
    rw [Chn.append (l:=l)]
    exact ⟨λ ⟨h1,h2,c,h3,h4⟩=>⟨c,⟨h1,h2,h3⟩,h4⟩,λ ⟨c,⟨h1,h2,h3⟩,h4⟩=>⟨h1,h2,c,h3,h4⟩⟩
theorem Chn.at {p:Array (Nat×Nat×Nat)} {i lo:Nat} (h:Chn 0 p.toList lo) (hi:i+1 < p.size):∃ sa na pa sb nb pb,p[i]? = some (sa,na,pa)∧p[i+1]? = some (sb,nb,pb)∧sb=sa+na∧0 < na∧0 < nb∧sb+nb≤lo∧
    Chn 0 ((p.setIfInBounds i (sa,na+nb,pa)).eraseIdxIfInBounds (i+1)).toList lo:=by
  obtain ⟨l,e⟩:∃ l,p=l.toArray:=⟨p.toList,rfl⟩
  subst e
  have hi':i+1 < l.length:=by simpa using hi
  have hi0:i < l.length:=Nat.lt_of_succ_lt hi'
  rcases hx:l[i]'hi0 with ⟨sa,na,pa⟩
  rcases hy:l[i+1]'hi' with ⟨sb,nb,pb⟩
  have el:l=l.take i++(sa,na,pa)::(sb,nb,pb)::l.drop (i+2):=by
    rw [← hx,← hy,List.getElem_cons_drop,List.getElem_cons_drop,List.take_append_drop]
  have h':=h
  rw [List.toList_toArray,el,Chn.append] at h'
  obtain ⟨c,h1,rfl,h2,rfl,h3,h4⟩:=h'
  refine ⟨_,na,pa,_,nb,pb,by simp [hx,Z7l hi0],by simp [hy,Z7l hi'],rfl,h2,h3,h4.le,?_⟩
  have e2:((l.toArray.setIfInBounds i (sa,na+nb,pa)).eraseIdxIfInBounds (i+1)).toList=l.take i++(sa,na+nb,pa)::l.drop (i+2):=by
    have e3:(l.toArray.setIfInBounds i (sa,na+nb,pa))=(l.set i (sa,na+nb,pa)).toArray:=by simp
    have e4:((l.set i (sa,na+nb,pa)).toArray.eraseIdxIfInBounds (i+1))=((l.set i (sa,na+nb,pa)).eraseIdx (i+1)).toArray:=by
      unfold Array.eraseIdxIfInBounds
      rw [dif_pos (by simpa using hi')]
      simp
    rw [e3,e4,List.toList_toArray,List.set_eq_take_append_cons_drop,if_pos hi0]
    rw [List.eraseIdx_append_of_length_le (by rw [List.length_take]; lia),show i+1-(l.take i).length=1 by rw [List.length_take]; lia]
    rw [List.eraseIdx_cons_succ,← List.getElem_cons_drop hi',List.eraseIdx_zero]
    rfl
  rw [e2,Chn.append]
  exact ⟨_,h1,rfl,Nat.add_pos_left h2 _,by rw [← Z60]; exact h4⟩
theorem Zy6 {g s:Γ→SortSt} {k:Γ→Unit→SM α} {Φ} (h:Fam (λ γ=>k γ ()) g Φ):Fam (λ γ=>set (g γ) >>= k γ) s Φ:=Zz (Z11 h)
theorem ma1 {sa na k:Nat} (h:k≤na) (h0:na-k≠0):sa+k+(na-k)-1 < sa+na∧sa+k < sa+na:=by
  have b:sa+k < sa+na:=Nat.add_lt_add_left (Nat.lt_of_sub_pos (Nat.pos_of_ne_zero h0)) sa
  rw [Z60,Nat.add_sub_of_le h]
  exact ⟨Nat.sub_lt (Z6u (Z63 _) b) Nat.zero_lt_one,b⟩
theorem ma2 {a b N:Nat} (h:b < a) (k:a≤N):0 < min a N-b:=by rw [Nat.min_eq_left k]; exact Nat.sub_pos_of_lt h
theorem Zv0 {sa N g m:Nat} {p} {M:Γ→Array Keyed} {k:Γ→Unit→SM α} {s:Γ→SortSt} {Φ} (hm:UA M m) (hs:SF N p g s) (h:∀ s',SF N p g s'→Fam (λ γ=>k γ ()) s' Φ):
    Fam (λ γ=>(modify λ s=>SortSt.mk' (kindOf s) ((M γ).toList.zipIdx.foldl (λ a (p:Keyed×Nat)=>a.setIfInBounds (sa+p.2) p.1) (arrOf s)) (pendingOf s) (gallopOf s) (failedOf s)) >>= k γ) s Φ:=by
  obtain ⟨arr,har,rfl⟩:=hs
  exact Zz (Zab (h _ ⟨_,har.sets hm sa,rfl⟩))
theorem Zg0 {i N g lo:Nat} {p} {k:Γ→Bool→SM α} {s:Γ→SortSt} {Φ} (hs:SF N p g s) (hp:Chn 0 p.toList lo) (hlo:lo≤N) (hi:i+1 < p.size) (h:∀ s' p' g',SF N p' g' s'→Chn 0 p'.toList lo→Fam (λ γ=>k γ true) s' Φ):Fam (λ γ=>mergeAt' i >>= k γ) s Φ:=by
  obtain ⟨sa,na,pa,sb,nb,pb,e1,e2,e3,h1,h2,h3,h4⟩:=hp.at hi
  refine Zz ?_
  unfold mergeAt'
  obtain ⟨arr,har,rfl⟩:=id hs
  refine Q7 ?_
  dsimp only
  rw [e1,e2]
  have hsb:sb+nb≤N:=Z6p h3 hlo
  have hsa:sa+na≤N:=Z6p (Z6p (Z62 e3.symm) (Z6r _ _)) hsb
  refine Zy6 ?_
  have hs:=(⟨arr,har,rfl⟩:SF N ((p.setIfInBounds i (sa,na+nb,pa)).eraseIdxIfInBounds (i+1)) g _)
  refine Q8 har (Z6t (Nat.lt_add_of_pos_right h2) hsb) λ q1 hq1=>Zet (λ zz=>rfl) hq1 har hs hsa h1 λ k1 hk1=>?_
  refine Zeu (λ zz=>Zv (h _ _ _ hs h4)) λ h0=>?_
  refine Q8 har (Z6t (ma1 hk1 h0).1 hsa) λ q1 hq1=>Zet (λ zz=>rfl) hq1 har hs hsb (Nat.sub_lt h2 Nat.zero_lt_one) λ k2 hk2=>?_
  refine Zeu (λ zz=>Zv (h _ _ _ hs h4)) λ h5=>?_
  have hx:UA (λ γ=>(arr γ).extract (sa+k1) sb) _:=har.extract
  have hy:UA (λ γ=>(arr γ).extract sb (sb+k2)) _:=har.extract
  have hx0:0 < min sb N-(sa+k1):=by subst e3; exact ma2 (ma1 hk1 h0).2 hsa
  have hy0:0 < min (sb+k2) N-sb:=ma2 (Nat.lt_add_of_pos_right (Nat.pos_of_ne_zero h5)) (Z6p (Z6w hk2 _) hsb)
  refine Zj (λ zz=>Zo6 hx hy hx0 hy0 hs λ out m g' s' ho hs'=>?_) λ zz=>Zo8 hx hy hx0 hy0 hs λ out m g' s' ho hs'=>?_
  all_goals
    refine Zv0 ho hs' λ s2 hs2=>?_
    refine SF.el hs2 λ arr2 har2 hs2=>?_
    refine Q7 ?_
    exact Zv (h _ _ _ hs2 h4)
theorem Z1s {c:Prop} {inst:Decidable c} {P:Nat→Prop} {i j:Nat} (a:P i) (b:P j):P (@ite _ c inst i j):=by split <;> assumption
theorem Zo7 {I:Γ→Nat} {N g lo:Nat} {p} {k:Γ→Bool→SM α} {s:Γ→SortSt} {Φ} (hs:SF N p g s) (hp:Chn 0 p.toList lo) (hlo:lo≤N) (hu:∀ γ γ',I γ=I γ') (hi:∀ γ,I γ+1 < p.size) (h0:¬ p.size≤1) (h:∀ s' p' g',SF N p' g' s'→Chn 0 p'.toList lo→Fam (λ γ=>k γ true) s' Φ):Fam (λ γ=>mergeAt' (I γ) >>= k γ) s Φ:=by
  obtain ⟨i,e,h1⟩:∃ i,I=(λ zz=>i)∧i+1 < p.size:=by
    rcases Classical.em (Nonempty Γ) with ⟨⟨γ⟩⟩ | q
    · exact ⟨I γ,funext λ γ'=>hu γ' γ,hi γ⟩
    · exact ⟨0,funext λ γ'=>absurd ⟨γ'⟩ q,by lia⟩
  subst e
  exact Zg0 hs hp hlo h1 h
theorem Chn.modify {f:Nat×Nat×Nat→Nat×Nat×Nat} (hf:∀ x,(f x).1=x.1∧(f x).2.1=x.2.1):∀ {l:List (Nat×Nat×Nat)} {a b i:Nat},Chn a l b→Chn a (l.modify i f) b
  | [],a,b,i,h=>by rw [List.modify_nil]; exact h
  | (s,n,q)::l,a,b,0,h=>by
    rw [List.modify_zero_cons]
    obtain ⟨h1,h2⟩:=hf (s,n,q)
    show Chn a (((f (s,n,q)).1,(f (s,n,q)).2.1,(f (s,n,q)).2.2)::l) b
    rw [h1,h2]
    exact h
  | (s,n,q)::l,a,b,i+1,h=>by
    rw [List.modify_succ_cons]
    exact ⟨h.1,h.2.1,h.2.2.modify hf⟩
theorem Chn.push {p:Array (Nat×Nat×Nat)} {lo m q:Nat} (h:Chn 0 p.toList lo) (hm:0 < m):Chn 0 (p.push (lo,m,q)).toList (lo+m):=by
  rw [Array.toList_push,Chn.append]
  exact ⟨_,h,rfl,hm,rfl⟩
theorem Zk5 {N g:Nat} {p} {F:Array (Nat×Nat×Nat)→Array (Nat×Nat×Nat)} {k:Γ→Unit→SM α} {s:Γ→SortSt} {Φ} (hs:SF N p g s) (h:∀ s',SF N (F p) g s'→Fam (λ γ=>k γ ()) s' Φ):
    Fam (λ γ=>(modify λ s=>setPending s (F (pendingOf s))) >>= k γ) s Φ:=by
  obtain ⟨arr,har,rfl⟩:=hs
  exact Zz (Zab (h _ ⟨_,har,rfl⟩))
def SI (N:Nat) (c:Γ→Option Unit×Nat) (s:Γ→SortSt):Prop:=∃ lo p g,SF N p g s∧c=(λ zz=>(none,lo))∧Chn 0 p.toList lo∧lo≤N
def SI2 (N lo:Nat) (c:Γ→Option Unit×Unit) (s:Γ→SortSt):Prop:=∃ p g,SF N p g s∧c=(λ zz=>(none,()))∧Chn 0 p.toList lo
@[elab_as_elim] theorem SI.el {N:Nat} {motive:(Γ→Option Unit×Nat)→(Γ→SortSt)→Prop} {c:Γ→Option Unit×Nat} {s:Γ→SortSt} (h:SI N c s) (k:∀ lo p g,SF N p g s→Chn 0 p.toList lo→lo≤N→motive (λ zz=>(none,lo)) s):motive c s:=by
  obtain ⟨lo,p,g,h1,rfl,h2,h3⟩:=h
  exact k lo p g h1 h2 h3
@[elab_as_elim] theorem SI2.el {N lo:Nat} {motive:(Γ→Option Unit×Unit)→(Γ→SortSt)→Prop} {c:Γ→Option Unit×Unit} {s:Γ→SortSt} (h:SI2 N lo c s) (k:∀ p g,SF N p g s→Chn 0 p.toList lo→motive (λ zz=>(none,())) s):motive c s:=by
  obtain ⟨p,g,h1,rfl,h2⟩:=h
  exact k p g h1 h2
theorem sr0 {N lo:Nat} (h:¬ lo ≥ N):lo+(N-lo)≤N∧1≤N-lo:=have a:=Nat.not_le.mp h; ⟨Z62 (Nat.add_sub_of_le (Z64 a)),Nat.sub_pos_of_lt a⟩
theorem sr1 {N lo f m:Nat} (h:¬ lo ≥ N) (h1:1≤f) (h2:f < m):0 < min (N-lo) m∧lo+min (N-lo) m≤N:=⟨Nat.lt_min.mpr ⟨(sr0 h).2,Z6u (Z63 _) h2⟩,Z6p (Z6w (Nat.min_le_left _ _) lo) (sr0 h).1⟩
theorem sr2 {N lo f:Nat} (h:¬ lo ≥ N) (h1:f≤N-lo):lo+f≤N:=Z6p (Z6w h1 lo) (sr0 h).1
theorem sr3:∀ {n:Nat},¬ n≤1→n-2+1 < n
  | 0,h=>absurd (Z63 1) h
  | 1,h=>absurd (Z6q 1) h
  | n+2,_=>Z6z _
theorem sr4 {n:Nat} (h:¬ n≤1):n-2-1+1 < n:=Z6u (Z6v (Nat.sub_le _ 1)) (sr3 h)
theorem Zol {a:Array Keyed} {p g}:pendingOf (SortSt.mk' oneType' a p g none)=p:=rfl
theorem Znb {N g:Nat} {s:Γ→SortSt} {Φ:(Γ→Unit)→(Γ→SortSt)→Prop} (hs:SF N #[] g s) (h:∀ s' p' g',SF N p' g' s'→Φ (λ zz=>()) s'):Fam (λ zz=>sortRuns') s Φ:=by
  simp only [sortRuns'_eq]
  refine SF.el hs λ arr har hs=>?_
  refine Q7 ?_
  simp only [har.1]
  refine Zbl (c:=λ zz=>(none,0)) (SI N) (λ zz=>rfl) ⟨0,#[],g,hs,rfl,rfl,Z63 _⟩ ?_ ?_
  · intro x c s' hx hh
    refine SI.el hh λ lo p g hs' hc hlo=>?_
    dsimp only
    apply cut
    rotate_left
    · intro jp
      refine Zj (λ zz=>Zp ⟨lo,p,g,hs',rfl,hc,hlo⟩) λ hN=>Znc hs' (sr0 hN).1 (sr0 hN).2 λ f s2 h1 h2 hs2=>?_
      refine Zj (λ hf=>Zaa (Zst hs2 (sr1 hN h1 hf).2 λ s3 hs3=>Zj (λ h=>nomatch h) λ zz=>?_)) λ hf=>?_
      rotate_left
      · have hm:=sr2 hN h2
        clear hf h2 hN
        revert hs2 h1 hm
        revert s2 f
        exact jp
      · exact jp _ _ (sr1 hN h1 hf).1 hs3 (sr1 hN h1 hf).2
    · intro m s2 h1 hs2 h2
      refine SF.el hs2 λ arr har hs2=>?_
      refine Q7 ?_
      simp only [Zol]
      rcases hb:p.back? with zz | ⟨s1,n1,q1⟩
      · dsimp only
        refine Zk5 (F:=λ p=>p.push (lo,m,0)) hs2 λ s3 hs3=>?_
        exact Zk ⟨_,_,_,hs3,rfl,hc.push h1,h2⟩
      · dsimp only
        refine Zbl (c:=λ zz=>(none,())) (SI2 N lo) (λ zz=>rfl) ⟨p,g,hs2,rfl,hc⟩ ?_ ?_
        · intro y c s3 hy hh
          refine SI2.el hh λ p g hs3 hc=>?_
          refine SF.el hs3 λ arr har hs3=>?_
          refine Q7 ?_
          simp only [Zol]
          by_cases hp:p.size > 1
          · rw [if_pos hp,Z7j (Nat.sub_lt (Nat.lt_trans Nat.zero_lt_one hp) Nat.zero_lt_two)]
            refine Zj (λ zz=>Zp ⟨p,g,hs3,rfl,hc⟩) λ zz=>Zg0 hs3 hc hlo (sr3 (Nat.not_le.mpr hp)) λ s' p' g' hs' hc'=>Zj (λ h=>nomatch h) λ zz=>?_
            exact Zk ⟨p',g',hs',rfl,hc'⟩
          · rw [if_neg hp]
            exact Zp ⟨p,g,hs3,rfl,hc⟩
        · intro c s3 hh
          refine SI2.el hh λ p g hs3 hc=>?_
          dsimp only
          refine Zk5 (F:=λ p=>p.modify (p.size-1) λ x=>(x.1,x.2.1,power' N (2*s1+n1) (2*s1+n1+n1+m) N)) hs3 λ s4 hs4=>?_
          refine Zk5 (F:=λ p=>p.push (lo,m,0)) hs4 λ s5 hs5=>?_
          refine Zk ⟨_,_,_,hs5,rfl,Chn.push ?_ h1,h2⟩
          rw [Array.toList_modify]
          exact hc.modify (f:=λ x=>(x.1,x.2.1,power' N (2*s1+n1) (2*s1+n1+n1+m) N)) λ zz=>⟨rfl,rfl⟩
  · intro c s' hh
    refine SI.el hh λ lo p g hs' hc hlo=>?_
    dsimp only
    refine Zbl (c:=λ zz=>(none,())) (SI2 N lo) (λ zz=>rfl) ⟨p,g,hs',rfl,hc⟩ ?_ ?_
    · intro y c s3 hy hh
      refine SI2.el hh λ p g hs3 hc=>?_
      refine SF.el hs3 λ arr har hs3=>?_
      refine Q7 ?_
      simp only [Zol]
      refine Zj (λ zz=>?_) λ hp=>?_
      · exact Zp ⟨p,g,hs3,rfl,hc⟩
      refine Zo7 hs3 hc hlo (λ zz zz=>rfl) (λ zz=>Z1s (P:=λ i=>i+1 < p.size) (sr4 hp) (sr3 hp)) hp λ s' p' g' hs' hc'=>?_
      refine Zj (λ h=>nomatch h) λ zz=>?_
      exact Zk ⟨p',g',hs',rfl,hc'⟩
    · intro c s3 hh
      refine SI2.el hh λ p g hs3 hc=>?_
      exact Zv (h _ _ _ hs3)
end
end PL
end
section
open PySem
namespace PL
noncomputable abbrev CS:=List Nat
inductive AVal where
  | none | bool (b:Bool) | int (i:Int) | str (s:CS) | tup (xs:List AVal) | lst (xs:List AVal) | ref (id:Nat)
inductive AObj where
  | list (xs:List AVal) | dict (es:List (AVal×AVal)) | inst (c:String) (k:Nat) (m:String→Option AVal)
structure St where
  n:Nat
  f:Nat→Option AObj
namespace St
noncomputable def put (σ:St) (id:Nat) (o:AObj):St:=⟨σ.n,λ j=>if j=id then some o else σ.f j⟩
noncomputable def new (σ:St) (o:AObj):St:=⟨σ.n+1,λ j=>if j=σ.n then some o else σ.f j⟩
end St
noncomputable abbrev Fm:=String→Option AVal
noncomputable def upd {β:Type} (f:String→Option β) (x:String) (v:β):String→Option β:=λ y=>if y=x then some v else f y
noncomputable def Z3:List String→List AVal→Fm→Option Fm
  | [],[],ν=>some ν
  | x::xs,v::vs,ν=>Z3 xs vs (upd ν x v)
  | _,_,_=>none
noncomputable def hide (ν:Fm):Fm:=λ y=>if y=".0" then none else ν y
noncomputable def AVal.flat (v:AVal):Bool:=@AVal.casesOn (λ zz=>Bool) v false (λ zz=>false) (λ zz=>true) (λ zz=>true) (λ zz=>false) (λ zz=>false) (λ zz=>false)
noncomputable def AVal.isTup (v:AVal):Bool:=@AVal.casesOn (λ zz=>Bool) v false (λ zz=>false) (λ zz=>false) (λ zz=>false) (λ zz=>true) (λ zz=>false) (λ zz=>false)
noncomputable def AVal.isKey (v:AVal):Bool:=@AVal.casesOn (λ zz=>Bool) v false (λ zz=>false) (λ zz=>true) (λ zz=>true) (λ xs=>xs.all AVal.flat) (λ zz=>false) (λ zz=>false)
structure Zdn (es:List (AVal×AVal)) (k:AVal):Prop where
  key:k.isKey=true
  all:∀ e∈es,e.1.isTup=k.isTup
noncomputable def kget (es:List (AVal×AVal)) (k:AVal):Option AVal:=(es.find? λ e=>decide (e.1=k)).map (·.2)
noncomputable def kset (es:List (AVal×AVal)) (k v:AVal):List (AVal×AVal):=
  if (kget es k).isSome then es.map (λ e=>if e.1=k then (e.1,v) else e) else es++[(k,v)]
noncomputable def kdel (es:List (AVal×AVal)) (k:AVal):List (AVal×AVal):=es.filter λ e=>!decide (e.1=k)
inductive LOf (σ:St):AVal→List AVal→Prop
  | lst (xs:List AVal):LOf σ (.lst xs) xs
  | ref {id:Nat} {xs:List AVal} (h:σ.f id=some (.list xs)):LOf σ (.ref id) xs
inductive Its (σ:St):AVal→List AVal→Prop
  | tup (xs:List AVal):Its σ (.tup xs) xs
  | lst {x:AVal} {xs:List AVal} (h:LOf σ x xs):Its σ x xs
noncomputable def digs (n:Nat):CS:=(Nat.toDigits 10 n).map Char.toNat
noncomputable def decI (i:Int):CS:=if i < 0 then 45::digs i.natAbs else digs i.natAbs
noncomputable def Zrm:CS→Nat→Option Nat
  | [],a=>some a
  | c::r,a=>if 48≤c∧c≤57 then Zrm r (a*10+(c-48)) else none
noncomputable def Zu (c:Nat):CS→List CS
  | []=>[[]]
  | x::r=>if x=c then []::Zu c r else match Zu c r with
    | h::t=>(x::h)::t
    | []=>[[x]]
noncomputable def Yp (sep:CS):List CS→CS
  | []=>[]
  | [x]=>x
  | x::r=>x++sep++Yp sep r
noncomputable def Zbz (c:Nat):Bool:=(9≤c&&c≤13) || (28≤c&&c≤32)
noncomputable def idxOf (xs:List AVal) (v:AVal):Option Nat:=xs.findIdx? λ x=>decide (x=v)
inductive Flw where
  | next | ret (v:AVal)
def Jy (g:Option (Nat×List AVal)) (σ:St):Prop:=∀ p,g=some p→σ.f p.1=some (.list p.2)
theorem no {P:Prop} (h:false=true):P:=(Z7w h).elim
theorem and2 {a b:Bool} (h:(a&&b)=true):a=true∧b=true:=Bool.and_eq_true_iff.mp h
noncomputable def Zef (k:BoolOp→(List Expr)→Pos→Bool) (x:Expr):Bool:=@Expr.casesOn (λ zz=>Bool) x (λ a b c=>k a b c) (λ zz zz zz=>false) (λ zz zz zz zz=>false) (λ zz zz zz=>false) (λ zz zz zz zz=>false) (λ zz zz zz zz=>false) (λ zz zz zz=>false) (λ zz zz zz=>false) (λ zz zz zz zz=>false) (λ zz zz zz zz=>false) (λ zz zz zz zz zz=>false) (λ zz zz zz zz=>false) (λ zz zz=>false) (λ zz zz=>false) (λ zz zz=>false) (λ zz zz zz zz=>false) (λ zz zz zz zz=>false) (λ zz zz zz zz=>false) (λ zz zz=>false) (λ zz zz zz=>false) (λ zz zz zz=>false) (λ zz zz zz=>false) (λ zz zz=>false) (λ zz zz=>false) (λ zz zz=>false) (λ zz zz zz=>false) (λ zz zz zz zz=>false)
@[elab_as_elim] theorem Zbv {k:BoolOp→(List Expr)→Pos→Bool} {Q:Expr→Prop} {x:Expr} (h:Zef k x=true) (f:∀ a b c,k a b c=true→Q (.BoolOp a b c)):Q x:=@Expr.casesOn (λ x=>Zef k x=true→Q x) x (λ a b c h=>f a b c h) (λ zz zz zz h=>no h) (λ zz zz zz zz h=>no h) (λ zz zz zz h=>no h) (λ zz zz zz zz h=>no h) (λ zz zz zz zz h=>no h) (λ zz zz zz h=>no h) (λ zz zz zz h=>no h) (λ zz zz zz zz h=>no h) (λ zz zz zz zz h=>no h) (λ zz zz zz zz zz h=>no h) (λ zz zz zz zz h=>no h) (λ zz zz h=>no h) (λ zz zz h=>no h) (λ zz zz h=>no h) (λ zz zz zz zz h=>no h) (λ zz zz zz zz h=>no h) (λ zz zz zz zz h=>no h) (λ zz zz h=>no h) (λ zz zz zz h=>no h) (λ zz zz zz h=>no h) (λ zz zz zz h=>no h) (λ zz zz h=>no h) (λ zz zz h=>no h) (λ zz zz h=>no h) (λ zz zz zz h=>no h) (λ zz zz zz zz h=>no h) h
noncomputable def Zpl (k:Expr→Operator→Expr→Pos→Bool) (x:Expr):Bool:=@Expr.casesOn (λ zz=>Bool) x (λ zz zz zz=>false) (λ zz zz zz=>false) (λ a b c d=>k a b c d) (λ zz zz zz=>false) (λ zz zz zz zz=>false) (λ zz zz zz zz=>false) (λ zz zz zz=>false) (λ zz zz zz=>false) (λ zz zz zz zz=>false) (λ zz zz zz zz=>false) (λ zz zz zz zz zz=>false) (λ zz zz zz zz=>false) (λ zz zz=>false) (λ zz zz=>false) (λ zz zz=>false) (λ zz zz zz zz=>false) (λ zz zz zz zz=>false) (λ zz zz zz zz=>false) (λ zz zz=>false) (λ zz zz zz=>false) (λ zz zz zz=>false) (λ zz zz zz=>false) (λ zz zz=>false) (λ zz zz=>false) (λ zz zz=>false) (λ zz zz zz=>false) (λ zz zz zz zz=>false)
@[elab_as_elim] theorem Zaq {k:Expr→Operator→Expr→Pos→Bool} {Q:Expr→Prop} {x:Expr} (h:Zpl k x=true) (f:∀ a b c d,k a b c d=true→Q (.BinOp a b c d)):Q x:=@Expr.casesOn (λ x=>Zpl k x=true→Q x) x (λ zz zz zz h=>no h) (λ zz zz zz h=>no h) (λ a b c d h=>f a b c d h) (λ zz zz zz h=>no h) (λ zz zz zz zz h=>no h) (λ zz zz zz zz h=>no h) (λ zz zz zz h=>no h) (λ zz zz zz h=>no h) (λ zz zz zz zz h=>no h) (λ zz zz zz zz h=>no h) (λ zz zz zz zz zz h=>no h) (λ zz zz zz zz h=>no h) (λ zz zz h=>no h) (λ zz zz h=>no h) (λ zz zz h=>no h) (λ zz zz zz zz h=>no h) (λ zz zz zz zz h=>no h) (λ zz zz zz zz h=>no h) (λ zz zz h=>no h) (λ zz zz zz h=>no h) (λ zz zz zz h=>no h) (λ zz zz zz h=>no h) (λ zz zz h=>no h) (λ zz zz h=>no h) (λ zz zz h=>no h) (λ zz zz zz h=>no h) (λ zz zz zz zz h=>no h) h
noncomputable def Zec (k:UnaryOp→Expr→Pos→Bool) (x:Expr):Bool:=@Expr.casesOn (λ zz=>Bool) x (λ zz zz zz=>false) (λ zz zz zz=>false) (λ zz zz zz zz=>false) (λ a b c=>k a b c) (λ zz zz zz zz=>false) (λ zz zz zz zz=>false) (λ zz zz zz=>false) (λ zz zz zz=>false) (λ zz zz zz zz=>false) (λ zz zz zz zz=>false) (λ zz zz zz zz zz=>false) (λ zz zz zz zz=>false) (λ zz zz=>false) (λ zz zz=>false) (λ zz zz=>false) (λ zz zz zz zz=>false) (λ zz zz zz zz=>false) (λ zz zz zz zz=>false) (λ zz zz=>false) (λ zz zz zz=>false) (λ zz zz zz=>false) (λ zz zz zz=>false) (λ zz zz=>false) (λ zz zz=>false) (λ zz zz=>false) (λ zz zz zz=>false) (λ zz zz zz zz=>false)
@[elab_as_elim] theorem Zeb {k:UnaryOp→Expr→Pos→Bool} {Q:Expr→Prop} {x:Expr} (h:Zec k x=true) (f:∀ a b c,k a b c=true→Q (.UnaryOp a b c)):Q x:=@Expr.casesOn (λ x=>Zec k x=true→Q x) x (λ zz zz zz h=>no h) (λ zz zz zz h=>no h) (λ zz zz zz zz h=>no h) (λ a b c h=>f a b c h) (λ zz zz zz zz h=>no h) (λ zz zz zz zz h=>no h) (λ zz zz zz h=>no h) (λ zz zz zz h=>no h) (λ zz zz zz zz h=>no h) (λ zz zz zz zz h=>no h) (λ zz zz zz zz zz h=>no h) (λ zz zz zz zz h=>no h) (λ zz zz h=>no h) (λ zz zz h=>no h) (λ zz zz h=>no h) (λ zz zz zz zz h=>no h) (λ zz zz zz zz h=>no h) (λ zz zz zz zz h=>no h) (λ zz zz h=>no h) (λ zz zz zz h=>no h) (λ zz zz zz h=>no h) (λ zz zz zz h=>no h) (λ zz zz h=>no h) (λ zz zz h=>no h) (λ zz zz h=>no h) (λ zz zz zz h=>no h) (λ zz zz zz zz h=>no h) h
noncomputable def Zpk (k:Expr→Expr→Expr→Pos→Bool) (x:Expr):Bool:=@Expr.casesOn (λ zz=>Bool) x (λ zz zz zz=>false) (λ zz zz zz=>false) (λ zz zz zz zz=>false) (λ zz zz zz=>false) (λ zz zz zz zz=>false) (λ a b c d=>k a b c d) (λ zz zz zz=>false) (λ zz zz zz=>false) (λ zz zz zz zz=>false) (λ zz zz zz zz=>false) (λ zz zz zz zz zz=>false) (λ zz zz zz zz=>false) (λ zz zz=>false) (λ zz zz=>false) (λ zz zz=>false) (λ zz zz zz zz=>false) (λ zz zz zz zz=>false) (λ zz zz zz zz=>false) (λ zz zz=>false) (λ zz zz zz=>false) (λ zz zz zz=>false) (λ zz zz zz=>false) (λ zz zz=>false) (λ zz zz=>false) (λ zz zz=>false) (λ zz zz zz=>false) (λ zz zz zz zz=>false)
@[elab_as_elim] theorem Zap {k:Expr→Expr→Expr→Pos→Bool} {Q:Expr→Prop} {x:Expr} (h:Zpk k x=true) (f:∀ a b c d,k a b c d=true→Q (.IfExp a b c d)):Q x:=@Expr.casesOn (λ x=>Zpk k x=true→Q x) x (λ zz zz zz h=>no h) (λ zz zz zz h=>no h) (λ zz zz zz zz h=>no h) (λ zz zz zz h=>no h) (λ zz zz zz zz h=>no h) (λ a b c d h=>f a b c d h) (λ zz zz zz h=>no h) (λ zz zz zz h=>no h) (λ zz zz zz zz h=>no h) (λ zz zz zz zz h=>no h) (λ zz zz zz zz zz h=>no h) (λ zz zz zz zz h=>no h) (λ zz zz h=>no h) (λ zz zz h=>no h) (λ zz zz h=>no h) (λ zz zz zz zz h=>no h) (λ zz zz zz zz h=>no h) (λ zz zz zz zz h=>no h) (λ zz zz h=>no h) (λ zz zz zz h=>no h) (λ zz zz zz h=>no h) (λ zz zz zz h=>no h) (λ zz zz h=>no h) (λ zz zz h=>no h) (λ zz zz h=>no h) (λ zz zz zz h=>no h) (λ zz zz zz zz h=>no h) h
noncomputable def Zw1 (k:(List (Option Expr))→(List Expr)→Pos→Bool) (x:Expr):Bool:=@Expr.casesOn (λ zz=>Bool) x (λ zz zz zz=>false) (λ zz zz zz=>false) (λ zz zz zz zz=>false) (λ zz zz zz=>false) (λ zz zz zz zz=>false) (λ zz zz zz zz=>false) (λ a b c=>k a b c) (λ zz zz zz=>false) (λ zz zz zz zz=>false) (λ zz zz zz zz=>false) (λ zz zz zz zz zz=>false) (λ zz zz zz zz=>false) (λ zz zz=>false) (λ zz zz=>false) (λ zz zz=>false) (λ zz zz zz zz=>false) (λ zz zz zz zz=>false) (λ zz zz zz zz=>false) (λ zz zz=>false) (λ zz zz zz=>false) (λ zz zz zz=>false) (λ zz zz zz=>false) (λ zz zz=>false) (λ zz zz=>false) (λ zz zz=>false) (λ zz zz zz=>false) (λ zz zz zz zz=>false)
@[elab_as_elim] theorem Zb6 {k:(List (Option Expr))→(List Expr)→Pos→Bool} {Q:Expr→Prop} {x:Expr} (h:Zw1 k x=true) (f:∀ a b c,k a b c=true→Q (.Dict a b c)):Q x:=@Expr.casesOn (λ x=>Zw1 k x=true→Q x) x (λ zz zz zz h=>no h) (λ zz zz zz h=>no h) (λ zz zz zz zz h=>no h) (λ zz zz zz h=>no h) (λ zz zz zz zz h=>no h) (λ zz zz zz zz h=>no h) (λ a b c h=>f a b c h) (λ zz zz zz h=>no h) (λ zz zz zz zz h=>no h) (λ zz zz zz zz h=>no h) (λ zz zz zz zz zz h=>no h) (λ zz zz zz zz h=>no h) (λ zz zz h=>no h) (λ zz zz h=>no h) (λ zz zz h=>no h) (λ zz zz zz zz h=>no h) (λ zz zz zz zz h=>no h) (λ zz zz zz zz h=>no h) (λ zz zz h=>no h) (λ zz zz zz h=>no h) (λ zz zz zz h=>no h) (λ zz zz zz h=>no h) (λ zz zz h=>no h) (λ zz zz h=>no h) (λ zz zz h=>no h) (λ zz zz zz h=>no h) (λ zz zz zz zz h=>no h) h
noncomputable def Zb5 (k:Expr→(List Comprehension)→Scope→Pos→Bool) (x:Expr):Bool:=@Expr.casesOn (λ zz=>Bool) x (λ zz zz zz=>false) (λ zz zz zz=>false) (λ zz zz zz zz=>false) (λ zz zz zz=>false) (λ zz zz zz zz=>false) (λ zz zz zz zz=>false) (λ zz zz zz=>false) (λ zz zz zz=>false) (λ a b c d=>k a b c d) (λ zz zz zz zz=>false) (λ zz zz zz zz zz=>false) (λ zz zz zz zz=>false) (λ zz zz=>false) (λ zz zz=>false) (λ zz zz=>false) (λ zz zz zz zz=>false) (λ zz zz zz zz=>false) (λ zz zz zz zz=>false) (λ zz zz=>false) (λ zz zz zz=>false) (λ zz zz zz=>false) (λ zz zz zz=>false) (λ zz zz=>false) (λ zz zz=>false) (λ zz zz=>false) (λ zz zz zz=>false) (λ zz zz zz zz=>false)
@[elab_as_elim] theorem Zic {k:Expr→(List Comprehension)→Scope→Pos→Bool} {Q:Expr→Prop} {x:Expr} (h:Zb5 k x=true) (f:∀ a b c d,k a b c d=true→Q (.ListComp a b c d)):Q x:=@Expr.casesOn (λ x=>Zb5 k x=true→Q x) x (λ zz zz zz h=>no h) (λ zz zz zz h=>no h) (λ zz zz zz zz h=>no h) (λ zz zz zz h=>no h) (λ zz zz zz zz h=>no h) (λ zz zz zz zz h=>no h) (λ zz zz zz h=>no h) (λ zz zz zz h=>no h) (λ a b c d h=>f a b c d h) (λ zz zz zz zz h=>no h) (λ zz zz zz zz zz h=>no h) (λ zz zz zz zz h=>no h) (λ zz zz h=>no h) (λ zz zz h=>no h) (λ zz zz h=>no h) (λ zz zz zz zz h=>no h) (λ zz zz zz zz h=>no h) (λ zz zz zz zz h=>no h) (λ zz zz h=>no h) (λ zz zz zz h=>no h) (λ zz zz zz h=>no h) (λ zz zz zz h=>no h) (λ zz zz h=>no h) (λ zz zz h=>no h) (λ zz zz h=>no h) (λ zz zz zz h=>no h) (λ zz zz zz zz h=>no h) h
noncomputable def Zee (k:Expr→(List CmpOp)→(List Expr)→Pos→Bool) (x:Expr):Bool:=@Expr.casesOn (λ zz=>Bool) x (λ zz zz zz=>false) (λ zz zz zz=>false) (λ zz zz zz zz=>false) (λ zz zz zz=>false) (λ zz zz zz zz=>false) (λ zz zz zz zz=>false) (λ zz zz zz=>false) (λ zz zz zz=>false) (λ zz zz zz zz=>false) (λ zz zz zz zz=>false) (λ zz zz zz zz zz=>false) (λ zz zz zz zz=>false) (λ zz zz=>false) (λ zz zz=>false) (λ zz zz=>false) (λ a b c d=>k a b c d) (λ zz zz zz zz=>false) (λ zz zz zz zz=>false) (λ zz zz=>false) (λ zz zz zz=>false) (λ zz zz zz=>false) (λ zz zz zz=>false) (λ zz zz=>false) (λ zz zz=>false) (λ zz zz=>false) (λ zz zz zz=>false) (λ zz zz zz zz=>false)
@[elab_as_elim] theorem Jb {k:Expr→(List CmpOp)→(List Expr)→Pos→Bool} {Q:Expr→Prop} {x:Expr} (h:Zee k x=true) (f:∀ a b c d,k a b c d=true→Q (.Compare a b c d)):Q x:=@Expr.casesOn (λ x=>Zee k x=true→Q x) x (λ zz zz zz h=>no h) (λ zz zz zz h=>no h) (λ zz zz zz zz h=>no h) (λ zz zz zz h=>no h) (λ zz zz zz zz h=>no h) (λ zz zz zz zz h=>no h) (λ zz zz zz h=>no h) (λ zz zz zz h=>no h) (λ zz zz zz zz h=>no h) (λ zz zz zz zz h=>no h) (λ zz zz zz zz zz h=>no h) (λ zz zz zz zz h=>no h) (λ zz zz h=>no h) (λ zz zz h=>no h) (λ zz zz h=>no h) (λ a b c d h=>f a b c d h) (λ zz zz zz zz h=>no h) (λ zz zz zz zz h=>no h) (λ zz zz h=>no h) (λ zz zz zz h=>no h) (λ zz zz zz h=>no h) (λ zz zz zz h=>no h) (λ zz zz h=>no h) (λ zz zz h=>no h) (λ zz zz h=>no h) (λ zz zz zz h=>no h) (λ zz zz zz zz h=>no h) h
noncomputable def Zfj (k:Expr→(List Expr)→(List Keyword)→Pos→Bool) (x:Expr):Bool:=@Expr.casesOn (λ zz=>Bool) x (λ zz zz zz=>false) (λ zz zz zz=>false) (λ zz zz zz zz=>false) (λ zz zz zz=>false) (λ zz zz zz zz=>false) (λ zz zz zz zz=>false) (λ zz zz zz=>false) (λ zz zz zz=>false) (λ zz zz zz zz=>false) (λ zz zz zz zz=>false) (λ zz zz zz zz zz=>false) (λ zz zz zz zz=>false) (λ zz zz=>false) (λ zz zz=>false) (λ zz zz=>false) (λ zz zz zz zz=>false) (λ a b c d=>k a b c d) (λ zz zz zz zz=>false) (λ zz zz=>false) (λ zz zz zz=>false) (λ zz zz zz=>false) (λ zz zz zz=>false) (λ zz zz=>false) (λ zz zz=>false) (λ zz zz=>false) (λ zz zz zz=>false) (λ zz zz zz zz=>false)
@[elab_as_elim] theorem Zb8 {k:Expr→(List Expr)→(List Keyword)→Pos→Bool} {Q:Expr→Prop} {x:Expr} (h:Zfj k x=true) (f:∀ a b c d,k a b c d=true→Q (.Call a b c d)):Q x:=@Expr.casesOn (λ x=>Zfj k x=true→Q x) x (λ zz zz zz h=>no h) (λ zz zz zz h=>no h) (λ zz zz zz zz h=>no h) (λ zz zz zz h=>no h) (λ zz zz zz zz h=>no h) (λ zz zz zz zz h=>no h) (λ zz zz zz h=>no h) (λ zz zz zz h=>no h) (λ zz zz zz zz h=>no h) (λ zz zz zz zz h=>no h) (λ zz zz zz zz zz h=>no h) (λ zz zz zz zz h=>no h) (λ zz zz h=>no h) (λ zz zz h=>no h) (λ zz zz h=>no h) (λ zz zz zz zz h=>no h) (λ a b c d h=>f a b c d h) (λ zz zz zz zz h=>no h) (λ zz zz h=>no h) (λ zz zz zz h=>no h) (λ zz zz zz h=>no h) (λ zz zz zz h=>no h) (λ zz zz h=>no h) (λ zz zz h=>no h) (λ zz zz h=>no h) (λ zz zz zz h=>no h) (λ zz zz zz zz h=>no h) h
noncomputable def Q2 (k:Expr→Int→(Option Expr)→Pos→Bool) (x:Expr):Bool:=@Expr.casesOn (λ zz=>Bool) x (λ zz zz zz=>false) (λ zz zz zz=>false) (λ zz zz zz zz=>false) (λ zz zz zz=>false) (λ zz zz zz zz=>false) (λ zz zz zz zz=>false) (λ zz zz zz=>false) (λ zz zz zz=>false) (λ zz zz zz zz=>false) (λ zz zz zz zz=>false) (λ zz zz zz zz zz=>false) (λ zz zz zz zz=>false) (λ zz zz=>false) (λ zz zz=>false) (λ zz zz=>false) (λ zz zz zz zz=>false) (λ zz zz zz zz=>false) (λ a b c d=>k a b c d) (λ zz zz=>false) (λ zz zz zz=>false) (λ zz zz zz=>false) (λ zz zz zz=>false) (λ zz zz=>false) (λ zz zz=>false) (λ zz zz=>false) (λ zz zz zz=>false) (λ zz zz zz zz=>false)
@[elab_as_elim] theorem Zcb {k:Expr→Int→(Option Expr)→Pos→Bool} {Q:Expr→Prop} {x:Expr} (h:Q2 k x=true) (f:∀ a b c d,k a b c d=true→Q (.FormattedValue a b c d)):Q x:=@Expr.casesOn (λ x=>Q2 k x=true→Q x) x (λ zz zz zz h=>no h) (λ zz zz zz h=>no h) (λ zz zz zz zz h=>no h) (λ zz zz zz h=>no h) (λ zz zz zz zz h=>no h) (λ zz zz zz zz h=>no h) (λ zz zz zz h=>no h) (λ zz zz zz h=>no h) (λ zz zz zz zz h=>no h) (λ zz zz zz zz h=>no h) (λ zz zz zz zz zz h=>no h) (λ zz zz zz zz h=>no h) (λ zz zz h=>no h) (λ zz zz h=>no h) (λ zz zz h=>no h) (λ zz zz zz zz h=>no h) (λ zz zz zz zz h=>no h) (λ a b c d h=>f a b c d h) (λ zz zz h=>no h) (λ zz zz zz h=>no h) (λ zz zz zz h=>no h) (λ zz zz zz h=>no h) (λ zz zz h=>no h) (λ zz zz h=>no h) (λ zz zz h=>no h) (λ zz zz zz h=>no h) (λ zz zz zz zz h=>no h) h
noncomputable def Zc4 (k:(List Expr)→Pos→Bool) (x:Expr):Bool:=@Expr.casesOn (λ zz=>Bool) x (λ zz zz zz=>false) (λ zz zz zz=>false) (λ zz zz zz zz=>false) (λ zz zz zz=>false) (λ zz zz zz zz=>false) (λ zz zz zz zz=>false) (λ zz zz zz=>false) (λ zz zz zz=>false) (λ zz zz zz zz=>false) (λ zz zz zz zz=>false) (λ zz zz zz zz zz=>false) (λ zz zz zz zz=>false) (λ zz zz=>false) (λ zz zz=>false) (λ zz zz=>false) (λ zz zz zz zz=>false) (λ zz zz zz zz=>false) (λ zz zz zz zz=>false) (λ a b=>k a b) (λ zz zz zz=>false) (λ zz zz zz=>false) (λ zz zz zz=>false) (λ zz zz=>false) (λ zz zz=>false) (λ zz zz=>false) (λ zz zz zz=>false) (λ zz zz zz zz=>false)
@[elab_as_elim] theorem Zbu {k:(List Expr)→Pos→Bool} {Q:Expr→Prop} {x:Expr} (h:Zc4 k x=true) (f:∀ a b,k a b=true→Q (.JoinedStr a b)):Q x:=@Expr.casesOn (λ x=>Zc4 k x=true→Q x) x (λ zz zz zz h=>no h) (λ zz zz zz h=>no h) (λ zz zz zz zz h=>no h) (λ zz zz zz h=>no h) (λ zz zz zz zz h=>no h) (λ zz zz zz zz h=>no h) (λ zz zz zz h=>no h) (λ zz zz zz h=>no h) (λ zz zz zz zz h=>no h) (λ zz zz zz zz h=>no h) (λ zz zz zz zz zz h=>no h) (λ zz zz zz zz h=>no h) (λ zz zz h=>no h) (λ zz zz h=>no h) (λ zz zz h=>no h) (λ zz zz zz zz h=>no h) (λ zz zz zz zz h=>no h) (λ zz zz zz zz h=>no h) (λ a b h=>f a b h) (λ zz zz zz h=>no h) (λ zz zz zz h=>no h) (λ zz zz zz h=>no h) (λ zz zz h=>no h) (λ zz zz h=>no h) (λ zz zz h=>no h) (λ zz zz zz h=>no h) (λ zz zz zz zz h=>no h) h
noncomputable def Zb7 (k:Const→Nat→Pos→Bool) (x:Expr):Bool:=@Expr.casesOn (λ zz=>Bool) x (λ zz zz zz=>false) (λ zz zz zz=>false) (λ zz zz zz zz=>false) (λ zz zz zz=>false) (λ zz zz zz zz=>false) (λ zz zz zz zz=>false) (λ zz zz zz=>false) (λ zz zz zz=>false) (λ zz zz zz zz=>false) (λ zz zz zz zz=>false) (λ zz zz zz zz zz=>false) (λ zz zz zz zz=>false) (λ zz zz=>false) (λ zz zz=>false) (λ zz zz=>false) (λ zz zz zz zz=>false) (λ zz zz zz zz=>false) (λ zz zz zz zz=>false) (λ zz zz=>false) (λ a b c=>k a b c) (λ zz zz zz=>false) (λ zz zz zz=>false) (λ zz zz=>false) (λ zz zz=>false) (λ zz zz=>false) (λ zz zz zz=>false) (λ zz zz zz zz=>false)
@[elab_as_elim] theorem J1 {k:Const→Nat→Pos→Bool} {Q:Expr→Prop} {x:Expr} (h:Zb7 k x=true) (f:∀ a b c,k a b c=true→Q (.Constant a b c)):Q x:=@Expr.casesOn (λ x=>Zb7 k x=true→Q x) x (λ zz zz zz h=>no h) (λ zz zz zz h=>no h) (λ zz zz zz zz h=>no h) (λ zz zz zz h=>no h) (λ zz zz zz zz h=>no h) (λ zz zz zz zz h=>no h) (λ zz zz zz h=>no h) (λ zz zz zz h=>no h) (λ zz zz zz zz h=>no h) (λ zz zz zz zz h=>no h) (λ zz zz zz zz zz h=>no h) (λ zz zz zz zz h=>no h) (λ zz zz h=>no h) (λ zz zz h=>no h) (λ zz zz h=>no h) (λ zz zz zz zz h=>no h) (λ zz zz zz zz h=>no h) (λ zz zz zz zz h=>no h) (λ zz zz h=>no h) (λ a b c h=>f a b c h) (λ zz zz zz h=>no h) (λ zz zz zz h=>no h) (λ zz zz h=>no h) (λ zz zz h=>no h) (λ zz zz h=>no h) (λ zz zz zz h=>no h) (λ zz zz zz zz h=>no h) h
noncomputable def Qu (k:Expr→Str→Pos→Bool) (x:Expr):Bool:=@Expr.casesOn (λ zz=>Bool) x (λ zz zz zz=>false) (λ zz zz zz=>false) (λ zz zz zz zz=>false) (λ zz zz zz=>false) (λ zz zz zz zz=>false) (λ zz zz zz zz=>false) (λ zz zz zz=>false) (λ zz zz zz=>false) (λ zz zz zz zz=>false) (λ zz zz zz zz=>false) (λ zz zz zz zz zz=>false) (λ zz zz zz zz=>false) (λ zz zz=>false) (λ zz zz=>false) (λ zz zz=>false) (λ zz zz zz zz=>false) (λ zz zz zz zz=>false) (λ zz zz zz zz=>false) (λ zz zz=>false) (λ zz zz zz=>false) (λ a b c=>k a b c) (λ zz zz zz=>false) (λ zz zz=>false) (λ zz zz=>false) (λ zz zz=>false) (λ zz zz zz=>false) (λ zz zz zz zz=>false)
@[elab_as_elim] theorem Yx {k:Expr→Str→Pos→Bool} {Q:Expr→Prop} {x:Expr} (h:Qu k x=true) (f:∀ a b c,k a b c=true→Q (.Attribute a b c)):Q x:=@Expr.casesOn (λ x=>Qu k x=true→Q x) x (λ zz zz zz h=>no h) (λ zz zz zz h=>no h) (λ zz zz zz zz h=>no h) (λ zz zz zz h=>no h) (λ zz zz zz zz h=>no h) (λ zz zz zz zz h=>no h) (λ zz zz zz h=>no h) (λ zz zz zz h=>no h) (λ zz zz zz zz h=>no h) (λ zz zz zz zz h=>no h) (λ zz zz zz zz zz h=>no h) (λ zz zz zz zz h=>no h) (λ zz zz h=>no h) (λ zz zz h=>no h) (λ zz zz h=>no h) (λ zz zz zz zz h=>no h) (λ zz zz zz zz h=>no h) (λ zz zz zz zz h=>no h) (λ zz zz h=>no h) (λ zz zz zz h=>no h) (λ a b c h=>f a b c h) (λ zz zz zz h=>no h) (λ zz zz h=>no h) (λ zz zz h=>no h) (λ zz zz h=>no h) (λ zz zz zz h=>no h) (λ zz zz zz zz h=>no h) h
noncomputable def Jm (k:Expr→Expr→Pos→Bool) (x:Expr):Bool:=@Expr.casesOn (λ zz=>Bool) x (λ zz zz zz=>false) (λ zz zz zz=>false) (λ zz zz zz zz=>false) (λ zz zz zz=>false) (λ zz zz zz zz=>false) (λ zz zz zz zz=>false) (λ zz zz zz=>false) (λ zz zz zz=>false) (λ zz zz zz zz=>false) (λ zz zz zz zz=>false) (λ zz zz zz zz zz=>false) (λ zz zz zz zz=>false) (λ zz zz=>false) (λ zz zz=>false) (λ zz zz=>false) (λ zz zz zz zz=>false) (λ zz zz zz zz=>false) (λ zz zz zz zz=>false) (λ zz zz=>false) (λ zz zz zz=>false) (λ zz zz zz=>false) (λ a b c=>k a b c) (λ zz zz=>false) (λ zz zz=>false) (λ zz zz=>false) (λ zz zz zz=>false) (λ zz zz zz zz=>false)
@[elab_as_elim] theorem Yw {k:Expr→Expr→Pos→Bool} {Q:Expr→Prop} {x:Expr} (h:Jm k x=true) (f:∀ a b c,k a b c=true→Q (.Subscript a b c)):Q x:=@Expr.casesOn (λ x=>Jm k x=true→Q x) x (λ zz zz zz h=>no h) (λ zz zz zz h=>no h) (λ zz zz zz zz h=>no h) (λ zz zz zz h=>no h) (λ zz zz zz zz h=>no h) (λ zz zz zz zz h=>no h) (λ zz zz zz h=>no h) (λ zz zz zz h=>no h) (λ zz zz zz zz h=>no h) (λ zz zz zz zz h=>no h) (λ zz zz zz zz zz h=>no h) (λ zz zz zz zz h=>no h) (λ zz zz h=>no h) (λ zz zz h=>no h) (λ zz zz h=>no h) (λ zz zz zz zz h=>no h) (λ zz zz zz zz h=>no h) (λ zz zz zz zz h=>no h) (λ zz zz h=>no h) (λ zz zz zz h=>no h) (λ zz zz zz h=>no h) (λ a b c h=>f a b c h) (λ zz zz h=>no h) (λ zz zz h=>no h) (λ zz zz h=>no h) (λ zz zz zz h=>no h) (λ zz zz zz zz h=>no h) h
noncomputable def Zbt (k:Str→Pos→Bool) (x:Expr):Bool:=@Expr.casesOn (λ zz=>Bool) x (λ zz zz zz=>false) (λ zz zz zz=>false) (λ zz zz zz zz=>false) (λ zz zz zz=>false) (λ zz zz zz zz=>false) (λ zz zz zz zz=>false) (λ zz zz zz=>false) (λ zz zz zz=>false) (λ zz zz zz zz=>false) (λ zz zz zz zz=>false) (λ zz zz zz zz zz=>false) (λ zz zz zz zz=>false) (λ zz zz=>false) (λ zz zz=>false) (λ zz zz=>false) (λ zz zz zz zz=>false) (λ zz zz zz zz=>false) (λ zz zz zz zz=>false) (λ zz zz=>false) (λ zz zz zz=>false) (λ zz zz zz=>false) (λ zz zz zz=>false) (λ zz zz=>false) (λ a b=>k a b) (λ zz zz=>false) (λ zz zz zz=>false) (λ zz zz zz zz=>false)
@[elab_as_elim] theorem Y2 {k:Str→Pos→Bool} {Q:Expr→Prop} {x:Expr} (h:Zbt k x=true) (f:∀ a b,k a b=true→Q (.Name a b)):Q x:=@Expr.casesOn (λ x=>Zbt k x=true→Q x) x (λ zz zz zz h=>no h) (λ zz zz zz h=>no h) (λ zz zz zz zz h=>no h) (λ zz zz zz h=>no h) (λ zz zz zz zz h=>no h) (λ zz zz zz zz h=>no h) (λ zz zz zz h=>no h) (λ zz zz zz h=>no h) (λ zz zz zz zz h=>no h) (λ zz zz zz zz h=>no h) (λ zz zz zz zz zz h=>no h) (λ zz zz zz zz h=>no h) (λ zz zz h=>no h) (λ zz zz h=>no h) (λ zz zz h=>no h) (λ zz zz zz zz h=>no h) (λ zz zz zz zz h=>no h) (λ zz zz zz zz h=>no h) (λ zz zz h=>no h) (λ zz zz zz h=>no h) (λ zz zz zz h=>no h) (λ zz zz zz h=>no h) (λ zz zz h=>no h) (λ a b h=>f a b h) (λ zz zz h=>no h) (λ zz zz zz h=>no h) (λ zz zz zz zz h=>no h) h
noncomputable def Zw0 (k:(List Expr)→Pos→Bool) (x:Expr):Bool:=@Expr.casesOn (λ zz=>Bool) x (λ zz zz zz=>false) (λ zz zz zz=>false) (λ zz zz zz zz=>false) (λ zz zz zz=>false) (λ zz zz zz zz=>false) (λ zz zz zz zz=>false) (λ zz zz zz=>false) (λ zz zz zz=>false) (λ zz zz zz zz=>false) (λ zz zz zz zz=>false) (λ zz zz zz zz zz=>false) (λ zz zz zz zz=>false) (λ zz zz=>false) (λ zz zz=>false) (λ zz zz=>false) (λ zz zz zz zz=>false) (λ zz zz zz zz=>false) (λ zz zz zz zz=>false) (λ zz zz=>false) (λ zz zz zz=>false) (λ zz zz zz=>false) (λ zz zz zz=>false) (λ zz zz=>false) (λ zz zz=>false) (λ a b=>k a b) (λ zz zz zz=>false) (λ zz zz zz zz=>false)
@[elab_as_elim] theorem Zb4 {k:(List Expr)→Pos→Bool} {Q:Expr→Prop} {x:Expr} (h:Zw0 k x=true) (f:∀ a b,k a b=true→Q (.List a b)):Q x:=@Expr.casesOn (λ x=>Zw0 k x=true→Q x) x (λ zz zz zz h=>no h) (λ zz zz zz h=>no h) (λ zz zz zz zz h=>no h) (λ zz zz zz h=>no h) (λ zz zz zz zz h=>no h) (λ zz zz zz zz h=>no h) (λ zz zz zz h=>no h) (λ zz zz zz h=>no h) (λ zz zz zz zz h=>no h) (λ zz zz zz zz h=>no h) (λ zz zz zz zz zz h=>no h) (λ zz zz zz zz h=>no h) (λ zz zz h=>no h) (λ zz zz h=>no h) (λ zz zz h=>no h) (λ zz zz zz zz h=>no h) (λ zz zz zz zz h=>no h) (λ zz zz zz zz h=>no h) (λ zz zz h=>no h) (λ zz zz zz h=>no h) (λ zz zz zz h=>no h) (λ zz zz zz h=>no h) (λ zz zz h=>no h) (λ zz zz h=>no h) (λ a b h=>f a b h) (λ zz zz zz h=>no h) (λ zz zz zz zz h=>no h) h
noncomputable def Zey (k:(List Expr)→Nat→Pos→Bool) (x:Expr):Bool:=@Expr.casesOn (λ zz=>Bool) x (λ zz zz zz=>false) (λ zz zz zz=>false) (λ zz zz zz zz=>false) (λ zz zz zz=>false) (λ zz zz zz zz=>false) (λ zz zz zz zz=>false) (λ zz zz zz=>false) (λ zz zz zz=>false) (λ zz zz zz zz=>false) (λ zz zz zz zz=>false) (λ zz zz zz zz zz=>false) (λ zz zz zz zz=>false) (λ zz zz=>false) (λ zz zz=>false) (λ zz zz=>false) (λ zz zz zz zz=>false) (λ zz zz zz zz=>false) (λ zz zz zz zz=>false) (λ zz zz=>false) (λ zz zz zz=>false) (λ zz zz zz=>false) (λ zz zz zz=>false) (λ zz zz=>false) (λ zz zz=>false) (λ zz zz=>false) (λ a b c=>k a b c) (λ zz zz zz zz=>false)
@[elab_as_elim] theorem Jl {k:(List Expr)→Nat→Pos→Bool} {Q:Expr→Prop} {x:Expr} (h:Zey k x=true) (f:∀ a b c,k a b c=true→Q (.Tuple a b c)):Q x:=@Expr.casesOn (λ x=>Zey k x=true→Q x) x (λ zz zz zz h=>no h) (λ zz zz zz h=>no h) (λ zz zz zz zz h=>no h) (λ zz zz zz h=>no h) (λ zz zz zz zz h=>no h) (λ zz zz zz zz h=>no h) (λ zz zz zz h=>no h) (λ zz zz zz h=>no h) (λ zz zz zz zz h=>no h) (λ zz zz zz zz h=>no h) (λ zz zz zz zz zz h=>no h) (λ zz zz zz zz h=>no h) (λ zz zz h=>no h) (λ zz zz h=>no h) (λ zz zz h=>no h) (λ zz zz zz zz h=>no h) (λ zz zz zz zz h=>no h) (λ zz zz zz zz h=>no h) (λ zz zz h=>no h) (λ zz zz zz h=>no h) (λ zz zz zz h=>no h) (λ zz zz zz h=>no h) (λ zz zz h=>no h) (λ zz zz h=>no h) (λ zz zz h=>no h) (λ a b c h=>f a b c h) (λ zz zz zz zz h=>no h) h
noncomputable def Zpi (k:(Option Expr)→(Option Expr)→(Option Expr)→Pos→Bool) (x:Expr):Bool:=@Expr.casesOn (λ zz=>Bool) x (λ zz zz zz=>false) (λ zz zz zz=>false) (λ zz zz zz zz=>false) (λ zz zz zz=>false) (λ zz zz zz zz=>false) (λ zz zz zz zz=>false) (λ zz zz zz=>false) (λ zz zz zz=>false) (λ zz zz zz zz=>false) (λ zz zz zz zz=>false) (λ zz zz zz zz zz=>false) (λ zz zz zz zz=>false) (λ zz zz=>false) (λ zz zz=>false) (λ zz zz=>false) (λ zz zz zz zz=>false) (λ zz zz zz zz=>false) (λ zz zz zz zz=>false) (λ zz zz=>false) (λ zz zz zz=>false) (λ zz zz zz=>false) (λ zz zz zz=>false) (λ zz zz=>false) (λ zz zz=>false) (λ zz zz=>false) (λ zz zz zz=>false) (λ a b c d=>k a b c d)
@[elab_as_elim] theorem Zph {k:(Option Expr)→(Option Expr)→(Option Expr)→Pos→Bool} {Q:Expr→Prop} {x:Expr} (h:Zpi k x=true) (f:∀ a b c d,k a b c d=true→Q (.Slice a b c d)):Q x:=@Expr.casesOn (λ x=>Zpi k x=true→Q x) x (λ zz zz zz h=>no h) (λ zz zz zz h=>no h) (λ zz zz zz zz h=>no h) (λ zz zz zz h=>no h) (λ zz zz zz zz h=>no h) (λ zz zz zz zz h=>no h) (λ zz zz zz h=>no h) (λ zz zz zz h=>no h) (λ zz zz zz zz h=>no h) (λ zz zz zz zz h=>no h) (λ zz zz zz zz zz h=>no h) (λ zz zz zz zz h=>no h) (λ zz zz h=>no h) (λ zz zz h=>no h) (λ zz zz h=>no h) (λ zz zz zz zz h=>no h) (λ zz zz zz zz h=>no h) (λ zz zz zz zz h=>no h) (λ zz zz h=>no h) (λ zz zz zz h=>no h) (λ zz zz zz h=>no h) (λ zz zz zz h=>no h) (λ zz zz h=>no h) (λ zz zz h=>no h) (λ zz zz h=>no h) (λ zz zz zz h=>no h) (λ a b c d h=>f a b c d h) h
noncomputable def Zht (k:(Option Expr)→Pos→Bool) (x:Stmt):Bool:=@Stmt.casesOn (λ zz=>Bool) x (λ zz zz zz zz zz zz zz zz zz zz=>false) (λ zz zz zz zz zz zz zz zz zz zz=>false) (λ zz zz zz zz zz zz zz zz zz zz zz=>false) (λ a b=>k a b) (λ zz zz=>false) (λ zz zz zz=>false) (λ zz zz zz zz zz zz zz=>false) (λ zz zz zz zz=>false) (λ zz zz zz zz zz=>false) (λ zz zz zz zz zz=>false) (λ zz zz zz zz zz=>false) (λ zz zz zz zz=>false) (λ zz zz zz zz=>false) (λ zz zz zz=>false) (λ zz zz zz=>false) (λ zz zz zz=>false) (λ zz zz zz=>false) (λ zz zz zz zz zz=>false) (λ zz zz zz zz zz=>false) (λ zz zz zz=>false) (λ zz zz=>false) (λ zz zz zz zz=>false) (λ zz zz=>false) (λ zz zz=>false) (λ zz zz=>false) (λ zz=>false) (λ zz=>false) (λ zz=>false)
@[elab_as_elim] theorem Zed {k:(Option Expr)→Pos→Bool} {Q:Stmt→Prop} {x:Stmt} (h:Zht k x=true) (f:∀ a b,k a b=true→Q (.Return a b)):Q x:=@Stmt.casesOn (λ x=>Zht k x=true→Q x) x (λ zz zz zz zz zz zz zz zz zz zz h=>no h) (λ zz zz zz zz zz zz zz zz zz zz h=>no h) (λ zz zz zz zz zz zz zz zz zz zz zz h=>no h) (λ a b h=>f a b h) (λ zz zz h=>no h) (λ zz zz zz h=>no h) (λ zz zz zz zz zz zz zz h=>no h) (λ zz zz zz zz h=>no h) (λ zz zz zz zz zz h=>no h) (λ zz zz zz zz zz h=>no h) (λ zz zz zz zz zz h=>no h) (λ zz zz zz zz h=>no h) (λ zz zz zz zz h=>no h) (λ zz zz zz h=>no h) (λ zz zz zz h=>no h) (λ zz zz zz h=>no h) (λ zz zz zz h=>no h) (λ zz zz zz zz zz h=>no h) (λ zz zz zz zz zz h=>no h) (λ zz zz zz h=>no h) (λ zz zz h=>no h) (λ zz zz zz zz h=>no h) (λ zz zz h=>no h) (λ zz zz h=>no h) (λ zz zz h=>no h) (λ zz h=>no h) (λ zz h=>no h) (λ zz h=>no h) h
noncomputable def Jn (k:(List Expr)→Expr→Pos→Bool) (x:Stmt):Bool:=@Stmt.casesOn (λ zz=>Bool) x (λ zz zz zz zz zz zz zz zz zz zz=>false) (λ zz zz zz zz zz zz zz zz zz zz=>false) (λ zz zz zz zz zz zz zz zz zz zz zz=>false) (λ zz zz=>false) (λ zz zz=>false) (λ a b c=>k a b c) (λ zz zz zz zz zz zz zz=>false) (λ zz zz zz zz=>false) (λ zz zz zz zz zz=>false) (λ zz zz zz zz zz=>false) (λ zz zz zz zz zz=>false) (λ zz zz zz zz=>false) (λ zz zz zz zz=>false) (λ zz zz zz=>false) (λ zz zz zz=>false) (λ zz zz zz=>false) (λ zz zz zz=>false) (λ zz zz zz zz zz=>false) (λ zz zz zz zz zz=>false) (λ zz zz zz=>false) (λ zz zz=>false) (λ zz zz zz zz=>false) (λ zz zz=>false) (λ zz zz=>false) (λ zz zz=>false) (λ zz=>false) (λ zz=>false) (λ zz=>false)
@[elab_as_elim] theorem Y1 {k:(List Expr)→Expr→Pos→Bool} {Q:Stmt→Prop} {x:Stmt} (h:Jn k x=true) (f:∀ a b c,k a b c=true→Q (.Assign a b c)):Q x:=@Stmt.casesOn (λ x=>Jn k x=true→Q x) x (λ zz zz zz zz zz zz zz zz zz zz h=>no h) (λ zz zz zz zz zz zz zz zz zz zz h=>no h) (λ zz zz zz zz zz zz zz zz zz zz zz h=>no h) (λ zz zz h=>no h) (λ zz zz h=>no h) (λ a b c h=>f a b c h) (λ zz zz zz zz zz zz zz h=>no h) (λ zz zz zz zz h=>no h) (λ zz zz zz zz zz h=>no h) (λ zz zz zz zz zz h=>no h) (λ zz zz zz zz zz h=>no h) (λ zz zz zz zz h=>no h) (λ zz zz zz zz h=>no h) (λ zz zz zz h=>no h) (λ zz zz zz h=>no h) (λ zz zz zz h=>no h) (λ zz zz zz h=>no h) (λ zz zz zz zz zz h=>no h) (λ zz zz zz zz zz h=>no h) (λ zz zz zz h=>no h) (λ zz zz h=>no h) (λ zz zz zz zz h=>no h) (λ zz zz h=>no h) (λ zz zz h=>no h) (λ zz zz h=>no h) (λ zz h=>no h) (λ zz h=>no h) (λ zz h=>no h) h
noncomputable def Zwz (k:Expr→Expr→(List Stmt)→(List Stmt)→Pos→Bool) (x:Stmt):Bool:=@Stmt.casesOn (λ zz=>Bool) x (λ zz zz zz zz zz zz zz zz zz zz=>false) (λ zz zz zz zz zz zz zz zz zz zz=>false) (λ zz zz zz zz zz zz zz zz zz zz zz=>false) (λ zz zz=>false) (λ zz zz=>false) (λ zz zz zz=>false) (λ zz zz zz zz zz zz zz=>false) (λ zz zz zz zz=>false) (λ zz zz zz zz zz=>false) (λ a b c d e=>k a b c d e) (λ zz zz zz zz zz=>false) (λ zz zz zz zz=>false) (λ zz zz zz zz=>false) (λ zz zz zz=>false) (λ zz zz zz=>false) (λ zz zz zz=>false) (λ zz zz zz=>false) (λ zz zz zz zz zz=>false) (λ zz zz zz zz zz=>false) (λ zz zz zz=>false) (λ zz zz=>false) (λ zz zz zz zz=>false) (λ zz zz=>false) (λ zz zz=>false) (λ zz zz=>false) (λ zz=>false) (λ zz=>false) (λ zz=>false)
@[elab_as_elim] theorem Zs8 {k:Expr→Expr→(List Stmt)→(List Stmt)→Pos→Bool} {Q:Stmt→Prop} {x:Stmt} (h:Zwz k x=true) (f:∀ a b c d e,k a b c d e=true→Q (.For a b c d e)):Q x:=@Stmt.casesOn (λ x=>Zwz k x=true→Q x) x (λ zz zz zz zz zz zz zz zz zz zz h=>no h) (λ zz zz zz zz zz zz zz zz zz zz h=>no h) (λ zz zz zz zz zz zz zz zz zz zz zz h=>no h) (λ zz zz h=>no h) (λ zz zz h=>no h) (λ zz zz zz h=>no h) (λ zz zz zz zz zz zz zz h=>no h) (λ zz zz zz zz h=>no h) (λ zz zz zz zz zz h=>no h) (λ a b c d e h=>f a b c d e h) (λ zz zz zz zz zz h=>no h) (λ zz zz zz zz h=>no h) (λ zz zz zz zz h=>no h) (λ zz zz zz h=>no h) (λ zz zz zz h=>no h) (λ zz zz zz h=>no h) (λ zz zz zz h=>no h) (λ zz zz zz zz zz h=>no h) (λ zz zz zz zz zz h=>no h) (λ zz zz zz h=>no h) (λ zz zz h=>no h) (λ zz zz zz zz h=>no h) (λ zz zz h=>no h) (λ zz zz h=>no h) (λ zz zz h=>no h) (λ zz h=>no h) (λ zz h=>no h) (λ zz h=>no h) h
noncomputable def Zlg (k:Expr→(List Stmt)→(List Stmt)→Pos→Bool) (x:Stmt):Bool:=@Stmt.casesOn (λ zz=>Bool) x (λ zz zz zz zz zz zz zz zz zz zz=>false) (λ zz zz zz zz zz zz zz zz zz zz=>false) (λ zz zz zz zz zz zz zz zz zz zz zz=>false) (λ zz zz=>false) (λ zz zz=>false) (λ zz zz zz=>false) (λ zz zz zz zz zz zz zz=>false) (λ zz zz zz zz=>false) (λ zz zz zz zz zz=>false) (λ zz zz zz zz zz=>false) (λ zz zz zz zz zz=>false) (λ a b c d=>k a b c d) (λ zz zz zz zz=>false) (λ zz zz zz=>false) (λ zz zz zz=>false) (λ zz zz zz=>false) (λ zz zz zz=>false) (λ zz zz zz zz zz=>false) (λ zz zz zz zz zz=>false) (λ zz zz zz=>false) (λ zz zz=>false) (λ zz zz zz zz=>false) (λ zz zz=>false) (λ zz zz=>false) (λ zz zz=>false) (λ zz=>false) (λ zz=>false) (λ zz=>false)
@[elab_as_elim] theorem Znu {k:Expr→(List Stmt)→(List Stmt)→Pos→Bool} {Q:Stmt→Prop} {x:Stmt} (h:Zlg k x=true) (f:∀ a b c d,k a b c d=true→Q (.While a b c d)):Q x:=@Stmt.casesOn (λ x=>Zlg k x=true→Q x) x (λ zz zz zz zz zz zz zz zz zz zz h=>no h) (λ zz zz zz zz zz zz zz zz zz zz h=>no h) (λ zz zz zz zz zz zz zz zz zz zz zz h=>no h) (λ zz zz h=>no h) (λ zz zz h=>no h) (λ zz zz zz h=>no h) (λ zz zz zz zz zz zz zz h=>no h) (λ zz zz zz zz h=>no h) (λ zz zz zz zz zz h=>no h) (λ zz zz zz zz zz h=>no h) (λ zz zz zz zz zz h=>no h) (λ a b c d h=>f a b c d h) (λ zz zz zz zz h=>no h) (λ zz zz zz h=>no h) (λ zz zz zz h=>no h) (λ zz zz zz h=>no h) (λ zz zz zz h=>no h) (λ zz zz zz zz zz h=>no h) (λ zz zz zz zz zz h=>no h) (λ zz zz zz h=>no h) (λ zz zz h=>no h) (λ zz zz zz zz h=>no h) (λ zz zz h=>no h) (λ zz zz h=>no h) (λ zz zz h=>no h) (λ zz h=>no h) (λ zz h=>no h) (λ zz h=>no h) h
noncomputable def Z2h (k:Expr→(List Stmt)→(List Stmt)→Pos→Bool) (x:Stmt):Bool:=@Stmt.casesOn (λ zz=>Bool) x (λ zz zz zz zz zz zz zz zz zz zz=>false) (λ zz zz zz zz zz zz zz zz zz zz=>false) (λ zz zz zz zz zz zz zz zz zz zz zz=>false) (λ zz zz=>false) (λ zz zz=>false) (λ zz zz zz=>false) (λ zz zz zz zz zz zz zz=>false) (λ zz zz zz zz=>false) (λ zz zz zz zz zz=>false) (λ zz zz zz zz zz=>false) (λ zz zz zz zz zz=>false) (λ zz zz zz zz=>false) (λ a b c d=>k a b c d) (λ zz zz zz=>false) (λ zz zz zz=>false) (λ zz zz zz=>false) (λ zz zz zz=>false) (λ zz zz zz zz zz=>false) (λ zz zz zz zz zz=>false) (λ zz zz zz=>false) (λ zz zz=>false) (λ zz zz zz zz=>false) (λ zz zz=>false) (λ zz zz=>false) (λ zz zz=>false) (λ zz=>false) (λ zz=>false) (λ zz=>false)
@[elab_as_elim] theorem Znv {k:Expr→(List Stmt)→(List Stmt)→Pos→Bool} {Q:Stmt→Prop} {x:Stmt} (h:Z2h k x=true) (f:∀ a b c d,k a b c d=true→Q (.If a b c d)):Q x:=@Stmt.casesOn (λ x=>Z2h k x=true→Q x) x (λ zz zz zz zz zz zz zz zz zz zz h=>no h) (λ zz zz zz zz zz zz zz zz zz zz h=>no h) (λ zz zz zz zz zz zz zz zz zz zz zz h=>no h) (λ zz zz h=>no h) (λ zz zz h=>no h) (λ zz zz zz h=>no h) (λ zz zz zz zz zz zz zz h=>no h) (λ zz zz zz zz h=>no h) (λ zz zz zz zz zz h=>no h) (λ zz zz zz zz zz h=>no h) (λ zz zz zz zz zz h=>no h) (λ zz zz zz zz h=>no h) (λ a b c d h=>f a b c d h) (λ zz zz zz h=>no h) (λ zz zz zz h=>no h) (λ zz zz zz h=>no h) (λ zz zz zz h=>no h) (λ zz zz zz zz zz h=>no h) (λ zz zz zz zz zz h=>no h) (λ zz zz zz h=>no h) (λ zz zz h=>no h) (λ zz zz zz zz h=>no h) (λ zz zz h=>no h) (λ zz zz h=>no h) (λ zz zz h=>no h) (λ zz h=>no h) (λ zz h=>no h) (λ zz h=>no h) h
noncomputable def Zwy (k:(List Stmt)→(List ExceptHandler)→(List Stmt)→(List Stmt)→Pos→Bool) (x:Stmt):Bool:=@Stmt.casesOn (λ zz=>Bool) x (λ zz zz zz zz zz zz zz zz zz zz=>false) (λ zz zz zz zz zz zz zz zz zz zz=>false) (λ zz zz zz zz zz zz zz zz zz zz zz=>false) (λ zz zz=>false) (λ zz zz=>false) (λ zz zz zz=>false) (λ zz zz zz zz zz zz zz=>false) (λ zz zz zz zz=>false) (λ zz zz zz zz zz=>false) (λ zz zz zz zz zz=>false) (λ zz zz zz zz zz=>false) (λ zz zz zz zz=>false) (λ zz zz zz zz=>false) (λ zz zz zz=>false) (λ zz zz zz=>false) (λ zz zz zz=>false) (λ zz zz zz=>false) (λ a b c d e=>k a b c d e) (λ zz zz zz zz zz=>false) (λ zz zz zz=>false) (λ zz zz=>false) (λ zz zz zz zz=>false) (λ zz zz=>false) (λ zz zz=>false) (λ zz zz=>false) (λ zz=>false) (λ zz=>false) (λ zz=>false)
@[elab_as_elim] theorem Zs7 {k:(List Stmt)→(List ExceptHandler)→(List Stmt)→(List Stmt)→Pos→Bool} {Q:Stmt→Prop} {x:Stmt} (h:Zwy k x=true) (f:∀ a b c d e,k a b c d e=true→Q (.Try a b c d e)):Q x:=@Stmt.casesOn (λ x=>Zwy k x=true→Q x) x (λ zz zz zz zz zz zz zz zz zz zz h=>no h) (λ zz zz zz zz zz zz zz zz zz zz h=>no h) (λ zz zz zz zz zz zz zz zz zz zz zz h=>no h) (λ zz zz h=>no h) (λ zz zz h=>no h) (λ zz zz zz h=>no h) (λ zz zz zz zz zz zz zz h=>no h) (λ zz zz zz zz h=>no h) (λ zz zz zz zz zz h=>no h) (λ zz zz zz zz zz h=>no h) (λ zz zz zz zz zz h=>no h) (λ zz zz zz zz h=>no h) (λ zz zz zz zz h=>no h) (λ zz zz zz h=>no h) (λ zz zz zz h=>no h) (λ zz zz zz h=>no h) (λ zz zz zz h=>no h) (λ a b c d e h=>f a b c d e h) (λ zz zz zz zz zz h=>no h) (λ zz zz zz h=>no h) (λ zz zz h=>no h) (λ zz zz zz zz h=>no h) (λ zz zz h=>no h) (λ zz zz h=>no h) (λ zz zz h=>no h) (λ zz h=>no h) (λ zz h=>no h) (λ zz h=>no h) h
noncomputable def Zpj (k:Expr→Pos→Bool) (x:Stmt):Bool:=@Stmt.casesOn (λ zz=>Bool) x (λ zz zz zz zz zz zz zz zz zz zz=>false) (λ zz zz zz zz zz zz zz zz zz zz=>false) (λ zz zz zz zz zz zz zz zz zz zz zz=>false) (λ zz zz=>false) (λ zz zz=>false) (λ zz zz zz=>false) (λ zz zz zz zz zz zz zz=>false) (λ zz zz zz zz=>false) (λ zz zz zz zz zz=>false) (λ zz zz zz zz zz=>false) (λ zz zz zz zz zz=>false) (λ zz zz zz zz=>false) (λ zz zz zz zz=>false) (λ zz zz zz=>false) (λ zz zz zz=>false) (λ zz zz zz=>false) (λ zz zz zz=>false) (λ zz zz zz zz zz=>false) (λ zz zz zz zz zz=>false) (λ zz zz zz=>false) (λ zz zz=>false) (λ zz zz zz zz=>false) (λ zz zz=>false) (λ zz zz=>false) (λ a b=>k a b) (λ zz=>false) (λ zz=>false) (λ zz=>false)
@[elab_as_elim] theorem Zhu {k:Expr→Pos→Bool} {Q:Stmt→Prop} {x:Stmt} (h:Zpj k x=true) (f:∀ a b,k a b=true→Q (.Expr a b)):Q x:=@Stmt.casesOn (λ x=>Zpj k x=true→Q x) x (λ zz zz zz zz zz zz zz zz zz zz h=>no h) (λ zz zz zz zz zz zz zz zz zz zz h=>no h) (λ zz zz zz zz zz zz zz zz zz zz zz h=>no h) (λ zz zz h=>no h) (λ zz zz h=>no h) (λ zz zz zz h=>no h) (λ zz zz zz zz zz zz zz h=>no h) (λ zz zz zz zz h=>no h) (λ zz zz zz zz zz h=>no h) (λ zz zz zz zz zz h=>no h) (λ zz zz zz zz zz h=>no h) (λ zz zz zz zz h=>no h) (λ zz zz zz zz h=>no h) (λ zz zz zz h=>no h) (λ zz zz zz h=>no h) (λ zz zz zz h=>no h) (λ zz zz zz h=>no h) (λ zz zz zz zz zz h=>no h) (λ zz zz zz zz zz h=>no h) (λ zz zz zz h=>no h) (λ zz zz h=>no h) (λ zz zz zz zz h=>no h) (λ zz zz h=>no h) (λ zz zz h=>no h) (λ a b h=>f a b h) (λ zz h=>no h) (λ zz h=>no h) (λ zz h=>no h) h
section
variable {α:Type}
noncomputable def is0 (xs:List α):Bool:=@List.casesOn α (λ zz=>Bool) xs true (λ zz zz=>false)
noncomputable def isC (k:α→List α→Bool) (xs:List α):Bool:=@List.casesOn α (λ zz=>Bool) xs false (λ x r=>k x r)
theorem Z5 {xs:List α} (h:is0 xs=true):xs=[]:=@List.casesOn α (λ xs=>is0 xs=true→xs=[]) xs (λ zz=>rfl) (λ zz zz h=>no h) h
theorem Z7 {k:α→List α→Bool} {Q:List α→Prop} {xs:List α} (h:isC k xs=true) (f:∀ x r,k x r=true→Q (x::r)):Q xs:=@List.casesOn α (λ xs=>isC k xs=true→Q xs) xs (λ h=>no h) (λ x r h=>f x r h) h
noncomputable def is1 (k:α→Bool):List α→Bool:=isC λ x r=>is0 r&&k x
noncomputable def is2 (k:α→α→Bool):List α→Bool:=isC λ x r=>is1 (k x) r
noncomputable def is3 (k:α→α→α→Bool):List α→Bool:=isC λ x r=>is2 (k x) r
theorem Qr {k:α→Bool} {Q:List α→Prop} {xs:List α} (h:is1 k xs=true) (f:∀ x,k x=true→Q [x]):Q xs:=Z7 h λ x r h=>Z5 (and2 h).1▸f x (and2 h).2
theorem Zct {k:α→α→Bool} {Q:List α→Prop} {xs:List α} (h:is2 k xs=true) (f:∀ x y,k x y=true→Q [x,y]):Q xs:=Z7 h λ x r h=>Qr (Q:=λ r=>Q (x::r)) h λ y h=>f x y h
theorem Z1t {k:α→α→α→Bool} {Q:List α→Prop} {xs:List α} (h:is3 k xs=true) (f:∀ x y z,k x y z=true→Q [x,y,z]):Q xs:=Z7 h λ x r h=>Zct (Q:=λ r=>Q (x::r)) h λ y z h=>f x y z h
noncomputable def Jg (b:Bool) (k:α→Bool) (o:Option α):Bool:=@Option.casesOn α (λ zz=>Bool) o b (λ x=>k x)
theorem Zm {b:Bool} {k:α→Bool} {Q:Option α→Prop} {o:Option α} (h:Jg b k o=true) (f:b=true→Q none) (g:∀ x,k x=true→Q (some x)):Q o:=@Option.casesOn α (λ o=>Jg b k o=true→Q o) o (λ h=>f h) (λ x h=>g x h) h
end
noncomputable def Zdf:Expr→Bool
  | .Call (.Name _ _) [] [] _=>false
  | _=>true
noncomputable def Zqc:Expr→Bool
  | .Slice ..=>false
  | _=>true
noncomputable def Zgi:Expr→Bool
  | .Set ..=>false
  | _=>true
noncomputable def Jh:Expr→Bool
  | .Starred ..=>false
  | _=>true
noncomputable def Zsa:Expr→Bool
  | .ListComp ..=>false
  | .SetComp ..=>false
  | .DictComp ..=>false
  | _=>true
noncomputable def kdB (k:NameKind→Bool) (sc:Scope) (n:Str):Bool:=Jg false k (sc.names.lookup n)
noncomputable def vis (sc:Scope) (n:Str):Bool:=kdB (λ k=>k==.local || (k==.cell || k==.free)) sc n&&(n != ("__debug__":Str)&&n != ("__classdict__":Str))
noncomputable def isGl (sc:Scope) (n:Str):Bool:=kdB (λ k=>k==.globalImplicit) sc n&&n != ("__debug__":Str)
noncomputable def Zhx (sc:Scope) (n:Str):Bool:=kdB (λ k=>k==.local || k==.cell) sc n
noncomputable def relS (scope sc:Scope):Scope:=
  { scope with names:=scope.names.map λ (n,k)=>if (k==.free&&sc.kind==.function&&sc.names.lookup n==some .cell) then (n,.cell) else (n,k) }
noncomputable def Zwq (v:AVal) (c:Const):Bool:=match c with
  | .none=>@AVal.casesOn (λ zz=>Bool) v true (λ zz=>false) (λ zz=>false) (λ zz=>false) (λ zz=>false) (λ zz=>false) (λ zz=>false)
  | .bool b=>@AVal.casesOn (λ zz=>Bool) v false (λ a=>a==b) (λ zz=>false) (λ zz=>false) (λ zz=>false) (λ zz=>false) (λ zz=>false)
  | .int j=>@AVal.casesOn (λ zz=>Bool) v false (λ zz=>false) (λ i=>i==j) (λ zz=>false) (λ zz=>false) (λ zz=>false) (λ zz=>false)
  | .str t=>@AVal.casesOn (λ zz=>Bool) v false (λ zz=>false) (λ zz=>false) (λ c=>t==⟨c.toArray⟩) (λ zz=>false) (λ zz=>false) (λ zz=>false)
  | _=>false
noncomputable def PE:Type:=Scope→Expr→Bool
noncomputable def PS:Type:=Scope→Stmt→Bool
noncomputable def Jj (sc:Scope):List PE→List Expr→Bool
  | []=>is0
  | e::es=>isC λ x xs=>Jh x&&(e sc x&&Jj sc es xs)
noncomputable def Zo5:List String→List Expr→Bool
  | []=>is0
  | x::xs=>isC λ e es=>Zbt (λ n zz=>n==Str.ofString x) e&&Zo5 xs es
noncomputable def Zk1 (xs:List String) (k:Nat) (e:Expr):Bool:=((k==0 || k==2)&&is1 (λ x=>Zbt (λ n zz=>n==Str.ofString x) e) xs) || ((k==1 || (k==3 || k==4))&&Zey (λ es zz zz=>Zo5 xs es&&Nat.ble 2 xs.length) e)
noncomputable def Zqa (xs:List String) (scope sc:Scope):Bool:=
  scope.kind==.function&&(scope.names.all (λ y=>y.2 != .cell)&&(scope.names.all (λ y=>y.2 != .local || scope.names.lookup y.1==some .local)&&
  (scope.names.all (λ y=>y.2 != .free || (sc.names.lookup y.1==some .cell || sc.names.lookup y.1==some .free))&&
  (scope.names.all (λ y=>y.2 != .local || (y.1==Str.ofString ".0" || xs.any λ x=>y.1==Str.ofString x))&&xs.all (λ x=>scope.names.lookup (Str.ofString x)==some .local)))))
noncomputable def srcN (k:Nat):String:=if k=2 then "range" else if k=3 then "enumerate" else "zip"
noncomputable def Zm8 (sc:Scope) (k:Nat) (src:List PE) (it:Expr):Bool:=
  Zgi it&&(if k=0∨k=1 then Jj sc src [it] else Zfj (λ f ys kw zz=>Zbt (λ n zz=>n==Str.ofString (srcN k)&&isGl sc n) f&&(is0 kw&&Jj sc src ys)) it)
namespace PE
noncomputable def cst (v:AVal):PE:=λ zz=>Zb7 λ c zz zz=>Zwq v c
noncomputable def neg (e:PE):PE:=λ sc=>Zec λ o y zz=>o==.USub&&e sc y
noncomputable def not (e:PE):PE:=λ sc=>Zec λ o y zz=>o==.Not&&e sc y
noncomputable def loc (n:String):PE:=λ sc=>Zbt λ m zz=>m==Str.ofString n&&vis sc m
noncomputable def bin (op:Operator) (a b:PE):PE:=λ sc=>Zpl λ l o r zz=>o==op&&(a sc l&&b sc r)
noncomputable def cat (a b:PE):PE:=bin .Add a b
noncomputable def cmp (op:CmpOp) (a b:PE):PE:=λ sc=>Zee λ l os rs zz=>is1 (λ o=>o==op) os&&(a sc l&&is1 (λ r=>b sc r&&Zgi r) rs)
noncomputable def cmp2 (a:PE) (o1:CmpOp) (b:PE) (o2:CmpOp) (c:PE):PE:=λ sc=>Zee λ l os rs zz=>is2 (λ p q=>p==o1&&q==o2) os&&(a sc l&&is2 (λ r t=>b sc r&&(c sc t&&Zgi t)) rs)
noncomputable def and (a b:PE):PE:=λ sc=>Zef λ o vs zz=>o==.And&&is2 (λ l r=>a sc l&&b sc r) vs
noncomputable def or (a b:PE):PE:=λ sc=>Zef λ o vs zz=>o==.Or&&is2 (λ l r=>a sc l&&b sc r) vs
noncomputable def or3 (a b c:PE):PE:=λ sc=>Zef λ o vs zz=>o==.Or&&is3 (λ l r t=>a sc l&&(b sc r&&c sc t)) vs
noncomputable def cond (t a b:PE):PE:=λ sc=>Zpk λ u l r zz=>t sc u&&(a sc l&&b sc r)
noncomputable def idx (a i:PE):PE:=λ sc=>Jm λ v s zz=>a sc v&&(i sc s&&Zqc s)
noncomputable def opt (e:PE) (sc:Scope) (o:Option Expr):Bool:=Jg (e sc (.Constant .none 0 default)) (e sc) o
noncomputable def slc (a lo hi st:PE):PE:=λ sc=>Jm λ v s zz=>a sc v&&Zpi (λ l u t zz=>opt lo sc l&&(opt hi sc u&&opt st sc t)) s
noncomputable def att (a:PE) (n:String):PE:=λ sc=>Qu λ v m zz=>m==Str.ofString n&&(Zdf v&&a sc v)
noncomputable def tup (es:List PE):PE:=λ sc=>Zey λ xs zz zz=>Jj sc es xs&&Nat.blt es.length 100
noncomputable def lst (es:List PE):PE:=λ sc=>Zw0 λ xs zz=>Jj sc es xs&&Nat.blt es.length 100
noncomputable def new (es:List PE):PE:=lst es
noncomputable def Zvx:List AVal→List (Option Expr)→Bool
  | []=>is0
  | v::vs=>isC λ o os=>Jg false (λ x=>Zb7 (λ c zz zz=>(AVal.flat v&&Zwq v c)) x) o&&Zvx vs os
noncomputable def dct (ks:List AVal) (vs:List PE):PE:=λ sc=>Zw1 λ keys vals zz=>Zvx ks keys&&(Jj sc vs vals&&Nat.blt vs.length 15)
noncomputable def fld (e:PE):PE:=λ sc=>Q2 λ y cv o zz=>cv==(-1)&&(Jg true (λ zz=>false) o&&e sc y)
noncomputable def fitFs (sc:Scope):List PE→List Expr→Bool
  | []=>is0
  | e::es=>isC λ x xs=>e sc x&&fitFs sc es xs
noncomputable def fst (es:List PE):PE:=λ sc=>Zc4 λ xs zz=>fitFs sc es xs&&Nat.ble 2 es.length
noncomputable def byN (f:String) (es:List PE):PE:=λ sc=>Zfj λ g xs kw zz=>Zbt (λ n zz=>n==Str.ofString f&&isGl sc n) g&&(is0 kw&&Jj sc es xs)
noncomputable def blt (f:String) (es:List PE):PE:=byN f es
noncomputable def sset (e:PE):PE:=byN "sorted" [byN "set" [e]]
noncomputable def fn (f:String) (es:List PE):PE:=byN f es
noncomputable def cls (c:String) (es:List PE):PE:=byN c es
noncomputable def mth (o:PE) (m:String) (es:List PE):PE:=λ sc=>Zfj λ g xs kw p=>Qu (λ v n ap=>n==Str.ofString m&&(Zdf v&&(ap.endLine==p.line&&o sc v))) g&&(is0 kw&&(Jj sc es xs&&Nat.blt es.length 20))
noncomputable def comp (elt:PE) (xs:List String) (k:Nat) (src:List PE) (ifs:List PE):PE:=λ sc=>Zb5 λ e gs scope zz=>is1 (λ g=>g.is_async==0&&(Zqa xs scope sc&&(Zk1 xs k g.target&&(Zm8 sc k src g.iter&&Jj (relS scope sc) ifs g.ifs)))) gs&&elt (relS scope sc) e
noncomputable def sup (q m:String) (es:List PE):PE:=λ sc=>Zfj λ g xs kw p=>
  Qu (λ v m' ap=>m'==Str.ofString m&&(m' != ("__class__":Str)&&(ap.endLine==p.line&&Zfj (λ h ys kw' zz=>Zbt (λ n zz=>n==("super":Str)) h&&(is0 ys&&is0 kw')) v))) g&&
  (is0 kw&&(Jj sc es xs&&(Nat.blt es.length 20&&(kdB (λ k=>k==.globalImplicit) sc ("super":Str)&&kdB (λ k=>k==.free) sc ("__class__":Str)))))
end PE
noncomputable def swOK (v:Expr):Bool:=match v with
  | .Tuple vs _ _=>vs.any λ e=>!constantsAlone 8 e
  | _=>true
noncomputable def lcOK (sc:Scope) (x:String) (np:Pos) (sp:Pos) (v:Expr):Bool:=Zb5 (λ zz zz scope p=>sc.names.lookup (Str.ofString x)==some .local&&(np.line==p.line&&!(scope.names.any λ (n,k)=>n==Str.ofString x&&(k==.local || k==.cell)))) v
noncomputable def fitB (sc:Scope):List PS→List Stmt→Bool
  | []=>is0
  | p::ps=>isC λ t ts=>p sc t&&fitB sc ps ts
namespace PS
noncomputable def any:PS:=λ zz zz=>true
noncomputable def asg (x:String) (e:PE):PS:=λ sc=>Jn λ ts v zz=>is1 (λ t=>Zbt (λ n zz=>n==Str.ofString x&&Zhx sc n) t) ts&&(Zsa v&&e sc v)
noncomputable def asgc (x:String) (e:PE):PS:=λ sc=>Jn λ ts v sp=>is1 (λ t=>Zbt (λ n np=>n==Str.ofString x&&lcOK sc x np sp v) t) ts&&e sc v
noncomputable def unp (xs:List String) (e:PE):PS:=λ sc=>Jn λ ts v zz=>is1 (λ t=>Zey (λ es zz zz=>Zo5 xs es) t) ts&&(xs.all (λ x=>Zhx sc (Str.ofString x))&&(decide xs.Nodup&&(e sc v&&(Zsa v&&swOK v))))
noncomputable def sat (o:PE) (n:String) (e:PE):PS:=λ sc=>Jn λ ts x zz=>is1 (λ t=>Qu (λ v m zz=>m==Str.ofString n&&o sc v) t) ts&&(e sc x&&Zsa x)
noncomputable def six (o i e:PE):PS:=λ sc=>Jn λ ts x zz=>is1 (λ t=>Jm (λ v y zz=>o sc v&&(i sc y&&Zqc y)) t) ts&&(e sc x&&Zsa x)
noncomputable def ret (e:PE):PS:=λ sc=>Zht λ o zz=>Jg false (e sc) o
noncomputable def exp (e:PE):PS:=λ sc=>Zpj λ x zz=>e sc x&&Zsa x
noncomputable def ifs (c:PE) (b o:List PS):PS:=λ sc=>Z2h λ x bs os zz=>c sc x&&(fitB sc b bs&&fitB sc o os)
noncomputable def whl (c:PE) (b:List PS):PS:=λ sc=>Zlg λ x bs os zz=>c sc x&&(is0 os&&fitB sc b bs)
noncomputable def «for» (xs:List String) (k:Nat) (src:List PE) (b:List PS):PS:=λ sc=>Zwz λ tg it bs os zz=>Zk1 xs k tg&&(xs.all (λ x=>Zhx sc (Str.ofString x))&&(Zm8 sc k src it&&(is0 os&&fitB sc b bs)))
noncomputable def trys (b:List PS):PS:=λ sc=>Zwy λ bs hs os fs zz=>isC (λ zz zz=>true) hs&&(is0 os&&(is0 fs&&fitB sc b bs))
end PS
structure Fn where
  params:List String
  body:List PS
end PL
end
section
namespace PL
noncomputable def Zv6:Fn:=⟨["text"],
  [(.ret (.and (.cmp .NotEq (.loc "text") (.cst (.str []))) (.cmp .Eq (.comp (.loc "sign") ["sign"] 0 [(.loc "text")] [(.or (.mth (.loc "sign") "isspace" []) (.cmp .In (.loc "sign") (.cst (.str [40,41,91,93,123,125,44,58]))))]) (.lst []))))]⟩
noncomputable def Zds:Fn:=⟨["t"],
  [(.ret (.and (.cmp .Eq (.blt "len" [(.loc "t")]) (.cst (.int 1))) (.cmp .Eq (.slc (.idx (.loc "t") (.cst (.int 0))) (.cst .none) (.cst (.int 1)) (.cst .none)) (.cst (.str [63])))))]⟩
noncomputable def Zhh:Fn:=⟨["self"],
  [(.sat (.loc "self") "nodes" (.new [])),
   (.sat (.loc "self") "numbers" (.dct [] [])),
   (.sat (.loc "self") "weights" (.new [])),
   (.sat (.loc "self") "depths" (.new []))]⟩
noncomputable def Zhf:Fn:=⟨["self"],
  [(.ret (.blt "len" [(.att (.loc "self") "nodes")]))]⟩
noncomputable def Zhe:Fn:=⟨["self","op","kids"],
  [(.asg "node" (.bin .Add (.tup [(.loc "op")]) (.blt "tuple" [(.loc "kids")]))),
   (.ifs (.cmp .In (.loc "node") (.att (.loc "self") "numbers")) [(.ret (.idx (.att (.loc "self") "numbers") (.loc "node")))] []),
   (.exp (.mth (.loc "self") "require" [(.loc "op")])),
   (.for ["kid"] 0 [(.slc (.loc "node") (.cst (.int 1)) (.cst .none) (.cst .none))] [(.ifs (.not (.cmp2 (.cst (.int 0)) .LtE (.loc "kid") .Lt (.blt "len" [(.att (.loc "self") "nodes")]))) [.any] [])]),
   (.six (.att (.loc "self") "numbers") (.loc "node") (.blt "len" [(.att (.loc "self") "nodes")])),
   (.exp (.mth (.att (.loc "self") "nodes") "append" [(.loc "node")])),
   (.exp (.mth (.att (.loc "self") "weights") "append" [(.bin .Add (.cst (.int 1)) (.blt "sum" [(.comp (.idx (.att (.loc "self") "weights") (.loc "kid")) ["kid"] 0 [(.slc (.loc "node") (.cst (.int 1)) (.cst .none) (.cst .none))] [])]))])),
   (.exp (.mth (.att (.loc "self") "depths") "append" [(.bin .Add (.cst (.int 1)) (.blt "max" [(.bin .Add (.comp (.idx (.att (.loc "self") "depths") (.loc "kid")) ["kid"] 0 [(.slc (.loc "node") (.cst (.int 1)) (.cst .none) (.cst .none))] []) (.lst [(.cst (.int 0))]))]))])),
   (.ret (.bin .Sub (.blt "len" [(.att (.loc "self") "nodes")]) (.cst (.int 1))))]⟩
noncomputable def Zcq:Fn:=⟨["self","op"],
  [(.ifs (.or (.not (.fn "is_op" [(.loc "op")])) (.cmp .Eq (.idx (.loc "op") (.cst (.int 0))) (.cst (.str [63])))) [.any] [])]⟩
noncomputable def Zne:Fn:=⟨["self","n"],
  [(.ret (.idx (.idx (.att (.loc "self") "nodes") (.loc "n")) (.cst (.int 0))))]⟩
noncomputable def Zhg:Fn:=⟨["self","n"],
  [(.ret (.slc (.idx (.att (.loc "self") "nodes") (.loc "n")) (.cst (.int 1)) (.cst .none) (.cst .none)))]⟩
noncomputable def Zdy:Fn:=⟨["self"],
  [(.sat (.loc "self") "above" (.new [])),
   (.sat (.loc "self") "lots" (.new [])),
   (.sat (.loc "self") "merged" (.new []))]⟩
noncomputable def Zdx:Fn:=⟨["self"],
  [(.exp (.mth (.att (.loc "self") "above") "append" [(.blt "len" [(.att (.loc "self") "above")])])),
   (.exp (.mth (.att (.loc "self") "lots") "append" [(.new [(.blt "len" [(.att (.loc "self") "lots")])])])),
   (.ret (.bin .Sub (.blt "len" [(.att (.loc "self") "above")]) (.cst (.int 1))))]⟩
noncomputable def Zdw:Fn:=⟨["self"],
  [(.ret (.blt "len" [(.att (.loc "self") "above")]))]⟩
noncomputable def Zdz:Fn:=⟨["self","a"],
  [(.whl (.cmp .NotEq (.idx (.att (.loc "self") "above") (.loc "a")) (.loc "a")) [(.asg "a" (.idx (.att (.loc "self") "above") (.loc "a")))]),
   (.ret (.loc "a"))]⟩
noncomputable def Zcl:Fn:=⟨["self","a","b"],
  [(.unp ["kept","gone"] (.blt "sorted" [(.lst [(.mth (.loc "self") "find" [(.loc "a")]),(.mth (.loc "self") "find" [(.loc "b")])])])),
   (.ifs (.cmp .Eq (.loc "kept") (.loc "gone")) [(.ret (.cst .none))] []),
   (.six (.att (.loc "self") "above") (.loc "gone") (.loc "kept")),
   (.exp (.mth (.idx (.att (.loc "self") "lots") (.loc "kept")) "extend" [(.idx (.att (.loc "self") "lots") (.loc "gone"))])),
   (.exp (.mth (.att (.loc "self") "merged") "append" [(.tup [(.loc "kept"),(.loc "gone")])])),
   (.ret (.tup [(.loc "kept"),(.loc "gone")]))]⟩
noncomputable def Zaw:Fn:=⟨["self","a"],
  [(.ret (.blt "sorted" [(.idx (.att (.loc "self") "lots") (.mth (.loc "self") "find" [(.loc "a")]))]))]⟩
noncomputable def Zax:Fn:=⟨["self"],
  [(.ret (.comp (.loc "a") ["a"] 2 [(.blt "len" [(.att (.loc "self") "above")])] [(.cmp .Eq (.idx (.att (.loc "self") "above") (.loc "a")) (.loc "a"))]))]⟩
noncomputable def Zhc:Fn:=⟨["self"],
  [(.sat (.loc "self") "bank" (.cls "Bank" [])),
   (.sat (.loc "self") "unions" (.cls "Unions" [])),
   (.sat (.loc "self") "edges" (.new [])),
   (.sat (.loc "self") "forest" (.new [])),
   (.sat (.loc "self") "known" (.dct [] [])),
   (.sat (.loc "self") "above" (.dct [] [])),
   (.sat (.loc "self") "waiting" (.new []))]⟩
noncomputable def Zg9:Fn:=⟨["self"],
  [(.ret (.mth (.att (.loc "self") "bank") "size" []))]⟩
noncomputable def Zha:Fn:=⟨["self","n"],
  [(.ret (.bin .Add (.tup [(.mth (.att (.loc "self") "bank") "op" [(.loc "n")])]) (.blt "tuple" [(.comp (.mth (.loc "self") "find" [(.loc "kid")]) ["kid"] 0 [(.mth (.att (.loc "self") "bank") "kids" [(.loc "n")])] [])])))]⟩
noncomputable def Zi8:Fn:=⟨["self","op","numbers"],
  [(.asg "n" (.mth (.att (.loc "self") "bank") "take" [(.loc "op"),(.loc "numbers")])),
   (.ifs (.cmp .Lt (.loc "n") (.mth (.att (.loc "self") "unions") "size" [])) [(.ret (.loc "n"))] []),
   (.exp (.mth (.att (.loc "self") "unions") "make" [])),
   (.six (.att (.loc "self") "above") (.loc "n") (.new [])),
   (.for ["c"] 0 [(.sset (.comp (.mth (.loc "self") "find" [(.loc "kid")]) ["kid"] 0 [(.loc "numbers")] []))] [(.exp (.mth (.idx (.att (.loc "self") "above") (.loc "c")) "append" [(.loc "n")]))]),
   (.exp (.mth (.loc "self") "look_at" [(.loc "n")])),
   (.ret (.loc "n"))]⟩
noncomputable def Zi7:Fn:=⟨["self","term"],
  [(.ret (.mth (.loc "self") "add" [(.idx (.loc "term") (.cst (.int 0))),(.blt "tuple" [(.comp (.mth (.loc "self") "put" [(.loc "part")]) ["part"] 0 [(.slc (.loc "term") (.cst (.int 1)) (.cst .none) (.cst .none))] [])])]))]⟩
noncomputable def Zco:Fn:=⟨["self","n"],
  [(.asg "other" (.mth (.att (.loc "self") "known") "setdefault" [(.mth (.loc "self") "node" [(.loc "n")]),(.loc "n")])),
   (.ifs (.cmp .NotEq (.mth (.loc "self") "find" [(.loc "other")]) (.mth (.loc "self") "find" [(.loc "n")])) [(.exp (.mth (.loc "self") "join" [(.loc "other"),(.loc "n"),(.tup [(.cst (.str [108,105,107,101]))])]))] [])]⟩
noncomputable def Zhd:Fn:=⟨["self","n"],
  [(.ret (.mth (.att (.loc "self") "unions") "find" [(.loc "n")]))]⟩
noncomputable def Zfh:Fn:=⟨["self","a","b","reason"],
  [(.ret (.mth (.loc "self") "join" [(.loc "a"),(.loc "b"),(.loc "reason")]))]⟩
noncomputable def Zhb:Fn:=⟨["self","a","b","reason"],
  [(.exp (.mth (.att (.loc "self") "edges") "append" [(.tup [(.loc "a"),(.loc "b"),(.loc "reason")])])),
   (.asg "merged" (.mth (.att (.loc "self") "unions") "merge" [(.loc "a"),(.loc "b")])),
   (.ifs (.cmp .Is (.loc "merged") (.cst .none)) [(.ret (.cst (.bool false)))] []),
   (.unp ["kept","gone"] (.loc "merged")),
   (.exp (.mth (.att (.loc "self") "forest") "append" [(.bin .Sub (.blt "len" [(.att (.loc "self") "edges")]) (.cst (.int 1)))])),
   (.exp (.mth (.att (.loc "self") "waiting") "extend" [(.idx (.att (.loc "self") "above") (.loc "gone"))])),
   (.six (.att (.loc "self") "above") (.loc "kept") (.cat (.idx (.att (.loc "self") "above") (.loc "kept")) (.mth (.att (.loc "self") "above") "pop" [(.loc "gone")]))),
   (.ret (.cst (.bool true)))]⟩
noncomputable def Zd1:Fn:=⟨["self"],
  [(.whl (.cmp .Gt (.blt "len" [(.att (.loc "self") "waiting")]) (.cst (.int 0))) [(.exp (.mth (.loc "self") "look_at" [(.mth (.att (.loc "self") "waiting") "pop" [])]))])]⟩
noncomputable def Zac:Fn:=⟨["self"],
  [(.ret (.cmp .Eq (.blt "len" [(.att (.loc "self") "waiting")]) (.cst (.int 0))))]⟩
noncomputable def Zcp:Fn:=⟨["self"],
  [(.ret (.mth (.att (.loc "self") "unions") "classes" []))]⟩
noncomputable def Zcn:Fn:=⟨["self","c"],
  [(.ret (.mth (.att (.loc "self") "unions") "members" [(.loc "c")]))]⟩
noncomputable def Zbo:Fn:=⟨["self","c"],
  [(.ret (.sset (.comp (.mth (.loc "self") "node" [(.loc "n")]) ["n"] 0 [(.mth (.loc "self") "members" [(.loc "c")])] [])))]⟩
noncomputable def Zfg:Fn:=⟨["self","c"],
  [(.ret (.sset (.idx (.att (.loc "self") "above") (.mth (.loc "self") "find" [(.loc "c")]))))]⟩
noncomputable def Zcj:Fn:=⟨["reason","many"],
  [(.ifs (.not (.fn "is_op" [(.idx (.loc "reason") (.cst (.int 1)))])) [.any] []),
   (.for ["name","n"] 1 [(.cond (.cmp .Eq (.idx (.loc "reason") (.cst (.int 0))) (.cst (.str [114,117,108,101]))) (.idx (.loc "reason") (.cst (.int 2))) (.tup []))] [(.ifs (.or3 (.not (.fn "is_variable" [(.tup [(.loc "name")])])) (.not (.fn "is_op" [(.loc "name")])) (.not (.cmp2 (.cst (.int 0)) .LtE (.loc "n") .Lt (.loc "many")))) [.any] [])])]⟩
noncomputable def Zck:Fn:=⟨["self"],
  [(.exp (.sup "Heap.__init__" "__init__" [])),
   (.sat (.loc "self") "rows" (.new []))]⟩
noncomputable def Zdv:Fn:=⟨["self","op","numbers"],
  [(.asg "many" (.mth (.loc "self") "size" [])),
   (.asg "n" (.sup "Heap.add" "add" [(.loc "op"),(.loc "numbers")])),
   (.ifs (.cmp .Gt (.mth (.loc "self") "size" []) (.loc "many")) [(.exp (.mth (.att (.loc "self") "rows") "append" [(.tup [(.cst (.str [97,100,100])),(.loc "op"),(.blt "tuple" [(.loc "numbers")])])]))] []),
   (.ret (.loc "n"))]⟩
noncomputable def Zbn:Fn:=⟨["self","a","b","reason"],
  [(.exp (.fn "check_reason" [(.loc "reason"),(.mth (.loc "self") "size" [])])),
   (.ifs (.or (.not (.cmp2 (.cst (.int 0)) .LtE (.loc "a") .Lt (.mth (.loc "self") "size" []))) (.not (.cmp2 (.cst (.int 0)) .LtE (.loc "b") .Lt (.mth (.loc "self") "size" [])))) [.any] []),
   (.exp (.mth (.att (.loc "self") "rows") "append" [(.tup [(.cst (.str [115,97,109,101])),(.loc "a"),(.loc "b"),(.loc "reason")])])),
   (.ret (.sup "Heap.merge" "merge" [(.loc "a"),(.loc "b"),(.loc "reason")]))]⟩
noncomputable def Zav:Fn:=⟨["self"],
  [(.ifs (.not (.mth (.loc "self") "is_settled" [])) [(.exp (.mth (.att (.loc "self") "rows") "append" [(.tup [(.cst (.str [115,101,116,116,108,101]))])]))] []),
   (.exp (.sup "Heap.settle" "settle" []))]⟩
noncomputable def Zi5:Fn:=⟨["row"],
  [(.ifs (.cmp .Eq (.idx (.loc "row") (.cst (.int 0))) (.cst (.str [97,100,100]))) [(.ret (.mth (.cst (.str [32])) "join" [(.bin .Add (.lst [(.cst (.str [97,100,100])),(.idx (.loc "row") (.cst (.int 1)))]) (.comp (.blt "str" [(.loc "n")]) ["n"] 0 [(.idx (.loc "row") (.cst (.int 2)))] []))]))] []),
   (.ifs (.cmp .Eq (.idx (.loc "row") (.cst (.int 0))) (.cst (.str [115,101,116,116,108,101]))) [(.ret (.cst (.str [115,101,116,116,108,101])))] []),
   (.asg "reason" (.idx (.loc "row") (.cst (.int 3)))),
   (.asg "places" (.cond (.cmp .Eq (.idx (.loc "reason") (.cst (.int 0))) (.cst (.str [114,117,108,101]))) (.comp (.fst [(.fld (.loc "name")),(.cst (.str [32])),(.fld (.loc "n"))]) ["name","n"] 1 [(.idx (.loc "reason") (.cst (.int 2)))] []) (.lst []))),
   (.ret (.mth (.cst (.str [32])) "join" [(.bin .Add (.lst [(.cst (.str [115,97,109,101])),(.blt "str" [(.idx (.loc "row") (.cst (.int 1)))]),(.blt "str" [(.idx (.loc "row") (.cst (.int 2)))]),(.idx (.loc "reason") (.cst (.int 0))),(.idx (.loc "reason") (.cst (.int 1)))]) (.loc "places"))]))]⟩
noncomputable def Zg2:Fn:=⟨["word","row"],
  [(.ifs (.or3 (.cmp .Gt (.blt "len" [(.loc "word")]) (.cst (.int 9))) (.cmp .Eq (.loc "word") (.cst (.str []))) (.cmp .NotEq (.comp (.loc "sign") ["sign"] 0 [(.loc "word")] [(.cmp .NotIn (.loc "sign") (.cst (.str [48,49,50,51,52,53,54,55,56,57])))]) (.lst []))) [.any] []),
   (.ifs (.and (.cmp .Eq (.idx (.loc "word") (.cst (.int 0))) (.cst (.str [48]))) (.cmp .NotEq (.loc "word") (.cst (.str [48])))) [.any] []),
   (.ret (.blt "int" [(.loc "word")]))]⟩
noncomputable def Znd:Fn:=⟨["words","row"],
  [(.ifs (.or3 (.cmp .Lt (.blt "len" [(.loc "words")]) (.cst (.int 5))) (.cmp .Eq (.bin .Mod (.blt "len" [(.loc "words")]) (.cst (.int 2))) (.cst (.int 0))) (.and (.cmp .NotEq (.idx (.loc "words") (.cst (.int 3))) (.cst (.str [114,117,108,101]))) (.or (.cmp .NotEq (.idx (.loc "words") (.cst (.int 3))) (.cst (.str [116,111,108,100]))) (.cmp .Gt (.blt "len" [(.loc "words")]) (.cst (.int 5)))))) [.any] []),
   (.asg "reason" (.tup [(.idx (.loc "words") (.cst (.int 3))),(.idx (.loc "words") (.cst (.int 4)))])),
   (.ifs (.cmp .Eq (.idx (.loc "words") (.cst (.int 3))) (.cst (.str [114,117,108,101]))) [(.asg "names" (.slc (.loc "words") (.cst (.int 5)) (.cst .none) (.cst (.int 2)))),(.ifs (.cmp .NotEq (.loc "names") (.sset (.loc "names"))) [.any] []),(.asg "reason" (.bin .Add (.loc "reason") (.tup [(.blt "tuple" [(.comp (.tup [(.loc "name"),(.fn "number_of" [(.loc "word"),(.loc "row")])]) ["name","word"] 4 [(.loc "names"),(.slc (.loc "words") (.cst (.int 6)) (.cst .none) (.cst (.int 2)))] [])])])))] []),
   (.ret (.tup [(.cst (.str [115,97,109,101])),(.fn "number_of" [(.idx (.loc "words") (.cst (.int 1))),(.loc "row")]),(.fn "number_of" [(.idx (.loc "words") (.cst (.int 2))),(.loc "row")]),(.loc "reason")]))]⟩
noncomputable def Zq9:Fn:=⟨["text","row"],
  [(.asg "words" (.mth (.loc "text") "split" [(.cst (.str [32]))])),
   (.ifs (.and (.cmp .Eq (.idx (.loc "words") (.cst (.int 0))) (.cst (.str [97,100,100]))) (.cmp .Gt (.blt "len" [(.loc "words")]) (.cst (.int 1)))) [(.ret (.tup [(.cst (.str [97,100,100])),(.idx (.loc "words") (.cst (.int 1))),(.blt "tuple" [(.comp (.fn "number_of" [(.loc "word"),(.loc "row")]) ["word"] 0 [(.slc (.loc "words") (.cst (.int 2)) (.cst .none) (.cst .none))] [])])]))] []),
   (.ifs (.cmp .Eq (.idx (.loc "words") (.cst (.int 0))) (.cst (.str [115,97,109,101]))) [(.ret (.fn "same_of" [(.loc "words"),(.loc "row")]))] []),
   (.ifs (.cmp .NotEq (.loc "words") (.lst [(.cst (.str [115,101,116,116,108,101]))])) [.any] []),
   (.ret (.tup [(.cst (.str [115,101,116,116,108,101]))]))]⟩
noncomputable def Zff:Fn:=⟨["self"],
  [(.sat (.loc "self") "heap" (.cls "Written" []))]⟩
noncomputable def Zg8:Fn:=⟨["self","term"],
  [(.ret (.mth (.att (.loc "self") "heap") "put" [(.loc "term")]))]⟩
noncomputable def Zd0:Fn:=⟨["self","a","b","reason"],
  [(.ret (.mth (.att (.loc "self") "heap") "merge" [(.loc "a"),(.loc "b"),(.loc "reason")]))]⟩
noncomputable def Zcm:Fn:=⟨["self"],
  [(.exp (.mth (.att (.loc "self") "heap") "settle" []))]⟩
noncomputable def Zfe:Fn:=⟨["self"],
  [(.ret (.blt "list" [(.att (.att (.loc "self") "heap") "rows")]))]⟩
noncomputable def Zfd:Fn:=⟨["self"],
  [(.ret (.mth (.cst (.str [])) "join" [(.comp (.bin .Add (.fn "row_text" [(.loc "row")]) (.cst (.str [10]))) ["row"] 0 [(.att (.att (.loc "self") "heap") "rows")] [])]))]⟩
noncomputable def Zi6:Fn:=⟨["self","row"],
  [(.ifs (.cmp .Eq (.idx (.loc "row") (.cst (.int 0))) (.cst (.str [97,100,100]))) [(.exp (.mth (.att (.loc "self") "heap") "add" [(.idx (.loc "row") (.cst (.int 1))),(.idx (.loc "row") (.cst (.int 2)))]))] [(.ifs (.cmp .Eq (.idx (.loc "row") (.cst (.int 0))) (.cst (.str [115,97,109,101]))) [(.exp (.mth (.att (.loc "self") "heap") "merge" [(.idx (.loc "row") (.cst (.int 1))),(.idx (.loc "row") (.cst (.int 2))),(.idx (.loc "row") (.cst (.int 3)))]))] [(.exp (.mth (.att (.loc "self") "heap") "settle" []))])])]⟩
noncomputable def Jv:Fn:=⟨["self","other"],
  [(.unp ["mine","late"] (.tup [(.mth (.loc "self") "rows" []),(.mth (.loc "other") "rows" [])])),
   (.for ["k"] 2 [(.blt "min" [(.blt "len" [(.loc "mine")]),(.blt "len" [(.loc "late")])])] [(.ifs (.cmp .NotEq (.idx (.loc "mine") (.loc "k")) (.idx (.loc "late") (.loc "k"))) [(.ret (.loc "k"))] [])]),
   (.ret (.cond (.cmp .Eq (.blt "len" [(.loc "mine")]) (.blt "len" [(.loc "late")])) (.neg (.cst (.int 1))) (.blt "min" [(.blt "len" [(.loc "mine")]),(.blt "len" [(.loc "late")])])))]⟩
noncomputable def Zfa:Fn:=⟨["text"],
  [(.asg "story" (.cls "Story" [])),
   (.ifs (.and (.cmp .NotEq (.loc "text") (.cst (.str []))) (.cmp .NotEq (.idx (.loc "text") (.neg (.cst (.int 1)))) (.cst (.str [10])))) [.any] []),
   (.for ["k","line"] 3 [(.slc (.mth (.loc "text") "split" [(.cst (.str [10]))]) (.cst .none) (.neg (.cst (.int 1))) (.cst .none))] [(.asg "row" (.fn "row_of" [(.loc "line"),(.loc "k")])),(.trys [(.exp (.mth (.loc "story") "do" [(.loc "row")]))]),(.ifs (.cmp .NotEq (.blt "len" [(.att (.att (.loc "story") "heap") "rows")]) (.bin .Add (.loc "k") (.cst (.int 1)))) [.any] [])]),
   (.ret (.loc "story"))]⟩
noncomputable def Zg5:Fn:=⟨["feed","wide"],
  [(.unp ["cells","spot"] (.tup [(.idx (.loc "feed") (.cst (.str [99,101,108,108,115]))),(.idx (.loc "feed") (.cst (.str [115,112,111,116])))])),
   (.six (.loc "feed") (.cst (.str [115,112,111,116])) (.bin .Add (.loc "spot") (.cst (.int 1)))),
   (.ifs (.cmp .Lt (.loc "spot") (.blt "len" [(.loc "cells")])) [(.ret (.bin .Mod (.blt "int" [(.idx (.loc "cells") (.loc "spot"))]) (.loc "wide")))] []),
   (.ret (.bin .Mod (.bin .Mod (.bin .Add (.bin .Add (.bin .Mult (.bin .Mult (.cst (.int 3)) (.loc "spot")) (.loc "spot")) (.bin .Mult (.cst (.int 7)) (.loc "spot"))) (.bin .Mult (.cst (.int 5)) (.blt "len" [(.loc "cells")]))) (.cst (.int 97))) (.loc "wide")))]⟩
noncomputable def Zg4:Fn:=⟨["feed","deep"],
  [(.asg "way" (.cond (.cmp .Gt (.loc "deep") (.cst (.int 0))) (.fn "_law_draw" [(.loc "feed"),(.cst (.int 4))]) (.fn "_law_draw" [(.loc "feed"),(.cst (.int 2))]))),
   (.ifs (.cmp .Lt (.loc "way") (.cst (.int 2))) [(.ret (.tup [(.idx (.lst [(.cst (.str [97])),(.cst (.str [98]))]) (.loc "way"))]))] []),
   (.ret (.bin .Add (.tup [(.idx (.lst [(.cst (.str [102])),(.cst (.str [103]))]) (.bin .Sub (.loc "way") (.cst (.int 2))))]) (.blt "tuple" [(.comp (.fn "_law_term" [(.loc "feed"),(.bin .Sub (.loc "deep") (.cst (.int 1)))]) ["turn"] 2 [(.bin .Sub (.loc "way") (.cst (.int 1)))] [])])))]⟩
noncomputable def Zdu:Fn:=⟨["nodes","rows","t"],
  [(.asg "node" (.bin .Add (.tup [(.idx (.loc "t") (.cst (.int 0)))]) (.blt "tuple" [(.comp (.fn "_law_number" [(.loc "nodes"),(.loc "rows"),(.loc "kid")]) ["kid"] 0 [(.slc (.loc "t") (.cst (.int 1)) (.cst .none) (.cst .none))] [])]))),
   (.ifs (.cmp .NotIn (.loc "node") (.loc "nodes")) [(.exp (.mth (.loc "nodes") "append" [(.loc "node")])),(.exp (.mth (.loc "rows") "append" [(.tup [(.cst (.str [97,100,100])),(.idx (.loc "node") (.cst (.int 0))),(.slc (.loc "node") (.cst (.int 1)) (.cst .none) (.cst .none))])]))] []),
   (.ret (.mth (.loc "nodes") "index" [(.loc "node")]))]⟩
noncomputable def Zdt:Fn:=⟨["feed","many"],
  [(.ifs (.cmp .Eq (.fn "_law_draw" [(.loc "feed"),(.cst (.int 2))]) (.cst (.int 0))) [(.ret (.tup [(.cst (.str [116,111,108,100])),(.idx (.lst [(.cst (.str [109])),(.cst (.str [110,49]))]) (.fn "_law_draw" [(.loc "feed"),(.cst (.int 2))]))]))] []),
   (.asgc "places" (.comp (.tup [(.loc "name"),(.fn "_law_draw" [(.loc "feed"),(.loc "many")])]) ["name"] 0 [(.slc (.lst [(.cst (.str [63,120])),(.cst (.str [63,121]))]) (.cst .none) (.fn "_law_draw" [(.loc "feed"),(.cst (.int 3))]) (.cst .none))] [])),
   (.ret (.tup [(.cst (.str [114,117,108,101])),(.bin .Add (.cst (.str [114,45])) (.blt "str" [(.fn "_law_draw" [(.loc "feed"),(.cst (.int 3))])])),(.blt "tuple" [(.loc "places")])]))]⟩
noncomputable def Zg7:Fn:=⟨["feed","many"],
  [(.asg "way" (.fn "_law_draw" [(.loc "feed"),(.cst (.int 5))])),
   (.ifs (.or (.cmp .Eq (.loc "many") (.cst (.int 0))) (.cmp .Lt (.loc "way") (.cst (.int 2)))) [(.ret (.tup [(.cst (.str [112,117,116])),(.fn "_law_term" [(.loc "feed"),(.cst (.int 2))])]))] []),
   (.ifs (.cmp .Eq (.loc "way") (.cst (.int 4))) [(.ret (.tup [(.cst (.str [115,101,116,116,108,101]))]))] []),
   (.ret (.tup [(.cst (.str [115,97,109,101])),(.fn "_law_draw" [(.loc "feed"),(.loc "many")]),(.fn "_law_draw" [(.loc "feed"),(.loc "many")]),(.fn "_law_reason" [(.loc "feed"),(.loc "many")])]))]⟩
noncomputable def Zg6:Fn:=⟨["story","deed"],
  [(.ifs (.cmp .Eq (.idx (.loc "deed") (.cst (.int 0))) (.cst (.str [112,117,116]))) [(.ret (.mth (.loc "story") "put" [(.idx (.loc "deed") (.cst (.int 1)))]))] []),
   (.ifs (.cmp .Eq (.idx (.loc "deed") (.cst (.int 0))) (.cst (.str [115,97,109,101]))) [(.ret (.mth (.loc "story") "merge" [(.idx (.loc "deed") (.cst (.int 1))),(.idx (.loc "deed") (.cst (.int 2))),(.idx (.loc "deed") (.cst (.int 3)))]))] []),
   (.exp (.mth (.loc "story") "settle" [])),
   (.ret (.cst .none))]⟩
noncomputable def Zfc:Fn:=⟨["nodes","rows","deed","is_settled"],
  [(.ifs (.cmp .Eq (.idx (.loc "deed") (.cst (.int 0))) (.cst (.str [112,117,116]))) [(.ret (.fn "_law_number" [(.loc "nodes"),(.loc "rows"),(.idx (.loc "deed") (.cst (.int 1)))]))] []),
   (.ifs (.or (.cmp .Eq (.idx (.loc "deed") (.cst (.int 0))) (.cst (.str [115,97,109,101]))) (.not (.loc "is_settled"))) [(.exp (.mth (.loc "rows") "append" [(.loc "deed")]))] []),
   (.ret (.neg (.cst (.int 1))))]⟩
noncomputable def Zg3:Fn:=⟨["rows"],
  [(.asg "found" (.cst (.str []))),
   (.for ["row"] 0 [(.loc "rows")] [(.asg "words" (.lst [(.idx (.loc "row") (.cst (.int 0)))])),(.ifs (.cmp .Eq (.idx (.loc "row") (.cst (.int 0))) (.cst (.str [97,100,100]))) [(.asg "words" (.bin .Add (.bin .Add (.loc "words") (.lst [(.idx (.loc "row") (.cst (.int 1)))])) (.comp (.blt "str" [(.loc "n")]) ["n"] 0 [(.idx (.loc "row") (.cst (.int 2)))] [])))] [(.ifs (.cmp .Eq (.idx (.loc "row") (.cst (.int 0))) (.cst (.str [115,97,109,101]))) [(.asg "words" (.bin .Add (.loc "words") (.lst [(.blt "str" [(.idx (.loc "row") (.cst (.int 1)))]),(.blt "str" [(.idx (.loc "row") (.cst (.int 2)))]),(.idx (.idx (.loc "row") (.cst (.int 3))) (.cst (.int 0))),(.idx (.idx (.loc "row") (.cst (.int 3))) (.cst (.int 1)))]))),(.for ["name","n"] 1 [(.cond (.cmp .Eq (.idx (.idx (.loc "row") (.cst (.int 3))) (.cst (.int 0))) (.cst (.str [114,117,108,101]))) (.idx (.idx (.loc "row") (.cst (.int 3))) (.cst (.int 2))) (.tup []))] [(.asg "words" (.bin .Add (.loc "words") (.lst [(.loc "name"),(.blt "str" [(.loc "n")])])))])] [])]),(.asg "found" (.bin .Add (.bin .Add (.loc "found") (.mth (.cst (.str [32])) "join" [(.loc "words")])) (.cst (.str [10]))))]),
   (.ret (.loc "found"))]⟩
noncomputable def Zfb:Fn:=⟨["story"],
  [(.asg "heap" (.att (.loc "story") "heap")),
   (.asgc "lots" (.comp (.tup [(.loc "c"),(.mth (.loc "heap") "members" [(.loc "c")]),(.mth (.loc "heap") "nodes_of" [(.loc "c")]),(.mth (.loc "heap") "users" [(.loc "c")])]) ["c"] 0 [(.mth (.loc "heap") "classes" [])] [])),
   (.ret (.tup [(.loc "lots"),(.blt "list" [(.att (.loc "heap") "edges")]),(.blt "list" [(.att (.loc "heap") "forest")]),(.mth (.loc "heap") "size" []),(.mth (.loc "heap") "is_settled" []),(.blt "sorted" [(.att (.loc "heap") "waiting")])]))]⟩
noncomputable def Z4r:Fn:=⟨["script"],
  [(.unp ["feed","nodes","rows","story"] (.tup [(.dct [(.str [99,101,108,108,115]),(.str [115,112,111,116])] [(.blt "list" [(.slc (.loc "script") (.cst .none) (.cst (.int 40)) (.cst .none))]),(.cst (.int 0))]),(.new []),(.new []),(.cls "Story" [])])),
   (.for ["lap"] 2 [(.bin .Add (.cst (.int 3)) (.fn "_law_draw" [(.loc "feed"),(.cst (.int 8))]))] [(.unp ["deed","is_settled"] (.tup [(.fn "_law_deed" [(.loc "feed"),(.blt "len" [(.loc "nodes")])]),(.mth (.att (.loc "story") "heap") "is_settled" [])])),(.unp ["told","due"] (.tup [(.fn "_law_done" [(.loc "story"),(.loc "deed")]),(.fn "_law_noted" [(.loc "nodes"),(.loc "rows"),(.loc "deed"),(.loc "is_settled")])])),(.ifs (.and (.cmp .Eq (.idx (.loc "deed") (.cst (.int 0))) (.cst (.str [112,117,116]))) (.cmp .NotEq (.loc "told") (.loc "due"))) [(.ret (.cst (.bool false)))] [])]),
   (.asg "text" (.fn "_law_text" [(.loc "rows")])),
   (.ifs (.or (.cmp .NotEq (.mth (.loc "story") "rows" []) (.loc "rows")) (.cmp .NotEq (.mth (.loc "story") "text" []) (.loc "text"))) [(.ret (.cst (.bool false)))] []),
   (.asg "again" (.fn "read_story" [(.loc "text")])),
   (.ifs (.or3 (.cmp .NotEq (.mth (.loc "again") "rows" []) (.loc "rows")) (.cmp .NotEq (.mth (.loc "again") "text" []) (.loc "text")) (.cmp .NotEq (.fn "_law_state" [(.loc "again")]) (.fn "_law_state" [(.loc "story")]))) [(.ret (.cst (.bool false)))] []),
   (.for ["lap"] 2 [(.bin .Add (.cst (.int 1)) (.fn "_law_draw" [(.loc "feed"),(.cst (.int 3))]))] [(.asg "deed" (.fn "_law_deed" [(.loc "feed"),(.blt "len" [(.loc "nodes")])])),(.exp (.fn "_law_noted" [(.loc "nodes"),(.loc "rows"),(.loc "deed"),(.mth (.att (.loc "story") "heap") "is_settled" [])])),(.ifs (.or (.cmp .NotEq (.fn "_law_done" [(.loc "story"),(.loc "deed")]) (.fn "_law_done" [(.loc "again"),(.loc "deed")])) (.cmp .NotEq (.mth (.loc "story") "rows" []) (.loc "rows"))) [(.ret (.cst (.bool false)))] []),(.ifs (.or (.cmp .NotEq (.fn "_law_state" [(.loc "again")]) (.fn "_law_state" [(.loc "story")])) (.cmp .NotEq (.mth (.loc "story") "alike_with" [(.loc "again")]) (.neg (.cst (.int 1))))) [(.ret (.cst (.bool false)))] [])]),
   (.exp (.mth (.loc "story") "merge" [(.cst (.int 0)),(.cst (.int 0)),(.tup [(.cst (.str [116,111,108,100])),(.cst (.str [101,110,100]))])])),
   (.ret (.and (.cmp .Eq (.mth (.loc "story") "alike_with" [(.loc "again")]) (.blt "len" [(.loc "rows")])) (.cmp .Eq (.mth (.loc "again") "alike_with" [(.loc "story")]) (.blt "len" [(.loc "rows")]))))]⟩
noncomputable def Zcs:List ((String×String)×String):=[(("Bank","kids"),"Bank.kids"),
  (("Bank","op"),"Bank.op"),
  (("Bank","require"),"Bank.require"),
  (("Bank","size"),"Bank.size"),
  (("Bank","take"),"Bank.take"),
  (("Unions","classes"),"Unions.classes"),
  (("Unions","find"),"Unions.find"),
  (("Unions","make"),"Unions.make"),
  (("Unions","members"),"Unions.members"),
  (("Unions","merge"),"Unions.merge"),
  (("Unions","size"),"Unions.size"),
  (("Heap","add"),"Heap.add"),
  (("Heap","classes"),"Heap.classes"),
  (("Heap","find"),"Heap.find"),
  (("Heap","is_settled"),"Heap.is_settled"),
  (("Heap","join"),"Heap.join"),
  (("Heap","look_at"),"Heap.look_at"),
  (("Heap","members"),"Heap.members"),
  (("Heap","merge"),"Heap.merge"),
  (("Heap","node"),"Heap.node"),
  (("Heap","nodes_of"),"Heap.nodes_of"),
  (("Heap","put"),"Heap.put"),
  (("Heap","settle"),"Heap.settle"),
  (("Heap","size"),"Heap.size"),
  (("Heap","users"),"Heap.users"),
  (("Written","add"),"Written.add"),
  (("Written","classes"),"Heap.classes"),
  (("Written","find"),"Heap.find"),
  (("Written","is_settled"),"Heap.is_settled"),
  (("Written","join"),"Heap.join"),
  (("Written","look_at"),"Heap.look_at"),
  (("Written","members"),"Heap.members"),
  (("Written","merge"),"Written.merge"),
  (("Written","node"),"Heap.node"),
  (("Written","nodes_of"),"Heap.nodes_of"),
  (("Written","put"),"Heap.put"),
  (("Written","settle"),"Written.settle"),
  (("Written","size"),"Heap.size"),
  (("Written","users"),"Heap.users"),
  (("Story","alike_with"),"Story.alike_with"),
  (("Story","do"),"Story.do"),
  (("Story","merge"),"Story.merge"),
  (("Story","put"),"Story.put"),
  (("Story","rows"),"Story.rows"),
  (("Story","settle"),"Story.settle"),
  (("Story","text"),"Story.text")]
noncomputable def Zgn:List (String×Option String):=[("Bank",some "Bank.__init__"),("Unions",some "Unions.__init__"),("Heap",some "Heap.__init__"),("Written",some "Written.__init__"),("Story",some "Story.__init__")]
end PL
end
section
open PySem PySem.W PyProof.Rows
set_option maxRecDepth 1000000
set_option maxHeartbeats 0
namespace PL
noncomputable def Zf0 (ok:Thread→Bool) (st:SharedT→Thread→Option (SharedT×Thread)):Nat→SharedT→Thread→Option SharedT
  | 0,_,_=>none
  | n+1,s,t=>match through t with
    | true=>some s
    | false=>match ok t with
      | false=>none
      | true=>match st s t with
        | some (s',t')=>Zf0 ok st n s' t'
        | none=>none
theorem Zif {p:Program} {w:World} {n₀:Nat} {ann:Option Value}:∀ {n:Nat} {s s':SharedT} {t:Thread},Zf0 (stepOk n₀ ann) (stepT (denote treeTable) p w) n s t=some s'→topRun treeTable p w n₀ ann n s.abs t=some s'.abs
  | 0,_,_,_,h=>by cases h
  | n+1,s,s',t,h=>by
    unfold Zf0 at h
    unfold topRun
    cases he:through t with
    | true=>rw [he] at h; cases h; rfl
    | false=>
      rw [he] at h
      cases hk:stepOk n₀ ann t with
      | false=>rw [hk] at h; cases h
      | true=>
        rw [hk] at h
        cases hs:stepT (denote treeTable) p w s t with
        | none=>rw [hs] at h; cases h
        | some r=>obtain ⟨s₂,t₂⟩:=r; rw [hs] at h; dsimp only; rw [stepT_spec hs]; exact Zif h
noncomputable def Zeh (p:Program) (w:World) (n₀:Nat) (ann:Option Value):Nat→SharedT→Thread→Option SharedT:=
  Zf0 (Fast.tw6613529449190102663 n₀ ann) (Fast.tw10156331382660048174 (Fast.tw11892475500146522536 Fast.tw14364793385576792824) p w)
theorem Zro (p:Program) (w:World) (n₀:Nat) (ann:Option Value):Zeh p w n₀ ann=Zf0 (stepOk n₀ ann) (stepT (denote treeTable) p w):=by
  unfold Zeh
  rw [Fast.te6613529449190102663,Fast.te10156331382660048174,Fast.te11892475500146522536,Fast.te14364793385576792824]
noncomputable def Z0e:BT→Nat→List Obj→BT
  | t,_,[]=>t
  | t,i,o::r=>Z0e (t.ins i o) (i+1) r
noncomputable def Zrg (P:Params):BT:=Z0e .nil 0 (boot_heap P).objs.toList
theorem Zns (P:Params):absHeap (Zrg P) 11 (boot_heap P).life=boot_heap P:=by kernel_rfl
noncomputable def Zwu (w:World) (os:OsState):SharedT:=⟨Zrg w.params,11,(boot_heap w.params).life,#[],boot_drawn,boot_toks,os⟩
noncomputable def Zqm {α:Type} (p q:Program) (loose:List Str) (Xt:Shared→Bool) (Yf:Shared→α) (H0:Heap) (s:Shared):=
  ((staticsOk (importedModules p.main.body) H0 s.heap&&namesBound p s.heap&&gensDone s&&laidKept H0 s.heap),Fast.tw4187177175401517315 q loose (importedModules p.main.body) Xt true s,Yf s)
theorem Zmm {p q:Program} {loose:List Str} {Xt:Shared→Bool} {α:Type} {Yf:Shared→α} {Ya:World→α} {N:Nat}
    (e:opening p=plainProg p.main.scope.names) (hN:Nat.ble 600 N=true) (f:∀ s,fenceModules? p s=some s)
    (size:∀ P:Params,((boot_heap P).isNs mainGlobals,(boot_heap P).objs.size,(boot_heap P).nsMap mainGlobals "__annotations__")=(true,11,some (.ref 6)))
    (run:∀ w os,∃ s,Zeh p w 11 (some (.ref 6)) N (Zwu w os) (topStub p)=some s∧Zqm p q loose Xt (λ zz=>()) (boot_heap w.params) s.abs=(true,openGood q loose,())∧Yf s.abs=Ya w):LeftO p q loose Xt Yf Ya N:=λ w=>by
  obtain ⟨⟨h,gs,d,k,os⟩,e,e'⟩:=Z7h.mp (boot_open e hN f w)
  obtain ⟨rfl,rfl,rfl,rfl⟩:h=boot_heap w.params∧gs=#[]∧d=boot_drawn∧k=boot_toks:=by simpa using e'
  obtain ⟨z1,z2,z3⟩:_∧_∧_:=by simpa only [Prod.mk.injEq] using size w.params
  obtain ⟨s₁,r,l,l3⟩:=run w os
  obtain ⟨l1,l2,_⟩:_∧_∧_:=by simpa only [Zqm,Prod.mk.injEq] using l
  rw [Zro] at r
  have r:=Zif r
  rw [← Fast.te4187177175401517315] at l2
  have t:topFrom treeTable p w N ⟨boot_heap w.params,#[],boot_drawn,boot_toks,os⟩=some s₁.abs:=by
    unfold topFrom
    dsimp only
    rw [z1,z2,z3]
    have r':topRun treeTable p w 11 (some (.ref 6)) N ⟨boot_heap w.params,#[],boot_drawn,boot_toks,os⟩ (topStub p)=some s₁.abs:=by
      rw [← r]
      unfold Zwu SharedT.abs
      rw [Zns]
    rw [r']
    show (match staticsOk (importedModules p.main.body) (boot_heap w.params) s₁.abs.heap&&namesBound p s₁.abs.heap&&gensDone s₁.abs&&laidKept (boot_heap w.params) s₁.abs.heap with | true=>_ | false=>_)=_
    rw [l1]
  unfold openEnds
  rw [e]
  show (topFrom treeTable p w N _).map _=_
  rw [t]
  exact Z7r some (Prod.ext l2 l3)
end PL
end
section
open PySem PySem.W PyProof.Rows
set_option maxRecDepth 100000
namespace PL
noncomputable abbrev pp:Program:=PySem.Challenge.rw_pq0086_01.row.prog
noncomputable def Zay:List (String×Addr):=[("Bank",209),("Unions",291),("Heap",421),("Written",475),("Story",568)]
noncomputable def tab0:List (String×Addr×Fn):=[("is_op",95,Zv6),("is_variable",102,Zds),("Bank.__init__",121,Zhh),("Bank.size",128,Zhf),("Bank.take",133,Zhe),("Bank.require",140,Zcq)]
noncomputable def tab1:List (String×Addr×Fn):=[("Bank.op",166,Zne),("Bank.kids",173,Zhg),("Unions.__init__",227,Zdy),("Unions.make",234,Zdx),("Unions.size",241,Zdw),("Unions.find",248,Zdz)]
noncomputable def tab2:List (String×Addr×Fn):=[("Unions.merge",255,Zcl),("Unions.members",262,Zaw),("Unions.classes",267,Zax),("Heap.__init__",309,Zhc),("Heap.size",316,Zg9),("Heap.node",321,Zha)]
noncomputable def tab3:List (String×Addr×Fn):=[("Heap.add",326,Zi8),("Heap.put",331,Zi7),("Heap.look_at",338,Zco),("Heap.find",345,Zhd),("Heap.merge",359,Zfh),("Heap.join",366,Zhb)]
noncomputable def tab4:List (String×Addr×Fn):=[("Heap.settle",373,Zd1),("Heap.is_settled",380,Zac),("Heap.classes",387,Zcp),("Heap.members",394,Zcn),("Heap.nodes_of",399,Zbo),("Heap.users",418,Zfg)]
noncomputable def tab5:List (String×Addr×Fn):=[("check_reason",432,Zcj),("Written.__init__",448,Zck),("Written.add",456,Zdv),("Written.merge",464,Zbn),("Written.settle",472,Zav),("row_text",482,Zi5)]
noncomputable def tab6:List (String×Addr×Fn):=[("number_of",487,Zg2),("same_of",492,Znd),("row_of",497,Zq9),("Story.__init__",511,Zff),("Story.put",518,Zg8),("Story.merge",525,Zd0)]
noncomputable def tab7:List (String×Addr×Fn):=[("Story.settle",532,Zcm),("Story.rows",539,Zfe),("Story.text",544,Zfd),("Story.do",558,Zi6),("Story.alike_with",565,Jv),("read_story",579,Zfa)]
noncomputable def tab8:List (String×Addr×Fn):=[("_law_draw",586,Zg5),("_law_term",591,Zg4),("_law_number",596,Zdu),("_law_reason",601,Zdt),("_law_deed",608,Zg7),("_law_done",615,Zg6)]
noncomputable def tab9:List (String×Addr×Fn):=[("_law_noted",622,Zfc),("_law_text",627,Zg3),("_law_state",632,Zfb),("law",639,Z4r)]
noncomputable def Zw2:List (String×Addr×Fn):=tab0++(tab1++(tab2++(tab3++(tab4++(tab5++(tab6++(tab7++(tab8++(tab9)))))))))
noncomputable def Zkr:List String:=["is_op","is_variable","check_reason","row_text","number_of","same_of","row_of","read_story","_law_draw","_law_term","_law_number","_law_reason","_law_deed","_law_done","_law_noted","_law_text","_law_state","law"]
noncomputable def Jk:List (String×String):=[("Bank","nodes"),("Bank","numbers"),("Bank","weights"),("Bank","depths"),("Unions","above"),("Unions","lots"),("Unions","merged"),("Heap","bank"),("Heap","unions"),("Heap","edges"),("Heap","forest"),("Heap","known"),("Heap","above"),("Heap","waiting"),("Written","bank"),("Written","unions"),("Written","edges"),("Written","forest"),("Written","known"),("Written","above"),("Written","waiting"),("Written","rows"),("Story","heap")]
noncomputable def Ztl:List (String×String×String):=[("Written","Heap.__init__","__init__"),("Written","Heap.add","add"),("Written","Heap.merge","merge"),("Written","Heap.settle","settle")]
noncomputable def Zld:List String:=["len","tuple","list","sum","max","min","sorted","int","str","range","enumerate","zip","set","super"]
noncomputable def asL:List Nat:=[2,3,15,17,18,20,21,22,25,30,31,33,34,36,37,38,40,41,43,44,45,46,47,48,51,58,59,60,63,66,71,72,74,75,77,78,79,81,82,84,85,86,87,88,91,94,95,96,98,99,101,102,103,106,107,115,117,118,120,121,122,124,125,127,128,129,132,133,134,136,137,139,140,141,143,144,146,147,148,151,152,153,155,156,158,159,160,162,163,165,166,167,169,170,172,173,174,176,177,179,180,181,184,185,186,188,189,191,192,193,195,196,198,199,200,202,203,205,206,207,208,209,210,211,221,223,224,226,227,228,230,231,233,234,235,237,238,240,241,242,244,245,247,248,249,251,252,254,255,256,258,259,261,262,263,266,267,268,270,271,273,274,275,277,278,280,281,282,284,285,287,288,289,290,291,292,293,303,305,306,308,309,310,312,313,315,316,317,320,321,322,325,326,327,330,331,332,334,335,337,338,339,341,342,344,345,346,348,349,351,352,353,355,356,358,359,360,362,363,365,366,367,369,370,372,373,374,376,377,379,380,381,383,384,386,387,388,390,391,393,394,395,398,399,400,402,403,405,406,407,410,411,412,414,415,417,418,419,420,421,422,423,426,428,429,431,432,433,436,441,442,444,445,447,448,449,450,452,453,455,456,457,458,460,461,463,464,465,466,468,469,471,472,473,474,475,478,481,482,483,486,487,488,491,492,493,496,497,505,507,508,510,511,512,514,515,517,518,519,521,522,524,525,526,528,529,531,532,533,535,536,538,539,540,543,544,545,547,548,550,551,552,554,555,557,558,559,561,562,564,565,566,567,568,569,570,573,575,576,578,579,580,582,583,585,586,587,590,591,592,595,596,597,600,601,602,604,605,607,608,609,611,612,614,615,616,618,619,621,622,623,626,627,628,631,632,633,635,636,638,639]
noncomputable def fnA (q:String):Option Addr:=(Zw2.lookup q).map (·.1)
noncomputable def fdAt (K:Frag) (a:Addr):FuncData:=match K.lookup a with | some ⟨_,_,.func fd,_⟩=>fd | _=>default
noncomputable def bdOf (fd:FuncData):List Stmt:=match fd.body with | .stmts b=>b | _=>[]
noncomputable def isSt:FuncBody→Bool | .stmts _=>true | _=>false
theorem Z10 {K:Frag} {a:Addr} (h:fnIn K a=true):∃ oc od osl,K.lookup a=some ⟨oc,od,.func (fdAt K a),osl⟩:=by
  unfold fnIn at h
  unfold fdAt
  split at h
  · rename_i c d f sl e
    exact ⟨_,_,_,by rw [e]⟩
  · cases h
theorem Z2g {fd:FuncData} (h:isSt fd.body=true):fd.body=.stmts (bdOf fd):=by
  unfold isSt at h
  split at h
  · rename_i b e; unfold bdOf; rw [e]
  · cases h
noncomputable def isV (v:Option (Option Value)) (u:Value):Bool:=Jg false (Jg false λ x=>x==u) v
theorem Ziz {v:Option (Option Value)} {u:Value} (h:isV v u=true):v=some (some u):=Zm (Q:=λ v=>v=some (some u)) h (λ h=>no h) λ o h=>Zm (Q:=λ o=>some o=some (some u)) h (λ h=>no h) λ x h=>Z7r (λ x=>some (some x)) (Z7u h)
noncomputable def isNo (v:Option (Option Value)):Bool:=Jg false (Jg true λ zz=>false) v
theorem Zoy {v:Option (Option Value)} (h:isNo v=true):v=some none:=Zm (Q:=λ v=>v=some none) h (λ h=>no h) λ o h=>Zm (Q:=λ o=>some o=some none) h (λ zz=>rfl) λ x h=>no h
noncomputable def isTy (v:Option Value) (u:Value):Bool:=Jg false (λ x=>x==u) v
theorem Zvd {v:Option Value} {u:Value} (h:isTy v u=true):v=some u:=Zm (Q:=λ v=>v=some u) h (λ h=>no h) λ x h=>Z7r some (Z7u h)
noncomputable def isT (v:Option Bool):Bool:=Jg false id v
theorem Z4h {v:Option Bool} (h:isT v=true):v=some true:=Zm (Q:=λ v=>v=some true) h (λ h=>no h) λ x h=>Z7r some h
theorem Y8 {α:Type} {p:α→Bool} {xs:List α} (h:xs.all p=true) {x:α} (hx:x∈xs):p x=true:=List.all_eq_true.mp h x hx
theorem Ze4 {α β:Type} [BEq α] [LawfulBEq α]:∀ {l:List (α×β)} {k:α} {v:β},l.lookup k=some v→(k,v)∈l
  | [],_,_,h=>nomatch h
  | (a,b)::l,k,v,h=>by
    rw [List.lookup_cons] at h
    split at h
    · rename_i e; cases h; rw [Z7u e]; exact Z66
    · exact Z67 _ (Ze4 h)
structure ClsK (K:Frag) (C:Addr):Prop where
  keep:keepIn K (.ref C)=true
  get:plainGet K C Str.empty=true
  dict:hasDictIn K C=true
  set:findIn K (.ref C) "__setattr__"=some (some (.builtin "object.__setattr__"))
  over:plainOver K C=true
  makes:makesIn K C=true
noncomputable def clsB (K:Frag) (C:Addr):Bool:=keepIn K (.ref C)&&(plainGet K C Str.empty&&(hasDictIn K C&&(isV (findIn K (.ref C) "__setattr__") (.builtin "object.__setattr__")&&(plainOver K C&&makesIn K C))))
theorem Z2a {K:Frag} {C:Addr} (h:clsB K C=true):ClsK K C:=
  have ⟨h1,h⟩:=and2 h
  have ⟨h2,h⟩:=and2 h
  have ⟨h3,h⟩:=and2 h
  have ⟨h4,h⟩:=and2 h
  ⟨h1,h2,h3,Ziz h4,(and2 h).1,(and2 h).2⟩
noncomputable def okFd (K:Frag) (fd:FuncData) (F:Fn):Bool:=!fd.scope.isCoroutine&&(!fd.scope.isGenerator&&((fd.scope.kind==.function)&&(codeIn K fd.code fd.qualname&&(isSt fd.body&&((fd.globals==mainGlobals)&&((fd.builtins==builtinsNs)&&
  (F.params.all (λ x=>Zhx fd.scope (Str.ofString x))&&(decide F.params.Nodup&&fitB fd.scope F.body (bdOf fd)))))))))
noncomputable def Zz8 (fd:FuncData) (F:Fn):Bool:=fd.params.posonlyargs.isEmpty&&(fd.params.args.map (·.arg)==F.params.map Str.ofString&&(fd.params.vararg.isNone&&(fd.params.kwonlyargs.isEmpty&&(fd.params.kwarg.isNone&&fd.defaults==.none))))
noncomputable def Zul (fd:FuncData):Bool:=fd.closure.isEmpty&&fd.scope.names.all (λ y=>y.2 != .free)
noncomputable def Znz (K:Frag) (fd:FuncData):Bool:=match fd.code with
  | .ref cda=>(match K.lookup cda with
    | some ⟨_,_,.fields vs,_⟩=>(match (vs:Array Value)[2]? with | some (Value.str file _)=>(pp.main.file:Str)==file | _=>false)
    | _=>false)
  | _=>false
noncomputable def Z1b (K:Frag) (fd:FuncData):Bool:=fd.closure==[(("__class__":Str),436)]&&(fd.scope.names.all (λ y=>y.2 != .cell)&&(fd.scope.names.all (λ y=>y.2 != .free || y.1==("__class__":Str))&&
  (Jg false (λ ar=>ar.arg==Str.ofString "self") (fd.params.posonlyargs++fd.params.args).head?&&((fd.scope.names.lookup (Str.ofString "self")==some .local)&&Znz K fd))))
noncomputable def Z1d (K:Frag) (e:String×Addr×Fn):Bool:=fnIn K e.2.1&&(keepIn K (.ref e.2.1)&&(okFd K (fdAt K e.2.1) e.2.2&&(Zz8 (fdAt K e.2.1) e.2.2&&(Zul (fdAt K e.2.1) || Z1b K (fdAt K e.2.1)))))
noncomputable def isM (v:Option (Option Value)) (K:Frag) (q:String):Bool:=Jg false (λ f=>isV v (.ref f)&&isTy (typeIn K (.ref f)) (.type "function")) (fnA q)
noncomputable def Z3x (K:Frag):Bool:=Zcs.all λ e=>Jg false (λ a=>isM (findIn K (.ref a) (Str.ofString e.1.2)) K e.2) (Zay.lookup e.1.1)
noncomputable def Z3y (K:Frag):Bool:=Zgn.all λ e=>Jg false (λ q=>Jg false (λ a=>isM (findIn K (.ref a) "__init__") K q) (Zay.lookup e.1)) e.2
noncomputable def Z3z (K:Frag):Bool:=Jk.all λ e=>Jg false (λ a=>isNo (findIn K (.ref a) (Str.ofString e.2))) (Zay.lookup e.1)
noncomputable def okGf (K:Frag):Bool:=Zkr.all λ f=>Jg false (λ a=>isV (nsIn K mainGlobals (Str.ofString f)) (.ref a)) (fnA f)
noncomputable def Z3t (K:Frag):Bool:=Ztl.all λ e=>Jg false (λ c=>Jg false (λ f=>isV (ks_superIn K c 475 (Str.ofString e.2.2)) (.ref f)&&(isTy (typeIn K (.ref f)) (.type "function")&&(isT (mroIn K c (.ref 475))&&fnIn K f))) (fnA e.2.1)) (Zay.lookup e.1)
noncomputable def Zz7 (K:Frag):Bool:=match K.lookup 436 with | some ⟨_,_,.cell (some (.ref d)),_⟩=>d==475 | _=>false
noncomputable def Z5y (K:Frag):Bool:=Zay.all λ e=>clsB K e.2&&isV (nsIn K mainGlobals (Str.ofString e.1)) (.ref e.2)
noncomputable def Z5z (K:Frag):Bool:=Zld.all λ f=>isNo (nsIn K mainGlobals (Str.ofString f))
noncomputable def Zz5 (K:Frag):Bool:=isNo (nsIn K cStatics "thirdparty.any")&&((clsIn K 475).isSome&&Zz7 K)
noncomputable def Z3w (K:Frag):Bool:=Z5y K&&(Z3t K&&(Z5z K&&Zz5 K))
noncomputable def Zz6 (K:Frag):Bool:=okGf K&&(Z3x K&&(Z3y K&&(Z3z K&&Z3w K)))
noncomputable def Zfr:List String:=["Written.__init__","Written.add","Written.merge","Written.settle"]
noncomputable def Z3u (K:Frag):Bool:=Zfr.all λ q=>Jg false (λ a=>Z1b K (fdAt K a)) (fnA q)
noncomputable def KOK (K:Frag):Bool:=Zw2.all (Z1d K)&&(Zz6 K&&Z3u K)
end PL
end
section
open PySem PySem.W PyProof.Rows
set_option maxRecDepth 100000
namespace PL
@[elab_as_elim] theorem eqE {β:Sort _} {motive:β→Prop} {a b:β} (e:a=b) (h:motive b):motive a:=e▸h
@[elab_as_elim] theorem iteE {α:Sort _} {motive:α→Prop} {c:Prop} [Decidable c] {a b:α} (h1:c→motive a) (h2:¬c→motive b):motive (if c then a else b):=by
  by_cases h:c
  · rw [if_pos h]; exact h1 h
  · rw [if_neg h]; exact h2 h
theorem Ztb {α β:Type} [BEq α] [LawfulBEq α]:∀ {xs:List α} {ys:List β} {x:α},xs.length=ys.length→x∈xs→((xs.zip ys).lookup x).isSome=true
  | [],_,_,_,h=>nomatch h
  | x::xs,[],_,h,_=>nomatch h
  | x::xs,y::ys,z,h,hz=>by
    rw [List.zip_cons_cons,List.lookup_cons]
    by_cases e:z=x
    · rw [e,Z7x]; rfl
    · rw [Z7v.mpr e]
      exact Ztb (Nat.succ.inj h) ((Z7a.mp hz).resolve_left e)
theorem Zq6 {α β:Type} {f g:α→Option β}:∀ {l:List α},(∀ x∈l,f x=g x)→l.filterMap f=l.filterMap g
  | [],_=>rfl
  | x::l,h=>by
    rw [List.filterMap_cons,List.filterMap_cons,h x Z66,Zq6 λ y hy=>h y (Z67 _ hy)]
theorem Zpo {α β:Type} [BEq α] [LawfulBEq α]:∀ {xs:List α} {ys:List β},xs.Nodup→xs.length=ys.length→xs.filterMap (λ n=>((xs.zip ys).lookup n).map (n,·))=xs.zip ys
  | [],_,_,_=>rfl
  | x::xs,[],_,h=>nomatch h
  | x::xs,y::ys,hn,h=>by
    rw [Z7y] at hn
    rw [List.zip_cons_cons,List.filterMap_cons,List.lookup_cons,Z7x]
    refine Z7r ((x,y)::·) ((Zq6 λ z hz=>?_).trans (Zpo hn.2 (Nat.succ.inj h)))
    rw [List.lookup_cons,Z7v.mpr λ e:z=x=>hn.1 (e▸hz)]
theorem Zs4 {fd:FuncData} {F:Fn} (h:Zz8 fd F=true) (hn:(F.params.map Str.ofString).Nodup) {vals:List Value} (hl:vals.length=F.params.length):bindArgs fd ⟨vals,[]⟩=pure ((F.params.map Str.ofString).zip vals):=by
  have ⟨h1,h⟩:=and2 h
  have ⟨h2,h⟩:=and2 h
  have ⟨h3,h⟩:=and2 h
  have ⟨h4,h⟩:=and2 h
  have ⟨h5,h7⟩:=and2 h
  have e1:=List.isEmpty_iff.mp h1
  have e2:=Z7u h2
  have e3:=Option.isNone_iff_eq_none.mp h3
  have e4:=List.isEmpty_iff.mp h4
  have e5:=Option.isNone_iff_eq_none.mp h5
  have e7:=Z7u h7
  clear h h1 h2 h3 h4 h5 h7
  have hl':(F.params.map Str.ofString).length=vals.length:=by rw [Z68,hl]
  rw [← e2] at hl' hn ⊢
  clear e2
  obtain ⟨zz,zz,⟨zz,as,zz,zz,zz,zz,zz⟩,zz,zz,zz,zz,zz,zz,zz,zz,zz,zz,zz,zz⟩:=fd
  dsimp only at e1 e3 e4 e5 e7 hl' hn ⊢
  subst e1 e3 e4 e5 e7
  have hm:∀ k,((as.map (·.arg)).take k).filter (λ n=>(((as.map (·.arg)).zip vals).lookup n).isNone)=[]:=λ k=>List.filter_eq_nil_iff.mpr λ x hx=>by
    obtain ⟨v,hv⟩:=Option.isSome_iff_exists.mp (Ztb hl' (List.mem_of_mem_take hx))
    rw [hv]; exact Z7w
  have hg:¬ ((decide (vals.length > (as.map (·.arg)).length)&&true)=true):=by rw [hl',Z7t (Nat.lt_irrefl _)]; exact Z7w
  show (if (decide (vals.length > (as.map (·.arg)).length)&&true)=true then _ else _)=_
  refine (if_neg hg).trans ?_
  show (if (!(((as.map (·.arg)).take _).filter λ n=>(((as.map (·.arg)).zip vals).lookup n).isNone).isEmpty)=true then _ else _)=_
  refine (if_neg (by rw [hm]; exact Z7w)).trans ?_
  dsimp only
  simp only [List.map_nil,List.drop_nil,List.zip_nil_right,List.forIn_nil,pure_bind,List.append_nil,List.nil_append,List.isEmpty_nil,Bool.not_true,Bool.false_eq_true,if_false,Zpo hn hl',Option.getD_none]
structure SupK (K:Frag) (fd:FuncData):Prop where
  clo:fd.closure=[(("__class__":Str),436)]
  nocell:∀ y∈fd.scope.names,y.2≠.cell
  free:∀ y∈fd.scope.names,y.2=.free→y.1=("__class__":Str)
  par:∃ ar,(fd.params.posonlyargs++fd.params.args).head? = some ar∧ar.arg=Str.ofString "self"
  self:fd.scope.names.lookup (Str.ofString "self")=some .local
  code:∃ cda ccl cdd vs ccs file tf,fd.code=.ref cda∧K.lookup cda=some ⟨ccl,cdd,.fields vs,ccs⟩∧vs[2]? = some (.str file tf)∧((pp.main.file:Str)==file)=true
structure FnK (K:Frag) (Fd:Fn) (f:Addr) (fd:FuncData):Prop where
  obj:∃ oc od osl,K.lookup f=some ⟨oc,od,.func fd,osl⟩
  fn:fnIn K f=true
  keep:keepIn K (.ref f)=true
  co:fd.scope.isCoroutine=false
  gen:fd.scope.isGenerator=false
  kind:fd.scope.kind=.function
  code:codeIn K fd.code fd.qualname=true
  body:fd.body=.stmts (bdOf fd)
  glob:fd.globals=mainGlobals
  blt:fd.builtins=builtinsNs
  bind:∀ vals:List Value,vals.length=Fd.params.length→bindArgs fd ⟨vals,[]⟩=pure ((Fd.params.map Str.ofString).zip vals)
  pars:∀ x∈Fd.params,Zhx fd.scope (Str.ofString x)=true
  fit:fitB fd.scope Fd.body (bdOf fd)=true
  rest:(fd.closure=[]∧∀ y∈fd.scope.names,y.2≠.free)∨SupK K fd
theorem Yj {x y:String} (h:Str.ofString x=Str.ofString y):x=y:=by
  rw [Str.ofString_eq_toList,Str.ofString_eq_toList] at h
  injection h with h
  have h:x.toList.map Char.toNat=y.toList.map Char.toNat:=by simpa using Array.toList_inj.mpr h
  exact String.toList_inj.mp (List.map_inj_right (λ a b e=>Char.ext (UInt32.toNat_inj.mp e)) |>.mp h)
theorem Zmc:∀ {xs:List String},xs.Nodup→(xs.map Str.ofString).Nodup
  | [],_=>.nil
  | x::xs,h=>by
    have h:=Z7y.mp h
    exact Z7y.mpr ⟨λ q=>by obtain ⟨y,hy,e⟩:=Z7b.mp q; exact h.1 (Yj e▸hy),Zmc h.2⟩
theorem Zrr {K:Frag} {fd:FuncData} (h:Znz K fd=true):∃ cda ccl cdd vs ccs file tf,fd.code=.ref cda∧K.lookup cda=some ⟨ccl,cdd,.fields vs,ccs⟩∧vs[2]? = some (.str file tf)∧((pp.main.file:Str)==file)=true:=by
  unfold Znz at h
  split at h
  · rename_i cda e1
    split at h
    · rename_i c d vs sl e2
      split at h
      · rename_i file t e3
        exact ⟨_,_,_,_,_,_,_,e1,e2,e3,h⟩
      · cases h
    · cases h
  · cases h
theorem Ztm {K:Frag} {fd:FuncData} (h:Z1b K fd=true):SupK K fd:=
  have ⟨h1,h⟩:=and2 h
  have ⟨h2,h⟩:=and2 h
  have ⟨h3,h⟩:=and2 h
  have ⟨h4,h⟩:=and2 h
  have ⟨h5,h⟩:=and2 h
  ⟨Z7u h1,λ y hy=>bne_iff_ne.mp (Y8 h2 hy),λ y hy e=>(Bool.or_eq_true_iff.mp (Y8 h3 hy)).elim (λ q=>absurd e (bne_iff_ne.mp q)) Z7u,
    Zm (Q:=λ o=>∃ ar,o=some ar∧ar.arg=Str.ofString "self") h4 (λ q=>no q) (λ ar q=>⟨ar,rfl,Z7u q⟩),Z7u h5,Zrr h⟩
theorem Zx9 {fd:FuncData} (h:Zul fd=true):fd.closure=[]∧∀ y∈fd.scope.names,y.2≠.free:=⟨List.isEmpty_iff.mp (and2 h).1,λ y hy=>bne_iff_ne.mp (Y8 (and2 h).2 hy)⟩
structure PgOK (s1:Shared) (K:Frag) (mg mb:Str→Option Value):Prop where
  inK:K.In s1.heap
  kok:KOK K=true
  gns:s1.heap.Ns mainGlobals mg
  bns:s1.heap.Ns builtinsNs mb
  lim:s1.heap.NoLimit
  sys:∃ a o,sysModules≤a∧s1.heap.get? a=some o
  blt:∀ x:Str,x≠"__name__"→mb x=bootBuiltins x
theorem pgOK {s1:Shared} {K:Frag} {mg mb:Str→Option Value} {pv:Program} {loose:List Str} {mean:ExcName→Option Value} (hk:KOK K=true) (KX:K.In s1.heap) (T0:Top pv loose mean mg mb s1.heap):PgOK s1 K mg mb:=
  ⟨KX,hk,T0.g,T0.b,T0.nolimit,let ⟨m,⟨o,_,_,ho,_⟩,_⟩:=T0.nolimit; ⟨_,o,by decide,ho⟩,T0.builtins⟩
noncomputable abbrev fnOf (q:String):Option (Addr×Fn):=Zw2.lookup q
theorem Zvt {q:String} {e:Addr×Fn} (h:fnOf q=some e):fnA q=some e.1:=Z7h.mpr ⟨e,h,rfl⟩
theorem Z0g {q:String} {a:Addr} (h:fnA q=some a):∃ F,fnOf q=some (a,F):=let ⟨e,he,q⟩:=Z7h.mp h; ⟨e.2,he.trans (Z7r some (Prod.ext q rfl))⟩
section
variable {s1:Shared} {K:Frag} {mg mb:Str→Option Value} (G:PgOK s1 K mg mb)
include G
theorem PgOK.fnK {q:String} {e:Addr×Fn} (h:fnOf q=some e):FnK K e.2 e.1 (fdAt K e.1):=
  have ⟨g1,h⟩:=and2 (Y8 (and2 G.kok).1 (Ze4 h))
  have ⟨g2,h⟩:=and2 h
  have ⟨f,h⟩:=and2 h
  have ⟨b,h⟩:=and2 h
  have ⟨f1,f⟩:=and2 f
  have ⟨f2,f⟩:=and2 f
  have ⟨f3,f⟩:=and2 f
  have ⟨f4,f⟩:=and2 f
  have ⟨f5,f⟩:=and2 f
  have ⟨f6,f⟩:=and2 f
  have ⟨f7,f⟩:=and2 f
  have ⟨f8,f⟩:=and2 f
  have ⟨f9,f⟩:=and2 f
  { obj:=Z10 g1,fn:=g1,keep:=g2,co:=Bool.not_eq_true' _ |>.mp f1,gen:=Bool.not_eq_true' _ |>.mp f2,kind:=Z7u f3,code:=f4,body:=Z2g f5,glob:=Z7u f6,blt:=Z7u f7,
    bind:=λ vals hl=>Zs4 b (Zmc (of_decide_eq_true f9)) hl,pars:=λ x hx=>Y8 f8 hx,fit:=f,
    rest:=(Bool.or_eq_true_iff.mp h).imp Zx9 Ztm }
theorem PgOK.rest:Zz6 K=true:=(and2 (and2 G.kok).2).1
theorem PgOK.supF {q:String} (h:Zfr.contains q=true):∃ a,fnA q=some a∧SupK K (fdAt K a):=
  Zm (Q:=λ o=>∃ a,o=some a∧SupK K (fdAt K a)) (Y8 (and2 (and2 G.kok).2).2 (List.contains_iff_mem.mp h)) (λ q=>no q) λ a q=>⟨a,rfl,Ztm q⟩
theorem PgOK.gf {f:String} (h:Zkr.contains f=true):∃ a,fnA f=some a∧mg (Str.ofString f)=some (.ref a):=
  Zm (Q:=λ o=>∃ a,o=some a∧mg (Str.ofString f)=some (.ref a)) (Y8 (and2 G.rest).1 (List.contains_iff_mem.mp h)) (λ q=>no q) λ a q=>⟨a,rfl,mg_of G.inK G.gns (Ziz q)⟩
structure MthK (K:Frag) (v:Option (Option Value)) (f:Addr):Prop where
  find:v=some (some (.ref f))
  ty:typeIn K (.ref f)=some (.type "function")
omit G in
theorem Z0d {v:Option (Option Value)} {q:String} (h:isM v K q=true):∃ f,fnA q=some f∧MthK K v f:=
  Zm (Q:=λ o=>∃ f,o=some f∧MthK K v f) h (λ q=>no q) λ f h=>⟨f,rfl,Ziz (and2 h).1,Zvd (and2 h).2⟩
theorem PgOK.meth {c m q:String} (h:Zcs.lookup (c,m)=some q):∃ a f,Zay.lookup c=some a∧fnA q=some f∧MthK K (findIn K (.ref a) (Str.ofString m)) f:=
  Zm (Q:=λ o=>∃ a f,o=some a∧fnA q=some f∧MthK K (findIn K (.ref a) (Str.ofString m)) f) (Y8 (and2 (and2 G.rest).2).1 (Ze4 h)) (λ q=>no q) λ a h=>let ⟨f,h1,h2⟩:=Z0d h; ⟨a,f,rfl,h1,h2⟩
theorem PgOK.init {c q:String} (h:Zgn.lookup c=some (some q)):∃ a f,Zay.lookup c=some a∧fnA q=some f∧MthK K (findIn K (.ref a) "__init__") f:=
  Zm (Q:=λ o=>∃ a f,o=some a∧fnA q=some f∧MthK K (findIn K (.ref a) "__init__") f) (Y8 (and2 (and2 (and2 G.rest).2).2).1 (Ze4 h)) (λ q=>no q) λ a h=>let ⟨f,h1,h2⟩:=Z0d h; ⟨a,f,rfl,h1,h2⟩
theorem PgOK.attr {c n:String} (h:Jk.contains (c,n)=true):∃ a,Zay.lookup c=some a∧findIn K (.ref a) (Str.ofString n)=some none:=
  Zm (Q:=λ o=>∃ a,o=some a∧findIn K (.ref a) (Str.ofString n)=some none) (Y8 (and2 (and2 (and2 (and2 G.rest).2).2).2).1 (List.contains_iff_mem.mp h)) (λ q=>no q) λ a h=>⟨a,rfl,Zoy h⟩
theorem PgOK.mid:Z3w K=true:=(and2 (and2 (and2 (and2 G.rest).2).2).2).2
theorem PgOK.cls {c:String} {a:Addr} (h:Zay.lookup c=some a):ClsK K a∧mg (Str.ofString c)=some (.ref a):=
  have:=and2 (Y8 (and2 G.mid).1 (Ze4 h))
  ⟨Z2a this.1,mg_of G.inK G.gns (Ziz this.2)⟩
theorem PgOK.bl {f:String} {v:Value} (h:Zld.contains f=true) (hb:bootBuiltins (Str.ofString f)=some v) (hn:Str.ofString f≠"__name__"):mg (Str.ofString f)=none∧mb (Str.ofString f)=some v:=
  ⟨mg_none_of G.inK G.gns (Zoy (Y8 (and2 (and2 (and2 G.mid).2).2).1 (List.contains_iff_mem.mp h))),(G.blt _ hn).trans hb⟩
theorem PgOK.tail:Zz5 K=true:=(and2 (and2 (and2 G.mid).2).2).2
theorem PgOK.opq:nsIn K cStatics "thirdparty.any"=some none:=Zoy (and2 G.tail).1
theorem PgOK.top:∃ cd,clsIn K 475=some cd:=Option.isSome_iff_exists.mp (and2 (and2 G.tail).2).1
theorem PgOK.cell:∃ cl cld csl,K.lookup 436=some ⟨cl,cld,.cell (some (.ref 475)),csl⟩:=by
  have h:=(and2 (and2 G.tail).2).2
  unfold Zz7 at h
  split at h
  · rename_i e; rw [Z7u h] at e; exact ⟨_,_,_,e⟩
  · cases h
structure SupF (K:Frag) (m:String) (c f:Addr):Prop where
  find:ks_superIn K c 475 (Str.ofString m)=some (some (.ref f))
  ty:typeIn K (.ref f)=some (.type "function")
  mro:mroIn K c (.ref 475)=some true
  fn:fnIn K f=true
theorem PgOK.sup {c q m:String} (h:Ztl.contains (c,q,m)=true):∃ a f,Zay.lookup c=some a∧fnA q=some f∧SupF K m a f:=
  Zm (Q:=λ o=>∃ a f,o=some a∧fnA q=some f∧SupF K m a f) (Y8 (and2 (and2 G.mid).2).1 (List.contains_iff_mem.mp h)) (λ q=>no q) λ a h=>
    Zm (Q:=λ o=>∃ a' f,some a=some a'∧o=some f∧SupF K m a' f) h (λ q=>no q) λ f h=>⟨a,f,rfl,rfl,Ziz (and2 h).1,Zvd (and2 (and2 h).2).1,Z4h (and2 (and2 (and2 h).2).2).1,(and2 (and2 (and2 h).2).2).2⟩
end
end PL
end
section
open PySem PySem.W PyProof.Rows
namespace PL
section
variable {α β:Type}
def F2 (R:α→β→Prop) (as:List α) (bs:List β):Prop:=@List.rec β (λ zz=>List α→Prop) (λ as=>@List.casesOn α (λ zz=>Prop) as True λ zz zz=>False) (λ b zz ih as=>@List.casesOn α (λ zz=>Prop) as False λ a as=>R a b∧ih as) bs as
variable {R R':α→β→Prop} {P:List α→List β→Prop}
theorem F2.ind (h0:P [] []) (h1:∀ a as b bs,R a b→F2 R as bs→P as bs→P (a::as) (b::bs)) {as:List α} {bs:List β} (x:F2 R as bs):P as bs:=
  @List.rec β (λ bs=>∀ as,F2 R as bs→P as bs) (λ as=>@List.casesOn α (λ as=>F2 R as []→P as []) as (λ zz=>h0) λ zz zz h=>h.elim)
    (λ b bs ih as=>@List.casesOn α (λ as=>F2 R as (b::bs)→P as (b::bs)) as (λ h=>h.elim) λ a as h=>h1 a as b bs h.1 h.2 (ih as h.2)) bs as x
namespace F2
theorem mono (h:∀ a b,R a b→R' a b) {as:List α} {bs:List β} (x:F2 R as bs):F2 R' as bs:=ind (P:=F2 R') trivial (λ a zz b zz r zz i=>⟨h a b r,i⟩) x
theorem length {as:List α} {bs:List β} (x:F2 R as bs):as.length=bs.length:=@ind α β R (λ as bs=>as.length=bs.length) rfl (λ zz zz zz zz zz zz i=>Z7r Nat.succ i) as bs x
theorem append {as as':List α} {bs bs':List β} (x:F2 R as bs) (y:F2 R as' bs'):F2 R (as++as') (bs++bs'):=@ind α β R (λ as bs=>F2 R (as++as') (bs++bs')) y (λ zz zz zz zz r zz i=>⟨r,i⟩) as bs x
theorem get {as:List α} {bs:List β} (x:F2 R as bs):∀ {i:Nat} {b:β},bs[i]? = some b→∃ a,as[i]? = some a∧R a b:=
  @ind α β R (λ as bs=>∀ {i:Nat} {b:β},bs[i]? = some b→∃ a,as[i]? = some a∧R a b) (λ e=>nomatch e) (λ a zz b zz r zz ih i=>@Nat.casesOn (λ i=>∀ {c},(b::_)[i]? = some c→∃ d,(a::_)[i]? = some d∧R d c) i (λ e=>⟨a,rfl,Z7g e▸r⟩) λ i zz e=>ih e) as bs x
theorem get' {as:List α} {bs:List β} (x:F2 R as bs):∀ {i:Nat} {a:α},as[i]? = some a→∃ b,bs[i]? = some b∧R a b:=
  @ind α β R (λ as bs=>∀ {i:Nat} {a:α},as[i]? = some a→∃ b,bs[i]? = some b∧R a b) (λ e=>nomatch e) (λ a zz b zz r zz ih i=>@Nat.casesOn (λ i=>∀ {c},(a::_)[i]? = some c→∃ d,(b::_)[i]? = some d∧R c d) i (λ e=>⟨b,rfl,Z7g e▸r⟩) λ i zz e=>ih e) as bs x
theorem drop (n:Nat) {as:List α} {bs:List β} (x:F2 R as bs):F2 R (as.drop n) (bs.drop n):=
  @ind α β R (λ as bs=>∀ n,F2 R (as.drop n) (bs.drop n)) (λ n=>by rw [List.drop_nil,List.drop_nil]; trivial) (λ a as b bs r x ih n=>@Nat.casesOn (λ n=>F2 R ((a::as).drop n) ((b::bs).drop n)) n ⟨r,x⟩ ih) as bs x n
theorem set (n:Nat) {as:List α} {bs:List β} {a:α} {b:β} (x:F2 R as bs) (r:R a b):F2 R (as.set n a) (bs.set n b):=
  @ind α β R (λ as bs=>∀ n,F2 R (as.set n a) (bs.set n b)) (λ zz=>trivial) (λ a' as b' bs r' x ih n=>@Nat.casesOn (λ n=>F2 R ((a'::as).set n a) ((b'::bs).set n b)) n ⟨r,x⟩ λ n=>⟨r',ih n⟩) as bs x n
theorem reverse {as:List α} {bs:List β} (x:F2 R as bs):F2 R as.reverse bs.reverse:=
  ind (P:=λ as bs=>F2 R as.reverse bs.reverse) trivial (λ a as b bs r zz ih=>by rw [List.reverse_cons,List.reverse_cons]; exact ih.append ⟨r,trivial⟩) x
theorem nil_right {as:List α} (x:F2 R as []):as=[]:=List.eq_nil_of_length_eq_zero x.length
theorem cons_right {as:List α} {b:β} {bs:List β} (x:F2 R as (b::bs)):∃ a as',as=a::as'∧R a b∧F2 R as' bs:=
  @List.casesOn α (λ as=>F2 R as (b::bs)→∃ a as',as=a::as'∧R a b∧F2 R as' bs) as (λ x=>x.elim) (λ a as x=>⟨a,as,rfl,x.1,x.2⟩) x
theorem mem_left {as:List α} {bs:List β} (x:F2 R as bs) {a:α} (ha:a∈as):∃ b∈bs,R a b:=
  let ⟨_,hi⟩:=List.mem_iff_getElem?.mp ha
  let ⟨b,h1,h2⟩:=x.get' hi
  ⟨b,Z7z h1,h2⟩
theorem mem_right {as:List α} {bs:List β} (x:F2 R as bs) {b:β} (hb:b∈bs):∃ a∈as,R a b:=
  let ⟨_,hi⟩:=List.mem_iff_getElem?.mp hb
  let ⟨a,h1,h2⟩:=x.get hi
  ⟨a,Z7z h1,h2⟩
theorem one {a:α} {b:β} (r:R a b):F2 R [a] [b]:=⟨r,trivial⟩
theorem size {as:Array α} {bs:List β} (x:F2 R as.toList bs):as.size=bs.length:=Z7k.symm.trans x.length
end F2
end
inductive Tag where
  | free | imm (o:Obj) (v:Option AVal) | own (id:Nat) | dic (id:Nat)
noncomputable abbrev Wd:=Addr→Tag
noncomputable def Tag.key (t:Tag):Option (Bool×Nat):=@Tag.casesOn (λ zz=>Option (Bool×Nat)) t none (λ zz zz=>none) (λ i=>some (true,i)) (λ i=>some (false,i))
noncomputable def st (c:CS):Str:=⟨c.toArray⟩
theorem Zpy {a b:CS} (h:st a=st b):a=b:=Z7r Array.toList (Z7r Str.cps h)
theorem Yn (c:CS):(st c).length=c.length:=rfl
theorem Zlx (a b:CS):st a++st b=st (a++b):=Z7r Str.mk (List.append_toArray a b)
def VRel (W:Wd) (v:Value) (x:AVal):Prop:=@AVal.casesOn (λ zz=>Prop) x (v=.none) (λ b=>v=.bool b) (λ i=>∃ t,v=.int i t) (λ c=>∃ t,v=.str (st c) t)
  (λ xs=>∃ a,v=.ref a∧∃ o,W a=.imm o (some (.tup xs))) (λ xs=>∃ a,v=.ref a∧∃ o,W a=.imm o (some (.lst xs))) (λ id=>∃ a,v=.ref a∧W a=.own id)
section
variable {W W':Wd}
theorem VRel.none {v:Value} (h:VRel W v .none):v=.none:=h
theorem VRel.bool {v:Value} {b:Bool} (h:VRel W v (.bool b)):v=.bool b:=h
@[elab_as_elim] theorem VRel.int_e {P:Value→Prop} {v:Value} {i:Int} (h:VRel W v (.int i)) (f:∀ t,P (.int i t)):P v:=let ⟨t,e⟩:=h; e▸f t
@[elab_as_elim] theorem VRel.str_e {P:Value→Prop} {v:Value} {c:CS} (h:VRel W v (.str c)) (f:∀ t,P (.str (st c) t)):P v:=let ⟨t,e⟩:=h; e▸f t
@[elab_as_elim] theorem VRel.none_e {P:Value→Prop} {v:Value} (h:VRel W v .none) (f:P .none):P v:=h.symm▸f
@[elab_as_elim] theorem VRel.bool_e {P:Value→Prop} {v:Value} {b:Bool} (h:VRel W v (.bool b)) (f:P (.bool b)):P v:=h.symm▸f
theorem VRel.bools (b:Bool):VRel W (.bool b) (.bool b):=rfl
theorem VRel.ints (i:Int) (t:Tok):VRel W (.int i t) (.int i):=⟨t,rfl⟩
theorem VRel.strs (c:CS) (t:Tok):VRel W (.str (st c) t) (.str c):=⟨t,rfl⟩
theorem VRel.tups {a:Addr} {o:Obj} {xs:List AVal} (h:W a=.imm o (some (.tup xs))):VRel W (.ref a) (.tup xs):=⟨a,rfl,o,h⟩
theorem VRel.lsts {a:Addr} {o:Obj} {xs:List AVal} (h:W a=.imm o (some (.lst xs))):VRel W (.ref a) (.lst xs):=⟨a,rfl,o,h⟩
theorem VRel.refs {a:Addr} {id:Nat} (h:W a=.own id):VRel W (.ref a) (.ref id):=⟨a,rfl,h⟩
theorem Zah {a b:Addr} (e:Value.ref a=.ref b):a=b:=by injection e
def LeX (X:List Addr) (W W':Wd):Prop:=∀ a,a ∉ X→W a≠.free→W' a=W a
abbrev Le (W W':Wd):Prop:=LeX [] W W'
theorem LeX.refl (X:List Addr) (W:Wd):LeX X W W:=λ zz zz zz=>rfl
theorem LeX.trans {X:List Addr} {W W' W'':Wd} (h:LeX X W W') (h':LeX X W' W''):LeX X W W'':=λ a ha hf=>(h' a ha (h a ha hf▸hf)).trans (h a ha hf)
theorem Le.X {X:List Addr} (h:Le W W'):LeX X W W':=λ a zz hf=>h a List.not_mem_nil hf
theorem LeX.mono {X Y:List Addr} (h:LeX X W W') (hs:∀ a∈X,a∈Y):LeX Y W W':=λ a ha hf=>h a (λ hx=>ha (hs a hx)) hf
theorem LeX.le {X:List Addr} (h:LeX X W W') (hX:∀ a∈X,W a=.free):Le W W':=λ a zz hf=>h a (λ hx=>hf (hX a hx)) hf
def NoVal (W:Wd) (X:List Addr):Prop:=∀ a∈X,W a=.free∨∃ o,W a=.imm o Option.none
theorem NoVal.nil:NoVal W []:=λ zz h=>nomatch h
theorem NoVal.one {a:Addr} {o:Obj} (h:W a=.imm o Option.none):NoVal W [a]:=λ b hb=>.inr ⟨o,Z7c.mp hb▸h⟩
theorem Zqz {a:Addr} {o:Obj} {v:Option AVal} (e:W a=.imm o v):W a≠.free:=λ h=>nomatch e.symm.trans h
theorem Zz4 {a:Addr} {id:Nat} (e:W a=.own id):W a≠.free:=λ h=>nomatch e.symm.trans h
theorem Z0m {a:Addr} {id:Nat} (e:W a=.dic id):W a≠.free:=λ h=>nomatch e.symm.trans h
theorem LeX.at {X:List Addr} (hl:LeX X W W') (hX:NoVal W X) {a:Addr} {t:Tag} (e:W a=t) (h1:t≠.free) (h2:∀ o,t≠.imm o Option.none):W' a=t:=
  (hl a (λ hm=>(hX a hm).elim (λ q=>h1 (e.symm.trans q)) λ ⟨o,q⟩=>h2 o (e.symm.trans q)) (e▸h1)).trans e
theorem Qe {a:Addr} {o:Obj} {v} (h:W a=.imm o v) (l:Le W W'):W' a=.imm o v:=(l a List.not_mem_nil (Zqz h)).trans h
theorem VRel.monoX {X:List Addr} {v:Value} {x:AVal} (h:VRel W v x) (hl:LeX X W W') (hX:NoVal W X):VRel W' v x:=
  @AVal.casesOn (λ x=>VRel W v x→VRel W' v x) x id (λ zz=>id) (λ zz=>id) (λ zz=>id)
    (λ xs h=>let ⟨a,e,o,q⟩:=h; ⟨a,e,o,hl.at hX q (λ h=>nomatch h) λ zz h=>nomatch h⟩) (λ xs h=>let ⟨a,e,o,q⟩:=h; ⟨a,e,o,hl.at hX q (λ h=>nomatch h) λ zz h=>nomatch h⟩)
    (λ id h=>let ⟨a,e,q⟩:=h; ⟨a,e,hl.at hX q (λ h=>nomatch h) λ zz h=>nomatch h⟩) h
theorem VRel.mono {v:Value} {x:AVal} (h:VRel W v x) (hl:Le W W'):VRel W' v x:=h.monoX hl NoVal.nil
noncomputable abbrev VRels (W:Wd):=F2 (VRel W)
theorem VRels.mono {vs:List Value} {xs:List AVal} (h:VRels W vs xs) (hl:Le W W'):VRels W' vs xs:=F2.mono (λ zz zz x=>x.mono hl) h
theorem VRels.monoX {X:List Addr} {vs:List Value} {xs:List AVal} (h:VRels W vs xs) (hl:LeX X W W') (hX:NoVal W X):VRels W' vs xs:=F2.mono (λ zz zz x=>x.monoX hl hX) h
end
def PlTup (h:Heap) (a:Addr) (items:Array Value):Prop:=∃ n,h.get? a=some { cls:=.type "tuple",data:=.seq items n }
theorem PlTup.isTuple {h:Heap} {a:Addr} {items:Array Value} (x:PlTup h a items):h.IsTuple a items:=let ⟨n,e⟩:=x; ⟨_,e,rfl,n,rfl⟩
def SeqR (W:Wd) (o:Obj) (ty:String) (xs:List AVal):Prop:=∃ vs n,o={ cls:=.type ty,data:=.seq vs n }∧VRels W vs.toList xs
def IRel (W:Wd) (o:Obj) (v:Option AVal):Prop:=@Option.casesOn _ (λ zz=>Prop) v True λ v=>@AVal.casesOn (λ zz=>Prop) v False (λ zz=>False) (λ zz=>False) (λ zz=>False) (λ xs=>SeqR W o "tuple" xs) (λ xs=>SeqR W o "list" xs) (λ zz=>False)
noncomputable def Zfn (w:World) (k:AVal):Int:=@AVal.casesOn (λ zz=>Int) k 0 (λ zz=>0) (λ i=>hashInt i) (λ c=>hashStr w (st c)) (λ zz=>0) (λ zz=>0) (λ zz=>0)
noncomputable def Yd (w:World) (k:AVal):Int:=@AVal.casesOn (λ zz=>Int) k (Zfn w k) (λ zz=>Zfn w k) (λ zz=>Zfn w k) (λ zz=>Zfn w k) (λ xs=>reduceHash (Builtin.Tuple.tupleHashOf (xs.map (Zfn w)))) (λ zz=>Zfn w k) (λ zz=>Zfn w k)
structure Cx where
  w:World
  s1:Shared
  K:Frag
  mg:Str→Option Value
  mb:Str→Option Value
  ok:PgOK s1 K mg mb
noncomputable def clsA (c:String):Addr:=(Zay.lookup c).getD 0
variable (X:Cx)
structure EntR (W:Wd) (e:DictEntry) (p:AVal×AVal):Prop where
  key:VRel W e.key p.1
  val:VRel W e.val p.2
  hash:e.hash=Yd X.w p.1
structure DctR (W:Wd) (h:Heap) (a:Addr) (es:List (AVal×AVal)):Prop where
  obj:∃ o des ep,h.get? a=some o∧o.ExactDict∧o.data=.dict des ep∧F2 (EntR X W) des.toList es
  nodup:(es.map (·.1)).Nodup
  keys:∀ p∈es,p.1.isKey=true
  sys:a≠sysModules
def MvR (W:Wd) (v:Option AVal) (mv:Option Value):Prop:=@Option.casesOn _ (λ zz=>Prop) v (mv=none) λ v=>∃ cv,mv=some cv∧VRel W cv v
structure DicR (W:Wd) (h:Heap) (d:Addr) (k:Nat) (m:Fm):Prop where
  ns:∃ mm,h.Ns d mm∧∀ x:String,MvR W (m x) (mm (Str.ofString x))
  sz:∃ o,h.get? d=some o∧o.ExactDict∧∃ es ep,o.data=.dict es ep∧es.size≤k
def ORel (W:Wd) (h:Heap) (a:Addr) (id:Nat) (o:AObj):Prop:=@AObj.casesOn (λ zz=>Prop) o (λ xs=>∃ vs,h.PlainList a vs∧VRels W vs.toList xs) (λ es=>DctR X W h a es)
  (λ c k m=>∃ d,h.get? a=some { cls:=.ref (clsA c),dict:=some d,data:=.plain }∧W d=.dic id∧DicR W h d k m)
def TOK (W:Wd) (σ:St) (h:Heap) (a:Addr) (t:Tag):Prop:=@Tag.casesOn (λ zz=>Prop) t True (λ o v=>h.get? a=some o∧IRel W o v) (λ id=>∃ o,σ.f id=some o∧ORel X W h a id o) (λ id=>id < σ.n∧∃ o,h.get? a=some o)
def Uq (W:Wd):Prop:=∀ a b k,(W a).key=some k→(W b).key=some k→a=b
structure Inv (W:Wd) (σ:St) (s:Shared):Prop where
  base:∃ h tk d,s={ X.s1 with heap:=h,toks:=tk,drawn:=d }
  keep:∀ a o,X.s1.heap.get? a=some o→∃ v,W a=.imm o v
  tag:∀ a,TOK X W σ s.heap a (W a)
  uq:Uq W
  fid:∀ id,σ.f id≠none→id < σ.n
variable {X} {W W':Wd} {σ σ':St} {s s':Shared}
theorem IRel.monoX {Y:List Addr} {o:Obj} {v:Option AVal} (h:IRel W o v) (hl:LeX Y W W') (hY:NoVal W Y):IRel W' o v:=
  @Option.casesOn _ (λ v=>IRel W o v→IRel W' o v) v id (λ v=>@AVal.casesOn (λ v=>IRel W o (some v)→IRel W' o (some v)) v id (λ zz=>id) (λ zz=>id) (λ zz=>id)
    (λ xs h=>let ⟨vs,n,e,r⟩:=h; ⟨vs,n,e,r.monoX hl hY⟩) (λ xs h=>let ⟨vs,n,e,r⟩:=h; ⟨vs,n,e,r.monoX hl hY⟩) (λ zz=>id)) h
theorem MvR.monoX {Y:List Addr} {v:Option AVal} {mv:Option Value} (h:MvR W v mv) (hl:LeX Y W W') (hY:NoVal W Y):MvR W' v mv:=
  @Option.casesOn _ (λ v=>MvR W v mv→MvR W' v mv) v id (λ v h=>let ⟨cv,e,r⟩:=h; ⟨cv,e,r.monoX hl hY⟩) h
theorem DicR.keepX {Y:List Addr} {h h':Heap} {d:Addr} {k:Nat} {m:Fm} (x:DicR W h d k m) (hl:LeX Y W W') (hY:NoVal W Y) (hd:∀ o,h.get? d=some o→h'.get? d=some o):DicR W' h' d k m:=
  ⟨let ⟨mm,n,r⟩:=x.ns; ⟨mm,n.at hd,λ y=>(r y).monoX hl hY⟩,let ⟨o,e,r⟩:=x.sz; ⟨o,hd o e,r⟩⟩
theorem ORel.keepX {Y:List Addr} {h h':Heap} {a:Addr} {id:Nat} {o:AObj} (x:ORel X W h a id o) (hl:LeX Y W W') (hY:NoVal W Y)
    (ha:∀ o,h.get? a=some o→h'.get? a=some o) (hd:∀ d,W d=.dic id→∀ o,h.get? d=some o→h'.get? d=some o):ORel X W' h' a id o:=
  @AObj.casesOn (λ o=>ORel X W h a id o→ORel X W' h' a id o) o (λ xs x=>let ⟨vs,⟨n,e⟩,r⟩:=x; ⟨vs,⟨n,ha _ e⟩,r.monoX hl hY⟩)
    (λ es x=>⟨let ⟨o,des,ep,e,q,d,r⟩:=x.obj; ⟨o,des,ep,ha o e,q,d,F2.mono (λ zz zz z=>⟨z.key.monoX hl hY,z.val.monoX hl hY,z.hash⟩) r⟩,x.nodup,x.keys,x.sys⟩)
    (λ c k m x=>let ⟨d,e,q,r⟩:=x; ⟨d,ha _ e,hl.at hY q (λ h=>nomatch h) (λ zz h=>nomatch h),r.keepX hl hY (hd d q)⟩) x
theorem TOK.keepX {Y:List Addr} {h h':Heap} {b:Addr} {t:Tag} (x:TOK X W σ h b t) (hl:LeX Y W W') (hY:NoVal W Y) (hb:∀ o,h.get? b=some o→h'.get? b=some o)
    (hd:∀ id,t=.own id→∀ d,W d=.dic id→∀ o,h.get? d=some o→h'.get? d=some o) (hσ:∀ id,t=.own id→∀ o,σ.f id=some o→σ'.f id=some o) (hn:σ.n≤σ'.n):TOK X W' σ' h' b t:=
  @Tag.casesOn (λ t=>TOK X W σ h b t→(∀ id,t=.own id→∀ d,W d=.dic id→∀ o,h.get? d=some o→h'.get? d=some o)→(∀ id,t=.own id→∀ o,σ.f id=some o→σ'.f id=some o)→TOK X W' σ' h' b t) t (λ zz zz zz=>trivial)
    (λ o v x zz zz=>⟨hb o x.1,x.2.monoX hl hY⟩) (λ id x hd hσ=>let ⟨o,e,r⟩:=x; ⟨o,hσ id rfl o e,r.keepX hl hY hb (hd id rfl)⟩) (λ id x zz zz=>⟨Z6t x.1 hn,let ⟨o,e⟩:=x.2; ⟨o,hb o e⟩⟩) x hd hσ
theorem Inv.reb (I:Inv X W σ s) (h:Heap) (tk:Nat):∃ h' tk' d',({ s with heap:=h,toks:=tk }:Shared)={ X.s1 with heap:=h',toks:=tk',drawn:=d' }:=let ⟨_,_,d,e⟩:=I.base; ⟨h,tk,d,e▸rfl⟩
theorem Inv.drew (I:Inv X W σ s) (d:Drawn):Inv X W σ { s with drawn:=d }:=⟨let ⟨h,tk,_,e⟩:=I.base; ⟨h,tk,d,e▸rfl⟩,I.keep,I.tag,I.uq,I.fid⟩
theorem Inv.imm (I:Inv X W σ s) {a:Addr} {o:Obj} {v:Option AVal} (e:W a=.imm o v):s.heap.get? a=some o∧IRel W o v:=(e▸I.tag a:TOK X W σ s.heap a (.imm o v))
theorem Inv.own (I:Inv X W σ s) {a:Addr} {id:Nat} (e:W a=.own id):∃ o,σ.f id=some o∧ORel X W s.heap a id o:=(e▸I.tag a:TOK X W σ s.heap a (.own id))
theorem Inv.dob (I:Inv X W σ s) {a:Addr} {id:Nat} (e:W a=.dic id):id < σ.n∧∃ o,s.heap.get? a=some o:=(e▸I.tag a:TOK X W σ s.heap a (.dic id))
theorem Zov {a:Addr} {id:Nat} (e:W a=.own id):(W a).key=some (true,id):=Z7r Tag.key e
theorem Z1q {a:Addr} {id:Nat} (e:W a=.dic id):(W a).key=some (false,id):=Z7r Tag.key e
theorem Inv.uniq (I:Inv X W σ s) {a b:Addr} {id:Nat} (ha:W a=.own id) (hb:W b=.own id):a=b:=I.uq a b _ (Zov ha) (Zov hb)
theorem Inv.grow (I:Inv X W σ s) {h':Heap} {tk:Nat} (hk:∀ a o,W a≠.free→s.heap.get? a=some o→h'.get? a=some o):Inv X W σ { s with heap:=h',toks:=tk } where
  base:=I.reb h' tk
  keep:=I.keep
  tag:=λ a=>Classical.byCases (λ e:W a=.free=>e.symm▸trivial) λ e=>(I.tag a).keepX (LeX.refl [] W) NoVal.nil (λ o=>hk a o e) (λ zz zz d hd o=>hk d o (Z0m hd)) (λ zz zz zz e=>e) (Z6q _)
  uq:=I.uq
  fid:=I.fid
theorem Inv.toks (I:Inv X W σ s) (tk:Nat):Inv X W σ { s with toks:=tk }:=I.grow (h':=s.heap) (λ zz zz zz e=>e)
theorem Inv.has (I:Inv X W σ s) (a:Addr) (ha:W a≠.free):∃ o,s.heap.get? a=some o:=
  @Tag.casesOn (λ t=>TOK X W σ s.heap a t→t≠.free→∃ o,s.heap.get? a=some o) (W a) (λ zz h=>absurd rfl h) (λ o zz x zz=>⟨o,x.1⟩)
    (λ id x zz=>let ⟨o,_,r⟩:=x; @AObj.casesOn (λ o=>ORel X W s.heap a id o→∃ o,s.heap.get? a=some o) o (λ zz r=>let ⟨_,⟨_,e⟩,_⟩:=r; ⟨_,e⟩) (λ zz r=>let ⟨o,_,_,e,_⟩:=r.obj; ⟨o,e⟩) (λ zz zz zz r=>let ⟨_,e,_⟩:=r; ⟨_,e⟩) r)
    (λ zz x zz=>x.2) (I.tag a) ha
theorem Inv.fr (I:Inv X W σ s) (a:Addr) (ha:W a≠.free):a < s.heap.objs.size:=let ⟨_,e⟩:=I.has a ha; Heap.lt_size e
theorem Inv.keeps (I:Inv X W σ s) {h':Heap} {tk:Nat} (hk:∀ a o,s.heap.get? a=some o→h'.get? a=some o):Inv X W σ { s with heap:=h',toks:=tk }:=I.grow (λ a o zz=>hk a o)
noncomputable def setW (W:Wd) (a:Addr) (t:Tag):Wd:=λ b=>if b=a then t else W b
theorem Zh (W:Wd) (a:Addr) (t:Tag):setW W a t a=t:=if_pos rfl
theorem Qh {W:Wd} {a b:Addr} {t:Tag} (h:b≠a):setW W a t b=W b:=if_neg h
theorem Qw {P:Addr→Tag→Prop} {a:Addr} {t:Tag} (h1:P a t) (h2:∀ b,b≠a→P b (W b)) (b:Addr):P b (setW W a t b):=
  Classical.byCases (λ e:b=a=>by subst e; rw [Zh]; exact h1) λ e=>by rw [Qh e]; exact h2 b e
theorem Y9 {a:Addr} {t:Tag} (h:W a=.free):Le W (setW W a t):=λ b zz hb=>Qh λ e=>hb (e▸h)
theorem Zy {a:Addr} {t:Tag}:LeX [a] W (setW W a t):=λ b hb zz=>Qh λ e=>hb (Z7c.mpr e)
theorem Uq.set (u:Uq W) {a:Addr} {t:Tag} (h:∀ k,t.key=some k→∀ b,b≠a→(W b).key≠some k):Uq (setW W a t):=λ b c k=>
  Qw (P:=λ b tb=>tb.key=some k→(setW W a t c).key=some k→b=c) (λ e=>Qw (P:=λ c tc=>tc.key=some k→a=c) (λ zz=>rfl) (λ c hc e'=>absurd e' (h k e c hc)) c)
    (λ b hb e=>Qw (P:=λ c tc=>tc.key=some k→b=c) (λ e'=>absurd e (h k e' b hb)) (λ c zz e'=>u b c k e e') c) b
theorem Inv.keepW (I:Inv X W σ s) (l:Le W W'):∀ a o,X.s1.heap.get? a=some o→∃ v,W' a=.imm o v:=λ a o h=>let ⟨v,e⟩:=I.keep a o h; ⟨v,Qe e l⟩
theorem Inv.keepS (I:Inv X W σ s) {a:Addr} {t:Tag} (hold:X.s1.heap.get? a=none):∀ b o,X.s1.heap.get? b=some o→∃ v,setW W a t b=.imm o v:=λ b o h=>
  let ⟨v,e⟩:=I.keep b o h; ⟨v,(Qh λ q:b=a=>by rw [q,hold] at h; exact nomatch h).trans e⟩
theorem Inv.pin (I:Inv X W σ s) {a:Addr} {o:Obj} {v:Option AVal} (hf:W a=.free) (ho:s.heap.get? a=some o) (hv:IRel W o v):Inv X (setW W a (.imm o v)) σ s:=
  have hl:Le W (setW W a (.imm o v)):=Y9 hf
  { base:=I.base,keep:=I.keepW hl,uq:=I.uq.set (λ zz e=>nomatch e),fid:=I.fid
    tag:=Qw (P:=TOK X (setW W a (.imm o v)) σ s.heap) ⟨ho,hv.monoX hl NoVal.nil⟩ λ b zz=>(I.tag b).keepX hl NoVal.nil (λ zz e=>e) (λ zz zz zz zz zz e=>e) (λ zz zz zz e=>e) (Z6q _) }
theorem Inv.reset (I:Inv X W σ s) {a:Addr} {o:Obj} {t:Tag} {h':Heap} {tk:Nat} (hW:W a=.imm o none) (hold:X.s1.heap.get? a=none) (hsb:Heap.SameBut a s.heap h') (ht:t.key=none) (ho:TOK X (setW W a t) σ h' a t):Inv X (setW W a t) σ { s with heap:=h',toks:=tk }:=
  have ne:∀ d id,W d=.dic id→d≠a:=λ d id e q=>nomatch (q▸e:W a=.dic id).symm.trans hW
  { base:=I.reb h' tk,keep:=I.keepS hold,uq:=I.uq.set (λ zz e=>nomatch ht.symm.trans e),fid:=I.fid
    tag:=Qw (P:=TOK X (setW W a t) σ h') ho λ b hb=>(I.tag b).keepX Zy (NoVal.one hW) (λ o e=>(hsb.2 b hb).trans e) (λ zz zz d hd o e=>(hsb.2 d (ne d _ hd)).trans e) (λ zz zz zz e=>e) (Z6q _) }
theorem Inv.repin (I:Inv X W σ s) {a:Addr} {o o':Obj} {h':Heap} {tk:Nat} (hW:W a=.imm o none) (hold:X.s1.heap.get? a=none) (hsb:Heap.SameBut a s.heap h') (ho:h'.get? a=some o'):
    Inv X (setW W a (.imm o' none)) σ { s with heap:=h',toks:=tk }:=I.reset hW hold hsb rfl ⟨ho,trivial⟩
theorem Inv.forget (I:Inv X W σ s) {a:Addr} {o:Obj} {h':Heap} {tk:Nat} (hW:W a=.imm o none) (hold:X.s1.heap.get? a=none) (hsb:Heap.SameBut a s.heap h'):Inv X (setW W a .free) σ { s with heap:=h',toks:=tk }:=I.reset hW hold hsb rfl trivial
theorem Inv.fn (I:Inv X W σ s):σ.f σ.n=none:=Classical.byContradiction λ h=>Nat.lt_irrefl _ (I.fid σ.n h)
theorem Inv.nid (I:Inv X W σ s) {b:Addr} {id:Nat} (hb:W b=.own id):id≠σ.n:=λ e=>let ⟨_,h,_⟩:=I.own hb; by rw [e,I.fn] at h; exact nomatch h
theorem Inv.ndc (I:Inv X W σ s) {b:Addr} {id:Nat} (hb:W b=.dic id):id≠σ.n:=λ e=>Nat.lt_irrefl _ (e▸(I.dob hb).1)
theorem Inv.nkey (I:Inv X W σ s) (b:Addr) {p:Bool}:(W b).key≠some (p,σ.n):=λ h=>
  @Tag.casesOn (λ t=>W b=t→t.key=some (p,σ.n)→False) (W b) (λ zz h=>nomatch h) (λ zz zz zz h=>nomatch h) (λ id e h=>I.nid e (Z7r Prod.snd (Z7g h))) (λ id e h=>I.ndc e (Z7r Prod.snd (Z7g h))) rfl h
theorem Yz (σ:St) (o:AObj):(σ.new o).f σ.n=some o:=if_pos rfl
theorem Zus {σ:St} {o:AObj} {j:Nat} (h:j≠σ.n):(σ.new o).f j=σ.f j:=if_neg h
theorem Yk (σ:St) (id:Nat) (o:AObj):(σ.put id o).f id=some o:=if_pos rfl
theorem Zw {σ:St} {id j:Nat} {o:AObj} (h:j≠id):(σ.put id o).f j=σ.f j:=if_neg h
theorem Inv.newFid (I:Inv X W σ s) (o:AObj):∀ id,(σ.new o).f id≠none→id < σ.n+1:=λ id h=>Classical.byCases (λ e:id=σ.n=>e▸Z6z _) λ e=>Nat.lt_succ_of_lt (I.fid id (Zus e▸h))
theorem Inv.newObj (I:Inv X W σ s) {a:Addr} {o:AObj} (hf:W a=.free) (ho:ORel X W s.heap a σ.n o):Inv X (setW W a (.own σ.n)) (σ.new o) s:=
  have hl:Le W (setW W a (.own σ.n)):=Y9 hf
  { base:=I.base,keep:=I.keepW hl,uq:=I.uq.set λ k e b zz=>Z7g e▸I.nkey b,fid:=I.newFid o
    tag:=Qw (P:=TOK X (setW W a (.own σ.n)) (σ.new o) s.heap) ⟨o,Yz σ o,ho.keepX hl NoVal.nil (λ zz e=>e) λ zz zz zz e=>e⟩ λ b zz=>(I.tag b).keepX hl NoVal.nil (λ zz e=>e) (λ zz zz zz zz zz e=>e) (λ i hi o h=>(Zus (I.nid hi)).trans h) (Nat.le_succ _) }
theorem Inv.upd (I:Inv X W σ s) {a b:Addr} {id:Nat} {o:AObj} {h':Heap} {tk:Nat} (hW:W a=.own id) (hb:W b=.own id∨W b=.dic id) (hsb:Heap.SameBut b s.heap h') (hx:∃ ob,h'.get? b=some ob)
    (ho:ORel X W h' a id o):Inv X W (σ.put id o) { s with heap:=h',toks:=tk }:=
  have hbf:W b≠.free:=hb.elim Zz4 Z0m
  have ne:∀ c,W c≠W b→c≠b:=λ c hc e=>hc (e▸rfl)
  have nk:∀ c p i,(W c).key=some (p,i)→i≠id→c≠b:=λ c p i e hi=>ne c λ q=>hi (hb.elim (λ hb=>Z7r Prod.snd (Z7g (e.symm.trans (Z7r Tag.key (q.trans hb))))) λ hb=>Z7r Prod.snd (Z7g (e.symm.trans (Z7r Tag.key (q.trans hb)))))
  { base:=I.reb h' tk,keep:=I.keep,uq:=I.uq
    fid:=λ ic hic=>Classical.byCases (λ e:ic=id=>let ⟨_,h,_⟩:=I.own hW; I.fid ic (e▸λ q=>nomatch h.symm.trans q)) λ e=>I.fid ic (Zw e▸hic)
    tag:=λ c=>@Tag.casesOn (λ t=>W c=t→TOK X W σ s.heap c t→TOK X W (σ.put id o) h' c t) (W c) (λ zz zz=>trivial)
      (λ oc vc e x=>⟨(hsb.2 c (ne c λ q=>hb.elim (λ hb=>nomatch (e.symm.trans q).trans hb) λ hb=>nomatch (e.symm.trans q).trans hb)).trans x.1,x.2⟩)
      (λ ic e x=>Classical.byCases (λ q:ic=id=>⟨o,q▸Yk σ id o,q▸I.uniq hW (q▸e)▸ho⟩) λ q=>let ⟨oc,h1,h2⟩:=x
        ⟨oc,(Zw q).trans h1,h2.keepX (LeX.refl [] W) NoVal.nil (λ o' e'=>(hsb.2 c (nk c _ ic (Zov e) q)).trans e') λ d hd o' e'=>(hsb.2 d (nk d _ ic (Z1q hd) q)).trans e'⟩)
      (λ ic e x=>⟨x.1,Classical.byCases (λ q:c=b=>q▸hx) λ q=>let ⟨o',e'⟩:=x.2; ⟨o',(hsb.2 c q).trans e'⟩⟩) rfl (I.tag c) }
theorem Inv.free (I:Inv X W σ s) {a:Addr} (h:s.heap.objs.size≤a):W a=.free:=Classical.byContradiction λ e=>Nat.not_lt.mpr h (I.fr a e)
theorem Inv.free' (I:Inv X W σ s) {a:Addr} (h:s.heap.get? a=none):W a=.free:=Classical.byContradiction λ e=>let ⟨_,ho⟩:=I.has a e; nomatch h.symm.trans ho
theorem Inv.alloc (I:Inv X W σ s) {o:Obj} {v:Option AVal} (tk:Nat) (hfr:o.isFreed=false) (hv:IRel W o v):
    Inv X (setW W s.heap.objs.size (.imm o v)) σ { s with heap:=s.heap.push o,toks:=tk }∧Le W (setW W s.heap.objs.size (.imm o v)):=
  have hf:=I.free (a:=s.heap.objs.size) (Z6q _)
  ⟨(I.keeps (tk:=tk) λ a ob e=>Z7n _ e).pin hf (Z7o _ hfr) hv,Y9 hf⟩
theorem Inv.adopt (I:Inv X W σ s) {h':Heap} {tk:Nat} (hk:∀ a o,s.heap.get? a=some o→h'.get? a=some o) {a:Addr} (ha:s.heap.get? a=none) {o:Obj} {v:Option AVal} (ho:h'.get? a=some o) (hv:IRel W o v):
    Inv X (setW W a (.imm o v)) σ { s with heap:=h',toks:=tk }∧Le W (setW W a (.imm o v)):=⟨(I.keeps hk).pin (I.free' ha) ho hv,Y9 (I.free' ha)⟩
theorem Inv.tup (I:Inv X W σ s) {v:Value} {xs:List AVal} (h:VRel W v (.tup xs)):∃ a,v=.ref a∧∃ vs,PlTup s.heap a vs∧VRels W vs.toList xs:=
  let ⟨a,e,o,q⟩:=h; let ⟨ho,vs,n,eo,r⟩:=I.imm q; ⟨a,e,vs,⟨n,eo▸ho⟩,r⟩
theorem Inv.lst (I:Inv X W σ s) {v:Value} {xs:List AVal} (h:VRel W v (.lst xs)):∃ a,v=.ref a∧∃ vs,s.heap.PlainList a vs∧VRels W vs.toList xs:=
  let ⟨a,e,o,q⟩:=h; let ⟨ho,vs,n,eo,r⟩:=I.imm q; ⟨a,e,vs,⟨n,eo▸ho⟩,r⟩
theorem Inv.obj (I:Inv X W σ s) {v:Value} {id:Nat} {o:AObj} (h:VRel W v (.ref id)) (ho:σ.f id=some o):∃ a,v=.ref a∧W a=.own id∧ORel X W s.heap a id o:=
  let ⟨a,e,q⟩:=h; let ⟨o',h1,h2⟩:=I.own q; ⟨a,e,q,Z7g (h1.symm.trans ho)▸h2⟩
theorem Inv.listOf (I:Inv X W σ s) {v:Value} {x:AVal} {xs:List AVal} (h:VRel W v x) (hx:LOf σ x xs):∃ a,v=.ref a∧∃ vs,s.heap.PlainList a vs∧VRels W vs.toList xs:=by
  cases hx with
  | lst=>exact I.lst h
  | ref e=>exact let ⟨a,e',_,vs,hl,hr⟩:=I.obj h e; ⟨a,e',vs,hl,hr⟩
def Pst (X:Cx) (W:Wd) (σ':St) (r:AVal) (Q:Value→Shared→Prop):Prop:=∀ W' v s',Le W W'→Inv X W' σ' s'→VRel W' v r→Q v s'
section
variable {Q:Value→Shared→Prop}
theorem Pst.mk (I:Inv X W σ s) {v:Value} {r:AVal} (hv:VRel W v r) (h:Pst X W σ r Q):Q v s:=h W v s (LeX.refl [] W) I hv
theorem Pst.mkt (I:Inv X W σ s) {v:Value} {r:AVal} {tk:Nat} (hv:VRel W v r) (h:Pst X W σ r Q):Q v { s with toks:=tk }:=h W v _ (LeX.refl [] W) (I.toks tk) hv
theorem Pst.mk_int {i:Int} {t:Tok} {tk:Nat} (I:Inv X W σ s) (h:Pst X W σ (.int i) Q):Q (.int i t) { s with toks:=tk }:=h.mkt I (.ints i t)
theorem Pst.mk_bool {b:Bool} (I:Inv X W σ s) (h:Pst X W σ (.bool b) Q):Q (.bool b) s:=h.mk I (.bools b)
theorem Pst.mk_boolt {b:Bool} {tk:Nat} (I:Inv X W σ s) (h:Pst X W σ (.bool b) Q):Q (.bool b) { s with toks:=tk }:=h.mkt I (.bools b)
theorem Pst.mk_str {c:CS} {t:Tok} {tk:Nat} (I:Inv X W σ s) (h:Pst X W σ (.str c) Q):Q (.str (st c) t) { s with toks:=tk }:=h.mkt I (.strs c t)
theorem Pst.mk_list {xs:List AVal} {vs:Array Value} {a:Addr} {h':Heap} {tk:Nat} (I:Inv X W σ s) (h:Pst X W σ (.lst xs) Q)
    (hk:∀ a o,s.heap.get? a=some o→h'.get? a=some o) (ha:s.heap.get? a=none) (hl:h'.PlainList a vs) (hr:VRels W vs.toList xs):Q (.ref a) { s with heap:=h',toks:=tk }:=
  let ⟨n,ho⟩:=hl; let ⟨I',le⟩:=I.adopt (tk:=tk) hk ha ho (v:=some (.lst xs)) ⟨vs,n,rfl,hr⟩; h _ _ _ le I' (.lsts (Zh ..))
theorem Pst.mk_tuple {xs:List AVal} {vs:Array Value} {a:Addr} {h':Heap} {tk:Nat} (I:Inv X W σ s) (h:Pst X W σ (.tup xs) Q)
    (hk:∀ a o,s.heap.get? a=some o→h'.get? a=some o) (ha:s.heap.get? a=none) (hl:PlTup h' a vs) (hr:VRels W vs.toList xs):Q (.ref a) { s with heap:=h',toks:=tk }:=
  let ⟨n,ho⟩:=hl; let ⟨I',le⟩:=I.adopt (tk:=tk) hk ha ho (v:=some (.tup xs)) ⟨vs,n,rfl,hr⟩; h _ _ _ le I' (.tups (Zh ..))
theorem Zx (h:Heap):h.get? h.objs.size=none:=Option.eq_none_iff_forall_ne_some.mpr λ zz e=>Nat.lt_irrefl _ (Heap.lt_size e)
theorem Pst.push_list {xs:List AVal} {vs:Array Value} (I:Inv X W σ s) (h:Pst X W σ (.lst xs) Q) (hr:VRels W vs.toList xs):Q (.ref s.heap.objs.size) { s with heap:=s.heap.push { cls:=.type "list",data:=.seq vs } }:=
  Pst.mk_list (tk:=s.toks) I h (λ zz zz e=>Z7n _ e) (Zx _) ⟨0,Z7o _ rfl⟩ hr
theorem Pst.push_tuple {xs:List AVal} {vs:Array Value} (I:Inv X W σ s) (h:Pst X W σ (.tup xs) Q) (hr:VRels W vs.toList xs):Q (.ref s.heap.objs.size) { s with heap:=s.heap.push { cls:=.type "tuple",data:=.seq vs } }:=
  Pst.mk_tuple (tk:=s.toks) I h (λ zz zz e=>Z7n _ e) (Zx _) ⟨0,Z7o _ rfl⟩ hr
theorem Pst.new_list {xs:List AVal} {vs:Array Value} (I:Inv X W σ s) (h:Pst X W (σ.new (.list xs)) (.ref σ.n) Q) {h':Heap} {tk:Nat} {a:Addr}
    (hk:∀ a o,s.heap.get? a=some o→h'.get? a=some o) (ha:s.heap.get? a=none) (hl:h'.PlainList a vs) (hr:VRels W vs.toList xs):Q (.ref a) { s with heap:=h',toks:=tk }:=
  have hf:=I.free' ha
  h _ _ _ (Y9 hf) ((I.keeps (tk:=tk) hk).newObj (o:=.list xs) hf ⟨vs,hl,hr⟩) (.refs (Zh ..))
end
end PL
end
section
open PySem PySem.W PyProof.Rows PySem.SeqAt
namespace PL
variable {X:Cx} {W:Wd} {σ:St} {s:Shared} {A:Around} {E:Value→Shared→Prop} {Q:Value→Shared→Prop}
theorem Z4 {n:Nat} (h:n≤16000):n≤sizeLine:=by rw [sizeLine_eq]; exact Z6p h (Z6y rfl)
theorem Z1k {i:Int} (h:-1000000000 < i∧i < 1000000000):i.natAbs < 2 ^ 30:=by omega
theorem Zkm {i:Int} (h:-1000000000 < i∧i < 1000000000):Builtin.Int.intBits i≤64:=by
  unfold Builtin.Int.intBits
  split
  · exact Z63 _
  · rename_i h0
    exact Z6p ((Nat.log2_lt (λ e=>h0 (by rw [Int.natAbs_eq_zero.mp e]; rfl))).mpr (Z1k h)) (Z6y rfl)
inductive BinR (σ:St):Operator→AVal→AVal→AVal→Prop
  | addI (i j:Int):BinR σ .Add (.int i) (.int j) (.int (i+j))
  | subI (i j:Int):BinR σ .Sub (.int i) (.int j) (.int (i-j))
  | mulI (i j:Int) (h:-1000000000 < i∧i < 1000000000):BinR σ .Mult (.int i) (.int j) (.int (i*j))
  | modI (i j:Int) (h:0 < j):BinR σ .Mod (.int i) (.int j) (.int (i % j))
  | addS {x y:CS} (h:x.length+y.length≤16000):BinR σ .Add (.str x) (.str y) (.str (x++y))
  | addT {x y:List AVal} (h:x.length+y.length≤16000):BinR σ .Add (.tup x) (.tup y) (.tup (x++y))
  | addL {a b:AVal} {x y:List AVal} (ha:LOf σ a x) (hb:LOf σ b y) (h:x.length+y.length≤16000):BinR σ .Add a b (.lst (x++y))
theorem Z2l {v u:Value} {x y:List AVal} (hl:x.length+y.length≤16000) (I:Inv X W σ s) (hv:VRel W v (.tup x)) (hu:VRel W u (.tup y)) (h:Pst X W σ (.tup (x++y)) Q):wpAny (model pp X.w) A (binaryOp .Add v u) Q E s:=by
  obtain ⟨a,e,vs,⟨n,ha⟩,hr⟩:=I.tup hv
  obtain ⟨b,e',us,⟨m,hb⟩,hr'⟩:=I.tup hu
  rw [e] at hv ⊢; rw [e'] at hu ⊢
  by_cases h1:vs.isEmpty=true
  · rw [Array.isEmpty_iff.mp h1] at hr
    rw [List.eq_nil_of_length_eq_zero hr.length.symm,List.nil_append] at h
    exact concat_meets ⟨_,ha,rfl⟩ ⟨_,hb,rfl⟩ noFill_tuple_add seq_tuple_add PySem.F.slot_tuple_add PySem.F.entry_tuple_add (PySem.F.args_tuple_add_2 _ _) (PyProof.Rows.tuple_addW0 a b vs us n m _ _ _ _ h1) ⟨ha,hb,h.mk I hu⟩
  · by_cases h2:us.isEmpty=true
    · rw [Array.isEmpty_iff.mp h2] at hr'
      rw [List.eq_nil_of_length_eq_zero hr'.length.symm,List.append_nil] at h
      exact concat_meets ⟨_,ha,rfl⟩ ⟨_,hb,rfl⟩ noFill_tuple_add seq_tuple_add PySem.F.slot_tuple_add PySem.F.entry_tuple_add (PySem.F.args_tuple_add_2 _ _) (PyProof.Rows.tuple_addW1 a b vs us n m _ _ _ _ h1 h2) ⟨ha,hb,h.mk I hv⟩
    · exact P.add_tuple ha hb h1 h2 (Pst.push_tuple I h (by rw [Array.toList_append]; exact hr.append hr')) (by rw [hr.size,hr'.size]; exact Z4 hl)
theorem Zw4 {v u:Value} {x y:AVal} {xs ys:List AVal} (hx:LOf σ x xs) (hy:LOf σ y ys) (hl:xs.length+ys.length≤16000) (I:Inv X W σ s) (hv:VRel W v x) (hu:VRel W u y)
    (h:∀ {vs:Array Value},VRels W vs.toList (xs++ys)→Q (.ref s.heap.objs.size) { s with heap:=s.heap.push { cls:=.type "list",data:=.seq vs } }):wpAny (model pp X.w) A (binaryOp .Add v u) Q E s:=by
  obtain ⟨a,e,vs,⟨n,ha⟩,hr⟩:=I.listOf hv hx
  obtain ⟨b,e',us,⟨m,hb⟩,hr'⟩:=I.listOf hu hy
  rw [e,e']
  exact P.add_list ha hb (h (by rw [Array.toList_append]; exact hr.append hr')) (by rw [hr.size,hr'.size]; exact Z4 hl)
theorem Z43 {op:Operator} {x y r:AVal} (e:BinR σ op x y r) (I:Inv X W σ s) {v u:Value} (hv:VRel W v x) (hu:VRel W u y) (h:Pst X W σ r Q):wpAny (model pp X.w) A (binaryOp op v u) Q E s:=by
  induction e with
  | addI=>exact hv.int_e λ t=>hu.int_e λ t'=>P.add_int (Pst.mk_int I h)
  | subI=>exact hv.int_e λ t=>hu.int_e λ t'=>P.sub_int (Pst.mk_int I h)
  | mulI i j hb=>exact hv.int_e λ t=>hu.int_e λ t'=>P.mul_int (Pst.mk_int I h) (IntMulOk.of_left (Zkm hb))
  | modI i j hj=>exact hv.int_e λ t=>hu.int_e λ t'=>PyProof.Rows.mod_int' (Int.ne_of_gt hj) (by rw [Int.fmod_eq_emod_of_nonneg _ (Int.le_of_lt hj)]; exact Pst.mk_int I h)
  | addS hl=>exact hv.str_e λ t=>hu.str_e λ t'=>PyProof.Rows.add_str (λ t' tk=>by rw [Zlx]; exact Pst.mk_str I h) (by rw [Yn,Yn]; exact Z4 hl)
  | addT hl=>exact Z2l hl I hv hu h
  | addL hx hy hl=>exact Zw4 hx hy hl I hv hu λ hr=>Pst.push_list I h hr
inductive Cmpb:Nat→AVal→AVal→Prop
  | none (n:Nat):Cmpb n .none .none
  | bool (n:Nat) (a b:Bool):Cmpb n (.bool a) (.bool b)
  | int (n:Nat) (a b:Int):Cmpb n (.int a) (.int b)
  | str (n:Nat) (a b:CS):Cmpb n (.str a) (.str b)
  | tup {n:Nat} {xs ys:List AVal} (h:∀ (i:Nat) a b,xs[i]? = some a→ys[i]? = some b→Cmpb n a b):Cmpb (n+1) (.tup xs) (.tup ys)
  | lst {n:Nat} {xs ys:List AVal} (h:xs.length=ys.length→∀ (i:Nat) a b,xs[i]? = some a→ys[i]? = some b→Cmpb n a b):Cmpb (n+1) (.lst xs) (.lst ys)
theorem Zbs {p q:Prop} [Decidable p] [Decidable q] (h:p↔q):decide p=decide q:=by
  by_cases hp:p
  · rw [Z7s hp,Z7s (h.mp hp)]
  · rw [Z7t hp,Z7t λ q=>hp (h.mpr q)]
noncomputable def pw2 (xs ys:List AVal) (j:Nat):Bool:=decide (xs[j]? = ys[j]?)
theorem Zoj {xs ys:List AVal} (h:xs.length=ys.length):(List.range ys.length).all (pw2 xs ys)=decide (xs=ys):=by
  rw [Bool.eq_iff_iff,List.all_eq_true,decide_eq_true_iff]
  refine ⟨λ q=>List.ext_getElem? λ i=>?_,λ e j zz=>e▸Z7s rfl⟩
  by_cases hi:i < ys.length
  · exact of_decide_eq_true (q i (List.mem_range.mpr hi))
  · rw [List.getElem?_eq_none (h▸Nat.not_lt.mp hi),List.getElem?_eq_none (Nat.not_lt.mp hi)]
theorem Z06 {xs ys:List AVal}:((List.range (min xs.length ys.length)).all (pw2 xs ys)&&xs.length==ys.length)=decide (xs=ys):=by
  by_cases h:xs.length=ys.length
  · rw [h,Nat.min_self,Z7x,Bool.and_true,Zoj h]
  · rw [Z7v.mpr h,Bool.and_false,Z7t λ e=>h (Z7r _ e)]
structure Cmp3 (s:Shared) (A:Around) (v u:Value) (b:Bool):Prop where
  rc:RcAt A s v u b
  ne:RcNeAt A s v u (!b)
  eq:EqAt A s v u b
theorem Zwp {a b:CS} {x y:AVal} (hx:x=.str a) (hy:y=.str b):(st a==st b)=decide (x=y):=by
  rw [hx,hy]
  by_cases h:a=b
  · rw [h,Z7x,Z7s rfl]
  · rw [Z7v.mpr λ e=>h (Zpy e),Z7t λ e=>h (by injection e)]
theorem Zvl {a:Addr} {xs ys:List AVal} {o o':Obj} (h:W a=.imm o (some (.tup xs))) (h':W a=.imm o' (some (.tup ys))):xs=ys:=by
  have e:=h.symm.trans h'
  injection e with _ e; injection e with e; injection e
theorem Zvm {a:Addr} {xs ys:List AVal} {o o':Obj} (h:W a=.imm o (some (.lst xs))) (h':W a=.imm o' (some (.lst ys))):xs=ys:=by
  have e:=h.symm.trans h'
  injection e with _ e; injection e with e; injection e
theorem Zhp {a c:Addr} {b:Bool} (h:RcAt A s (.ref a) (.ref c) b) (h2:RcNeAt A s (.ref a) (.ref c) (!b)) (hac:a=c→b=true):Cmp3 s A (.ref a) (.ref c) b:=
  ⟨h,h2,Classical.byCases (λ e:a=c=>hac e▸e▸EqAt.same _) λ e=>EqAt.of_refs e h⟩
section
variable {a c:Addr} {vs us:Array Value} {xs ys:List AVal}
theorem Zpa {n:Nat} (ih:∀ (i:Nat) x y,xs[i]? = some x→ys[i]? = some y→∀ {A:Around} {v u:Value},VRel W v x→VRel W u y→A.units+n < cLine→Cmp3 s A v u (decide (x=y))) (hr:VRels W vs.toList xs) (hr':VRels W us.toList ys) (hA:A.in1.units+n < cLine) (j:Nat) (h1:j < vs.size) (h2:j < us.size):
    EqAt A.in1 s vs[j] us[j] (pw2 xs ys j):=by
  obtain ⟨x,hx,hvx⟩:=hr.get' (i:=j) (a:=vs[j]) (by rw [Z7i,Z7j h1])
  obtain ⟨y,hy,huy⟩:=hr'.get' (i:=j) (a:=us[j]) (by rw [Z7i,Z7j h2])
  have e:pw2 xs ys j=decide (x=y):=Zbs (by rw [hx,hy]; exact ⟨Z7g,Z7r some⟩)
  rw [e]; exact (ih j x y hx hy hvx huy hA).eq
theorem Zws (ha:PlTup s.heap a vs) (hc:PlTup s.heap c us) (hr:VRels W vs.toList xs) (hr':VRels W us.toList ys) (hA:A.units < cLine) (he:∀ j (h1:j < vs.size) (h2:j < us.size),EqAt A.in1 s vs[j] us[j] (pw2 xs ys j)) (hac:a=c→xs=ys):Cmp3 s A (.ref a) (.ref c) (decide (xs=ys)):=by
  have:=Z06 (xs:=xs) (ys:=ys)
  rw [← hr.size,← hr'.size] at this
  exact Zhp (this▸RcAt.tuples ha.isTuple hc.isTuple hA he) (this▸RcNeAt.tuples ha.isTuple hc.isTuple hA he) λ e=>Z7s (hac e)
theorem Zwt (ha:s.heap.PlainList a vs) (hc:s.heap.PlainList c us) (hr:VRels W vs.toList xs) (hr':VRels W us.toList ys) (hA:A.units < cLine) (he:xs.length=ys.length→∀ j (h1:j < vs.size) (h2:j < us.size),EqAt A.in1 s vs[j] us[j] (pw2 xs ys j)) (hac:a=c→xs=ys):Cmp3 s A (.ref a) (.ref c) (decide (xs=ys)):=by
  by_cases hl:xs.length=ys.length
  · have h2:vs.size=us.size:=hr.size.trans (hl.trans hr'.size.symm)
    have:=Zoj hl
    rw [← hr'.size,← h2] at this
    exact Zhp (this▸RcAt.lists ha.isList hc.isList h2 hA (he hl)) (this▸RcNeAt.lists ha.isList hc.isList h2 hA (he hl)) λ e=>Z7s (hac e)
  · have:(vs.size != us.size)=true:=bne_iff_ne.mpr (by rw [hr.size,hr'.size]; exact hl)
    rw [Z7t λ e=>hl (Z7r _ e)]
    exact Zhp (RcAt.lists_lengths ha.isList hc.isList this hA) (RcNeAt.lists_lengths ha.isList hc.isList this hA) λ e=>absurd (Z7r _ (hac e)) hl
end
theorem Zwo {xs ys:List AVal}:decide (AVal.tup xs=.tup ys)=decide (xs=ys):=Zbs ⟨λ e=>by injection e,Z7r _⟩
theorem Z19 {xs ys:List AVal}:decide (AVal.lst xs=.lst ys)=decide (xs=ys):=Zbs ⟨λ e=>by injection e,Z7r _⟩
theorem add1 {A:Around} {n k:Nat} (h:A.units+(n+1) < k):A.units < k∧A.in1.units+n < k:=by rw [Around.in1_units]; lia
theorem cmp3 (I:Inv X W σ s) {n:Nat} {x y:AVal} (e:Cmpb n x y):∀ {A:Around} {v u:Value},VRel W v x→VRel W u y→A.units+n < cLine→Cmp3 s A v u (decide (x=y)):=by
  induction e with
  | none=>intro A v u hv hu zz; rw [Z7s rfl]; exact hv.none_e (hu.none_e ⟨.none_none,.none_none,.same _⟩)
  | bool n a b=>
    intro A v u hv hu zz
    have:(a==b)=decide (AVal.bool a=.bool b):=Bool.eq_iff_iff.mpr (beq_iff_eq.trans (⟨Z7r _,λ e=>by injection e⟩:a=b↔AVal.bool a=.bool b) |>.trans decide_eq_true_iff.symm)
    rw [← this]; exact hv.bool_e (hu.bool_e ⟨.bool_bool _ _,.bool_bool _ _,.bool_bool _ _⟩)
  | int n a b=>
    intro A v u hv hu zz
    have:(a==b)=decide (AVal.int a=.int b):=Bool.eq_iff_iff.mpr (beq_iff_eq.trans (⟨Z7r _,λ e=>by injection e⟩:a=b↔AVal.int a=.int b) |>.trans decide_eq_true_iff.symm)
    rw [← this]; exact hv.int_e λ t=>hu.int_e λ t'=>⟨.int_int _ _ _ _,.int_int _ _ _ _,.int_int _ _ _ _⟩
  | str n a b=>
    intro A v u hv hu zz
    rw [← Zwp rfl rfl]; exact hv.str_e λ t=>hu.str_e λ t'=>⟨.str_str _ _ _ _,.str_str _ _ _ _,.str_str _ _ _ _⟩
  | tup h ih=>
    intro A v u hv hu hA
    obtain ⟨a,rfl,o,ha⟩:=id hv
    obtain ⟨c,rfl,o',hc⟩:=id hu
    obtain ⟨zz,q,vs,h1,hr⟩:=I.tup hv
    obtain ⟨zz,q',us,h2,hr'⟩:=I.tup hu
    rw [← Zah q] at h1; rw [← Zah q'] at h2
    rw [Zwo]
    exact Zws h1 h2 hr hr' (add1 hA).1 (Zpa ih hr hr' (add1 hA).2) λ e=>Zvl ha (e▸hc)
  | lst h ih=>
    intro A v u hv hu hA
    obtain ⟨a,rfl,o,ha⟩:=id hv
    obtain ⟨c,rfl,o',hc⟩:=id hu
    obtain ⟨zz,q,vs,h1,hr⟩:=I.lst hv
    obtain ⟨zz,q',us,h2,hr'⟩:=I.lst hu
    rw [← Zah q] at h1; rw [← Zah q'] at h2
    rw [Z19]
    exact Zwt h1 h2 hr hr' (add1 hA).1 (λ hl=>Zpa (ih hl) hr hr' (add1 hA).2) λ e=>Zvm ha (e▸hc)
theorem Zre (I:Inv X W σ s) {x y:AVal} {xs ys:List AVal} (hx:LOf σ x xs) (hy:LOf σ y ys) {n:Nat} (h:xs.length=ys.length→∀ (i:Nat) a b,xs[i]? = some a→ys[i]? = some b→Cmpb n a b) {v u:Value} (hv:VRel W v x) (hu:VRel W u y) (hA:A.units+(n+1) < cLine):
    RcAt A s v u (decide (xs=ys))∧RcNeAt A s v u (!decide (xs=ys)):=by
  obtain ⟨a,rfl,vs,h1,hr⟩:=I.listOf hv hx
  obtain ⟨c,rfl,us,h2,hr'⟩:=I.listOf hu hy
  have he:=λ hl=>Zpa (A:=A) (n:=n) (λ i a b ha hb=>cmp3 I (h hl i a b ha hb)) hr hr' (add1 hA).2
  by_cases hl:xs.length=ys.length
  · have h3:vs.size=us.size:=hr.size.trans (hl.trans hr'.size.symm)
    have:=Zoj hl
    rw [← hr'.size,← h3] at this
    rw [← this]
    exact ⟨RcAt.lists h1.isList h2.isList h3 (add1 hA).1 (he hl),RcNeAt.lists h1.isList h2.isList h3 (add1 hA).1 (he hl)⟩
  · have:(vs.size != us.size)=true:=bne_iff_ne.mpr (by rw [hr.size,hr'.size]; exact hl)
    rw [Z7t λ e=>hl (Z7r _ e)]
    exact ⟨RcAt.lists_lengths h1.isList h2.isList this (add1 hA).1,RcNeAt.lists_lengths h1.isList h2.isList this (add1 hA).1⟩
end PL
end
section
open PySem PySem.W PyProof.Rows PySem.SeqAt
namespace PL
section
variable {α β γ δ:Type} {R:α→β→Prop} {as:List α} {bs:List β}
theorem F2.both {T:β→Prop} (x:F2 R as bs) (h:∀ b∈bs,T b):F2 (λ a b=>R a b∧T b) as bs:=
  @F2.ind α β R (λ as bs=>(∀ b∈bs,T b)→F2 (λ a b=>R a b∧T b) as bs) (λ zz=>trivial) (λ a as b bs r zz ih h=>⟨⟨r,h b Z66⟩,ih λ c hc=>h c (Z67 _ hc)⟩) as bs x h
theorem F2.left {T:α→Prop} (x:F2 R as bs) (h:∀ a∈as,T a):F2 (λ a b=>T a∧R a b) as bs:=
  @F2.ind α β R (λ as bs=>(∀ b∈as,T b)→F2 (λ a b=>T a∧R a b) as bs) (λ zz=>trivial) (λ a as b bs r zz ih h=>⟨⟨h a Z66,r⟩,ih λ c hc=>h c (Z67 _ hc)⟩) as bs x h
theorem F2.comp {S:β→γ→Prop} (x:F2 R as bs):∀ {cs:List γ},F2 S bs cs→F2 (λ a c=>∃ b,R a b∧S b c) as cs:=
  @F2.ind α β R (λ as bs=>∀ {cs:List γ},F2 S bs cs→F2 (λ a c=>∃ b,R a b∧S b c) as cs) (λ {cs}=>@List.casesOn γ (λ cs=>F2 S [] cs→F2 (λ a c=>∃ b,R a b∧S b c) [] cs) cs (λ zz=>trivial) λ zz zz h=>h.elim)
    (λ a as b bs r _ ih {cs}=>@List.casesOn γ (λ cs=>F2 S (b::bs) cs→F2 (λ a c=>∃ b,R a b∧S b c) (a::as) cs) cs (λ h=>h.elim) λ c cs h=>⟨⟨b,r,h.1⟩,ih h.2⟩) as bs x
theorem F2.map {S:γ→δ→Prop} {f:α→γ} {g:β→δ} (h:∀ a b,R a b→S (f a) (g b)) (x:F2 R as bs):F2 S (as.map f) (bs.map g):=@F2.ind α β R (λ as bs=>F2 S (as.map f) (bs.map g)) trivial (λ a zz b zz r zz ih=>⟨h a b r,ih⟩) as bs x
theorem F2.mapEq {f:α→γ} {g:β→γ} (h:∀ a b,R a b→f a=g b) (x:F2 R as bs):as.map f=bs.map g:=@F2.ind α β R (λ as bs=>as.map f=bs.map g) rfl (λ a as b bs r zz ih=>by rw [Z7e,Z7e,h a b r,ih]) as bs x
theorem F2.filter {p:α→Bool} {q:β→Bool} (h:∀ a b,R a b→p a=q b) (x:F2 R as bs):F2 R (as.filter p) (bs.filter q):=
  @F2.ind α β R (λ as bs=>F2 R (as.filter p) (bs.filter q)) trivial (λ a as b bs r zz ih=>by
    rw [List.filter_cons,List.filter_cons,h a b r]
    cases q b
    · exact ih
    · exact ⟨r,ih⟩) as bs x
def OR (R:α→β→Prop) (o:Option α) (o':Option β):Prop:=@Option.casesOn β (λ zz=>Prop) o' (o=none) λ b=>∃ a,o=some a∧R a b
theorem OR.get {o:Option α} {o':Option β} (x:OR R o o') {b:β} (e:o'=some b):∃ a,o=some a∧R a b:=(e▸x:OR R o (some b))
theorem OR.no {o:Option α} {o':Option β} (x:OR R o o') (e:o'=none):o=none:=(e▸x:OR R o none)
theorem OR.some {o:Option α} {o':Option β} (x:OR R o o'):o.isSome=o'.isSome:=@Option.casesOn β (λ o'=>OR R o o'→o.isSome=o'.isSome) o' (λ h=>Z7r Option.isSome h) (λ b ⟨a,h,_⟩=>Z7r Option.isSome h) x
theorem OR.map {S:γ→δ→Prop} {f:α→γ} {g:β→δ} {o:Option α} {o':Option β} (h:∀ a b,R a b→S (f a) (g b)) (x:OR R o o'):OR S (o.map f) (o'.map g):=
  @Option.casesOn β (λ o'=>OR R o o'→OR S (o.map f) (o'.map g)) o' (λ (e:o=none)=>e▸rfl) (λ b (e:∃ a,o=Option.some a∧R a b)=>e.elim λ a e=>⟨f a,Z7r (Option.map f) e.1,h a b e.2⟩) x
theorem F2.find {p:α→Bool} {q:β→Bool} (h:∀ a b,R a b→p a=q b) (x:F2 R as bs):OR R (as.find? p) (bs.find? q):=
  @F2.ind α β R (λ as bs=>OR R (as.find? p) (bs.find? q)) rfl (λ a as b bs r zz ih=>by
    rw [List.find?_cons,List.find?_cons,h a b r]
    cases q b
    · exact ih
    · exact ⟨a,rfl,r⟩) as bs x
theorem F2.any {p:α→Bool} {q:β→Bool} (h:∀ a b,R a b→p a=q b) (x:F2 R as bs):as.any p=bs.any q:=@F2.ind α β R (λ as bs=>as.any p=bs.any q) rfl (λ a as b bs r zz ih=>by rw [List.any_cons,List.any_cons,h a b r,ih]) as bs x
end
def FlatP (k:AVal) (v:Value):Prop:=@AVal.casesOn (λ zz=>Prop) k False (λ zz=>False) (λ i=>∃ t,v=.int i t) (λ c=>∃ t,v=.str (st c) t) (λ zz=>False) (λ zz=>False) (λ zz=>False)
noncomputable def Zgy (k:AVal) (v:Value):Bool:=@decide (FlatP k v) (Classical.propDecidable _)
theorem Z8 {k:AVal} {v:Value} (h:Zgy k v=true):FlatP k v:=@of_decide_eq_true _ (Classical.propDecidable _) h
theorem FlatP.is {k:AVal} {v:Value} (h:FlatP k v):Zgy k v=true:=@decide_eq_true _ (Classical.propDecidable _) h
theorem FlatP.cases {k:AVal} {v:Value} {C:AVal→Value→Prop} (h:FlatP k v) (h1:∀ i t,C (.int i) (.int i t)) (h2:∀ c t,C (.str c) (.str (st c) t)):C k v:=
  @AVal.casesOn (λ k=>FlatP k v→C k v) k (λ h=>h.elim) (λ zz h=>h.elim) (λ i h=>h.elim λ t e=>e▸h1 i t) (λ c h=>h.elim λ t e=>e▸h2 c t) (λ zz h=>h.elim) (λ zz h=>h.elim) (λ zz h=>h.elim) h
theorem Zvh {i j:Int} {t u:Tok} (e:Value.int i t=.int j u):i=j:=by injection e
theorem Zn1 {i j:Str} {t u:Tok} (e:Value.str i t=.str j u):i=j:=by injection e
theorem Zq7 {v:Value} {a b:AVal} (ha:FlatP a v):FlatP b v→a=b:=
  FlatP.cases (C:=λ a v=>FlatP b v→a=b) ha
    (λ i t=>@AVal.casesOn (λ b=>FlatP b (.int i t)→AVal.int i=b) b (λ h=>h.elim) (λ zz h=>h.elim) (λ j h=>h.elim λ u e=>Z7r _ (Zvh e)) (λ c h=>h.elim λ u e=>nomatch e) (λ zz h=>h.elim) (λ zz h=>h.elim) (λ zz h=>h.elim))
    (λ c t=>@AVal.casesOn (λ b=>FlatP b (.str (st c) t)→AVal.str c=b) b (λ h=>h.elim) (λ zz h=>h.elim) (λ j h=>h.elim λ u e=>nomatch e) (λ d h=>h.elim λ u e=>Z7r _ (Zpy (Zn1 e))) (λ zz h=>h.elim) (λ zz h=>h.elim) (λ zz h=>h.elim))
theorem Z1x {A:Around} {s:Shared} {u v:Value} {a b:AVal} (ha:FlatP a u) (hb:FlatP b v):EqAt A s u v (decide (a=b)):=
  FlatP.cases (C:=λ a u=>EqAt A s u v (decide (a=b))) ha
    (λ i t=>FlatP.cases (C:=λ b v=>EqAt A s (.int i t) v (decide (.int i=b))) hb
      (λ j t'=>(Bool.eq_iff_iff.mpr (beq_iff_eq.trans (⟨Z7r _,λ e=>by injection e⟩:i=j↔AVal.int i=.int j) |>.trans decide_eq_true_iff.symm):(i==j)=_)▸EqAt.int_int _ _ _ _)
      (λ c t'=>Z7t (p:=AVal.int i=.str c) (λ e=>nomatch e)▸EqAt.int_str _ _ _ _))
    (λ c t=>FlatP.cases (C:=λ b v=>EqAt A s (.str (st c) t) v (decide (.str c=b))) hb
      (λ j t'=>Z7t (p:=AVal.str c=.int j) (λ e=>nomatch e)▸EqAt.str_int _ _ _ _)
      (λ d t'=>Zwp rfl rfl▸EqAt.str_str _ _ _ _))
theorem Zvv (k:AVal) (x:Str) (t:Tok) (v:Value) (h:Zgy k (.str x t)=true):Zgy k v=v.isStr x:=by
  have key:∃ c,k=.str c∧x=st c:=@AVal.casesOn (λ k=>FlatP k (.str x t)→∃ c,k=.str c∧x=st c) k (λ h=>h.elim) (λ zz h=>h.elim) (λ i h=>h.elim λ t e=>nomatch e) (λ c h=>h.elim λ t e=>⟨c,rfl,Zn1 e⟩) (λ zz h=>h.elim) (λ zz h=>h.elim) (λ zz h=>h.elim) (Z8 h)
  obtain ⟨c,rfl,rfl⟩:=key
  refine Bool.eq_iff_iff.mpr ⟨λ q=>(Z8 q:∃ t,v=.str (st c) t).elim λ u e=>e▸Z7x (st c),λ q=>FlatP.is ?_⟩
  show ∃ t,v=.str (st c) t
  cases v with
  | str y u=>exact ⟨u,Z7r (Value.str · u) (Z7u q)⟩
  | _=>exact nomatch q
noncomputable def Zdr (prog:Program) (w:World):KeyKind prog w AVal where
  is:=Zgy
  hash:=Zfn w
  inj:=λ v a b ha hb=>Zq7 (Z8 ha) (Z8 hb)
  byValue:=λ k v h=>FlatP.cases (C:=λ zz v=>carriedByValue v=true) (Z8 h) (λ zz zz=>rfl) λ zz zz=>rfl
  pyHash:=λ {A E s k v Q} h hq=>FlatP.cases (C:=λ k v=>Q (Zfn w k) { s with toks:=s.toks+1 }→wpAny (model prog w) A (PySem.pyHash v) Q E s) (Z8 h) (λ i t hq=>(intKind prog w).pyHash (k:=i) (by rw [intKind]; exact Z7x i) hq) (λ c t hq=>wpAny_pyHash_str hq) hq
  eqBool:=λ {A E s a b u v Q} ha hb hq=>Z1x (Z8 ha) (Z8 hb) prog w E Q hq
  «strs»:=Zvv
variable {X:Cx} {W:Wd} {σ:St} {s:Shared} {A:Around} {E:Value→Shared→Prop} {Q:Value→Shared→Prop}
theorem Zy3 {v:Value} {k:AVal} (h:FlatP k v):VRel W v k:=FlatP.cases (C:=λ k v=>VRel W v k) h VRel.ints VRel.strs
theorem Y5 {v:Value} {k:AVal} (h:VRel W v k) (hk:k.flat=true):Zgy k v=true:=
  @AVal.casesOn (λ k=>VRel W v k→k.flat=true→Zgy k v=true) k (λ zz h=>nomatch h) (λ zz zz h=>nomatch h) (λ i h zz=>FlatP.is (k:=.int i) h) (λ c h zz=>FlatP.is (k:=.str c) h) (λ zz zz h=>nomatch h) (λ zz zz h=>nomatch h) (λ zz zz h=>nomatch h) h hk
theorem Zvw {v:Value} {k:AVal} (h:FlatP k v):k.flat=true:=FlatP.cases (C:=λ k zz=>k.flat=true) h (λ zz zz=>rfl) λ zz zz=>rfl
theorem Zdq {v:Value} {k:AVal} {w:World} (h:FlatP k v):Zfn w k=Yd w k:=FlatP.cases (C:=λ k zz=>Zfn w k=Yd w k) h (λ zz zz=>rfl) λ zz zz=>rfl
theorem Zsq {prog:Program} {w:World} {vs:List Value} {ks:List AVal} (h:VRels W vs ks) (hk:ks.all AVal.flat=true):ItemsAre (Zdr prog w) ks vs:=
  F2.ind (P:=λ vs ks=>ItemsAre (Zdr prog w) ks vs) .nil (λ v vs k ks r zz ih=>.cons (Y5 r.1 r.2) ih) (F2.both h (List.all_eq_true.mp hk))
theorem Zsl {prog:Program} {w:World} {ks:List AVal} {vs:List Value} (h:ItemsAre (Zdr prog w) ks vs):ks.all AVal.flat=true:=by
  induction h with
  | nil=>rfl
  | cons h1 _ ih=>rw [List.all_cons,ih,Zvw (Z8 h1)]; rfl
noncomputable abbrev tupK (X:Cx):HeapKind pp X.w (List AVal):=tupleKind (Zdr pp X.w)
noncomputable abbrev flK (X:Cx):KeyKind pp X.w AVal:=Zdr pp X.w
theorem Zc6 (I:Inv X W σ s) {v:Value} {ks:List AVal} (h:VRel W v (.tup ks)) (hk:ks.all AVal.flat=true):∃ a,v=.ref a∧(tupK X).is s.heap ks a:=by
  obtain ⟨a,e,vs,⟨n,ha⟩,hr⟩:=I.tup h
  exact ⟨a,e,_,vs,n,ha,rfl,rfl,Zsq hr hk⟩
theorem Jd {k:AVal} (h:k.isKey=true) (ht:k.isTup=false):k.flat=true:=
  @AVal.casesOn (λ k=>k.isKey=true→k.isTup=false→k.flat=true) k (λ h=>nomatch h) (λ zz h=>nomatch h) (λ zz zz zz=>rfl) (λ zz zz zz=>rfl) (λ zz zz h=>nomatch h) (λ zz h=>nomatch h) (λ zz h=>nomatch h) h ht
theorem Ji {k:AVal} (h:k.isKey=true) (ht:k.isTup=true):∃ ks,k=.tup ks∧ks.all AVal.flat=true:=
  @AVal.casesOn (λ k=>k.isKey=true→k.isTup=true→∃ ks,k=.tup ks∧ks.all AVal.flat=true) k (λ zz h=>nomatch h) (λ zz zz h=>nomatch h) (λ zz zz h=>nomatch h) (λ zz zz h=>nomatch h) (λ ks h zz=>⟨ks,rfl,h⟩) (λ zz zz h=>nomatch h) (λ zz zz h=>nomatch h) h ht
structure RF (W:Wd) (kv:AVal×Value) (p:AVal×AVal):Prop where
  key:kv.1=p.1
  val:VRel W kv.2 p.2
theorem Z0n {a b c:AVal} (h:a=b):decide (a=c)=decide (b=c):=by rw [h]
theorem RF.get {kvs:List (AVal×Value)} {es:List (AVal×AVal)} (h:F2 (RF W) kvs es) (k:AVal):OR (VRel W) (valueAt kvs k) (kget es k):=(F2.find (λ a b (r:RF W a b)=>Z0n (c:=k) r.key) h).map λ a b r=>r.val
theorem Zyo (es:List (AVal×AVal)) (k:AVal):(kget es k).isSome=es.any λ e=>decide (e.1=k):=by
  unfold kget; rw [Option.isSome_map,List.isSome_find?]
theorem RF.stored {kvs:List (AVal×Value)} {es:List (AVal×AVal)} (h:F2 (RF W) kvs es) (k:AVal) {u:Value} {v:AVal} (hv:VRel W u v):F2 (RF W) (stored kvs k u) (kset es k v):=by
  unfold PySem.stored kset
  rw [Zyo,F2.any (λ a b (r:RF W a b)=>Z0n (c:=k) r.key) h]
  split
  · refine F2.map (λ a b r=>?_) h
    rw [r.key]
    split
    · exact ⟨rfl,hv⟩
    · exact r
  · exact h.append ⟨⟨rfl,hv⟩,trivial⟩
theorem RF.without {kvs:List (AVal×Value)} {es:List (AVal×AVal)} (k:AVal) (h:F2 (RF W) kvs es):F2 (RF W) (without kvs k) (kdel es k):=
  F2.filter (λ a b r=>by rw [r.key,decide_not]) h
theorem Z18 {a:Addr} {es:List (AVal×AVal)} {h:Heap} (O:DctR X W h a es) (hk:∀ p∈es,p.1.isTup=false):∃ kvs,h.DictOf (flK X) a kvs∧F2 (RF W) kvs es:=by
  obtain ⟨o,des,ep,ho,hx,hd,hr⟩:=O.obj
  obtain ⟨kvs,i1,i2,i3⟩:=F2.ind (P:=λ ds es=>∃ kvs,Pairs (flK X) ds kvs∧F2 (RF W) kvs es∧∀ e∈ds,∃ k,(flK X).is k e.key=true∧e.hash=(flK X).hash k) ⟨[],.nil,trivial,λ zz h=>nomatch h⟩
    (λ e ds p es r zz ih=>by
      obtain ⟨kvs,i1,i2,i3⟩:=ih
      have hi:=Y5 r.1.key r.2
      exact ⟨(p.1,e.val)::kvs,.cons hi rfl i1,⟨⟨rfl,r.1.val⟩,i2⟩,λ e' he'=>(Z7a.mp he').elim (λ q=>⟨p.1,q▸hi,q▸r.1.hash.trans (Zdq (Z8 hi)).symm⟩) (i3 e')⟩)
    (F2.both hr λ p hp=>Jd (O.keys p hp) (hk p hp))
  exact ⟨kvs,⟨o,des,ep,ho,hx,hd,λ e he=>i3 e (Array.mem_toList_iff.mpr he),i1,by rw [F2.mapEq (λ a b (r:RF W a b)=>r.key) i2]; exact O.nodup⟩,i2⟩
theorem Zyc {knd:KeyKind pp X.w AVal} {ds:List DictEntry} {kvs:List (AVal×Value)} (h:Pairs knd ds kvs):F2 (λ e kv=>knd.is kv.1 e.key=true∧e.val=kv.2) ds kvs:=by
  induction h with
  | nil=>trivial
  | cons h1 h2 _ ih=>exact ⟨⟨h1,h2⟩,ih⟩
theorem ofF {a:Addr} {es:List (AVal×AVal)} {h:Heap} {kvs:List (AVal×Value)} (D:h.DictOf (flK X) a kvs) (R:F2 (RF W) kvs es) (ha:a≠sysModules):DctR X W h a es:=by
  obtain ⟨o,des,ep,ho,hx,hd,hk,hp,hn⟩:=D
  have key:=F2.comp (F2.left (Zyc hp) λ e he=>hk e (Array.mem_toList_iff.mp he)) R
  refine ⟨⟨o,des,ep,ho,hx,hd,F2.mono (λ e p r=>?_) key⟩,by rw [← F2.mapEq (λ a b (r:RF W a b)=>r.key) R]; exact hn,λ p hp=>?_,ha⟩
  · obtain ⟨kv,⟨⟨k,k1,k2⟩,h1,h2⟩,r⟩:=r
    have e1:=(flK X).inj _ _ _ k1 h1
    exact ⟨r.key▸Zy3 (Z8 h1),h2▸r.val,by rw [k2,e1,← r.key]; exact Zdq (Z8 h1)⟩
  · obtain ⟨e,zz,kv,⟨zz,h1,zz⟩,r⟩:=key.mem_right hp
    rw [← r.key]
    exact FlatP.cases (C:=λ k zz=>k.isKey=true) (Z8 h1) (λ zz zz=>rfl) λ zz zz=>rfl
structure RH (W:Wd) (x:List AVal×Addr×Value) (p:AVal×AVal):Prop where
  key:p.1=.tup x.1
  adr:VRel W (.ref x.2.1) p.1
  val:VRel W x.2.2 p.2
theorem Zmb:∀ {l:List (List AVal)},(l.map AVal.tup).Nodup→l.Nodup
  | [],_=>.nil
  | a::l,h=>Z7y.mpr ⟨λ q=>(Z7y.mp h).1 (Z7b.mpr ⟨a,q,rfl⟩),Zmb (Z7y.mp h).2⟩
theorem Zlq:∀ {l:List (List AVal)},l.Nodup→(l.map AVal.tup).Nodup
  | [],_=>.nil
  | a::l,h=>Z7y.mpr ⟨λ q=>(Z7b.mp q).elim λ b e=>(Z7y.mp h).1 ((by injection e.2:b=a)▸e.1),Zlq (Z7y.mp h).2⟩
theorem RH.keys {xs:List (List AVal×Addr×Value)} {es:List (AVal×AVal)} (h:F2 (RH W) xs es):(xs.map (·.1)).map AVal.tup=es.map (·.1):=by rw [List.map_map]; exact F2.mapEq (λ a b r=>r.key.symm) h
theorem Zzg (I:Inv X W σ s) {a:Addr} {es:List (AVal×AVal)} (O:DctR X W s.heap a es) (hk:∀ p∈es,p.1.isTup=true):∃ xs,s.heap.DictOfH (tupK X) a xs∧F2 (RH W) xs es:=by
  obtain ⟨o,des,ep,ho,hx,hd,hr⟩:=O.obj
  obtain ⟨xs,i1,i2,i3⟩:=F2.ind (P:=λ ds es=>∃ xs:List (List AVal×Addr×Value),ds=xs.map (entryOfKey (tupK X))∧F2 (RH W) xs es∧∀ x∈xs,(tupK X).is s.heap x.1 x.2.1) ⟨[],rfl,trivial,λ zz h=>nomatch h⟩
    (λ e ds p es r zz ih=>by
      obtain ⟨xs,i1,i2,i3⟩:=ih
      obtain ⟨ks,hp,hf⟩:=r.2
      obtain ⟨b,hb,hbi⟩:=Zc6 I (hp▸r.1.key) hf
      refine ⟨(ks,b,e.val)::xs,?_,⟨⟨hp,hb▸r.1.key,r.1.val⟩,i2⟩,λ x hx=>(Z7a.mp hx).elim (λ q=>q▸hbi) (i3 x)⟩
      have hh:e.hash=(tupK X).hash ks:=r.1.hash.trans (hp▸rfl)
      rw [Z7e,i1]
      exact Z7r (·::_) (show e=⟨(tupK X).hash ks,.ref b,e.val⟩ from hh▸hb▸rfl))
    (F2.both hr λ p hp=>Ji (O.keys p hp) (hk p hp))
  exact ⟨xs,⟨o,des,ep,ho,hx,hd,i1,i3,Zmb (RH.keys i2▸O.nodup)⟩,i2⟩
theorem ofH {a:Addr} {es:List (AVal×AVal)} {h:Heap} {xs:List (List AVal×Addr×Value)} (D:h.DictOfH (tupK X) a xs) (R:F2 (RH W) xs es) (ha:a≠sysModules):DctR X W h a es:=by
  obtain ⟨o,des,ep,ho,hx,hd,he,his,hn⟩:=D
  refine ⟨⟨o,des,ep,ho,hx,hd,he▸?_⟩,RH.keys R▸Zlq hn,λ p hp=>?_,ha⟩
  · have:=F2.map (S:=EntR X W) (f:=entryOfKey (tupK X)) (g:=id) (λ x p r=>⟨r.adr,r.val,by rw [id,r.key]; rfl⟩) R
    rwa [List.map_id] at this
  · obtain ⟨x,hx1,r⟩:=R.mem_right hp
    obtain ⟨zz,items,n,zz,zz,zz,hit⟩:=his x hx1
    rw [r.key]
    exact Zsl hit
theorem Z0u {a b:AVal} {ks k':List AVal} (h:a=.tup ks):decide (ks=k')=decide (a=.tup k'):=by rw [h,Zwo]
theorem RH.get {xs:List (List AVal×Addr×Value)} {es:List (AVal×AVal)} (h:F2 (RH W) xs es) (ks:List AVal):OR (λ u v=>VRel W u.2 v) (atKey xs ks) (kget es (.tup ks)):=
  (F2.find (λ a b (r:RH W a b)=>Z0u (b:=b.1) (k':=ks) r.key) h).map λ a b r=>r.val
theorem RH.stored {xs:List (List AVal×Addr×Value)} {es:List (AVal×AVal)} (h:F2 (RH W) xs es) (ks:List AVal) {b:Addr} (hb:VRel W (.ref b) (.tup ks)) {u:Value} {v:AVal} (hv:VRel W u v):
    F2 (RH W) (storedH xs ks b u) (kset es (.tup ks) v):=by
  unfold storedH kset
  rw [(RH.get h ks).some]
  split
  · refine F2.map (λ a b r=>?_) h
    unfold putAt
    by_cases hk:a.1=ks
    · rw [if_pos hk,if_pos (r.key.trans (Z7r _ hk))]; exact ⟨r.key,r.adr,hv⟩
    · rw [if_neg hk,if_neg λ q=>hk (by have e:=r.key.symm.trans q; injection e)]; exact r
  · exact h.append ⟨⟨rfl,hb,hv⟩,trivial⟩
theorem un1 {A:Around} {n k:Nat} (h:A.units+(n+1) < k):A.units+1 < k:=by lia
theorem DctR.upd (I:Inv X W σ s) {a:Addr} {id:Nat} (hW:W a=.own id) {h':Heap} {tk:Nat} {es:List (AVal×AVal)} (hsb:Heap.SameBut a s.heap h') (O:DctR X W h' a es):Inv X W (σ.put id (.dict es)) { s with heap:=h',toks:=tk }:=
  I.upd hW (.inl hW) hsb (O.obj.elim λ o h=>h.elim λ zz h=>h.elim λ zz h=>⟨o,h.1⟩) O
section
variable {u v c:Value} {id:Nat} {es:List (AVal×AVal)} {k r:AVal}
theorem Z17 (I:Inv X W σ s) (hu:VRel W u (.ref id)) (he:σ.f id=some (.dict es)) (hv:VRel W v k) (hk:Zdn es k) (ht:k.isTup=true) (hA:A.units+30 < cLine)
    (h:Pst X W σ (.bool (kget es k).isSome) Q):wpAny (model pp X.w) A (compareOp .In v u) Q E s:=by
  obtain ⟨a,rfl,hW,O⟩:=I.obj hu he
  obtain ⟨ks,rfl,hf⟩:=Ji hk.key ht
  obtain ⟨xs,D,R⟩:=Zzg I O λ p hp=>(hk.all p hp).trans ht
  obtain ⟨b,rfl,hb⟩:=Zc6 I hv hf
  refine wpAny_in_heap (un1 hA) hb (Z7v.mpr O.sys) D ?_
  rw [(RH.get R ks).some]; exact Pst.mk_boolt I h
theorem Zzf (I:Inv X W σ s) (hu:VRel W u (.ref id)) (he:σ.f id=some (.dict es)) (hv:VRel W v k) (hk:Zdn es k) (hr:kget es k=some r) (hA:A.units+30 < cLine)
    (h:Pst X W σ r Q):wpAny (model pp X.w) A (getItem u v) Q E s:=by
  obtain ⟨a,rfl,hW,O⟩:=I.obj hu he
  cases ht:k.isTup with
  | true=>
    obtain ⟨ks,rfl,hf⟩:=Ji hk.key ht
    obtain ⟨xs,D,R⟩:=Zzg I O λ p hp=>(hk.all p hp).trans ht
    obtain ⟨b,rfl,hb⟩:=Zc6 I hv hf
    obtain ⟨p,hp,hpv⟩:=(RH.get R ks).get hr
    exact wpAny_getItem_heap (un1 hA) hb D hp (h.mkt I hpv)
  | false=>
    obtain ⟨kvs,D,R⟩:=Z18 O λ p hp=>(hk.all p hp).trans ht
    obtain ⟨p,hp,hpv⟩:=(RF.get R k).get hr
    exact wpAny_getItem_of (knd:=flK X) (Y5 hv (Jd hk.key ht)) D.mapOf hp (h.mkt I hpv)
theorem Zzd {QU:Unit→Shared→Prop} (I:Inv X W σ s) (hu:VRel W u (.ref id)) (he:σ.f id=some (.dict es)) (hv:VRel W v k) (hc:VRel W c r) (hk:Zdn es k) (hsz:es.length≤16000) (hA:A.units+30 < cLine)
    (h:∀ s',Inv X W (σ.put id (.dict (kset es k r))) s'→QU () s'):wpAny (model pp X.w) A (setItem u v c) QU E s:=by
  obtain ⟨a,rfl,hW,O⟩:=I.obj hu he
  cases ht:k.isTup with
  | true=>
    obtain ⟨ks,rfl,hf⟩:=Ji hk.key ht
    obtain ⟨xs,D,R⟩:=Zzg I O λ p hp=>(hk.all p hp).trans ht
    obtain ⟨b,rfl,hb⟩:=Zc6 I hv hf
    exact wpAny_setItem_heap (hsz:=R.length▸Z4 hsz) (un1 hA) hb D λ h' D' hsb=>h _ (DctR.upd I hW hsb (ofH D' (RH.stored R ks hv hc) O.sys))
  | false=>
    obtain ⟨kvs,D,R⟩:=Z18 O λ p hp=>(hk.all p hp).trans ht
    exact wpAny_setItem_pairs (knd:=flK X) (hsz:=R.length▸Z4 hsz) (Y5 hv (Jd hk.key ht)) D λ h' D' hsb=>h _ (DctR.upd I hW hsb (ofF D' (RF.stored R k hc) O.sys))
theorem Zze (I:Inv X W σ s) (hu:VRel W u (.ref id)) (he:σ.f id=some (.dict es)) (hv:VRel W v k) (hk:Zdn es k) (ht:k.isTup=false) (hr:kget es k=some r) (hsz:es.length≤16000)
    (h:Pst X W (σ.put id (.dict (kdel es k))) r Q):wpAny (model pp X.w) A (call (.builtin "dict.pop") [u,v]) Q E s:=by
  obtain ⟨a,rfl,hW,O⟩:=I.obj hu he
  obtain ⟨kvs,D,R⟩:=Z18 O λ p hp=>(hk.all p hp).trans ht
  have hi:=Y5 hv (Jd hk.key ht)
  obtain ⟨p,hp,hpv⟩:=(RF.get R k).get hr
  exact call_meetsIn F.slot_dict_pop D.typeIs F.entry_dict_pop (F.args_dict_pop_2 _ _) (meets_dict_pop_there (flK X) a hi [] (.inl rfl) (FlatP.cases (C:=λ zz v=>(keyPart v).isSome=true) (Z8 hi) (λ zz zz=>rfl) λ zz zz=>rfl))
    ⟨kvs,p,D,R.length▸Z4 hsz,hp,λ h' D' hsb=>h W _ _ (LeX.refl [] W) (DctR.upd I hW hsb (ofF D' (RF.without k R) O.sys)) hpv⟩
end
theorem Zup {K V:Type} {xs:List (K×V)} {k:K} {v:V} (hn:(xs.map (·.1)).Nodup) (h:k ∉ xs.map (·.1)):((xs++[(k,v)]).map (·.1)).Nodup:=by
  rw [List.map_append,List.nodup_append]
  exact ⟨hn,Z7y.mpr ⟨List.not_mem_nil,.nil⟩,λ x hx y hy e=>h ((Z7c.mp hy:y=k)▸e▸hx)⟩
theorem Zc1 {prog:Program} {w:World} {K:Type} [DecidableEq K] {knd:HeapKind prog w K} {d a:Addr} {xs:List (K×Addr×Value)} {k:K} {v:Value} {Q:Value→Shared→Prop} (hu:knd.room A) (hkey:knd.is s.heap k a) (hm:s.heap.DictOfH knd d xs)
    (h1:∀ p,atKey xs k=some p→Q p.2 { s with toks:=s.toks+knd.draws k })
    (h2:atKey xs k=none→∀ h',h'.DictOfH knd d (storedH xs k a v)→Heap.SameBut d s.heap h'→Q v { s with heap:=h',toks:=s.toks+knd.draws k })
    (hsz:xs.length≤sizeLine):wpAny (model prog w) A (dictSetDefault d (.ref a) v) Q E s:=by
  obtain ⟨o,es,ep,ho,hc,hd,he,his,hn⟩:=hm
  unfold dictSetDefault
  refine wpAny_holding (Z7p (knd.pyHash hu hkey (Z7p (wpAny_dictFind_heap (s:={ s with toks:=s.toks+knd.draws k }) hu hkey ho hd he his hn ?_ ?_))))
  · intro hno
    have hnone:=atKey_none_of_get hno
    have hnot:k ∉ xs.map (·.1):=not_mem_keys_of_get hno
    refine Z7p (wpAny_rule (Z7p (wpAny_updateDictKeys (hz:=by rw [size_of_entries he]; exact hsz) (s:={ s with toks:=s.toks+knd.draws k }) ho hd (Z7q (h2 hnone _ ⟨_,_,ep+1,Heap.get?_update_self _ ho (Obj.isFreed_of_dict (Obj.data_mapDictKeys hd _)),
      hc.mapDictKeys _,Obj.data_mapDictKeys hd _,?_,?_,?_⟩ (Heap.SameBut.update ..))))))
    · rw [storedH_new hnone,Array.toList_push,he,List.map_append]; rfl
    · rw [storedH_new hnone]
      exact λ x hx=>(List.mem_append.mp hx).elim (λ hx=>knd.keeps (his x hx) ho hd (Heap.SameBut.update ..)) λ hx=>Z7c.mp hx▸knd.keeps hkey ho hd (Heap.SameBut.update ..)
    · rw [storedH_new hnone]
      exact Zup hn hnot
  · intro j p hj
    refine Z7p (wpAny_dictEntries (s:={ s with toks:=s.toks+knd.draws k }) ho hd ?_)
    rw [entry_at he j,hj]
    exact Z7p (wpAny_rule (Z7q (h1 p (atKey_of_get hn hj))))
theorem Zbr (I:Inv X W σ s) {u v c:Value} {id:Nat} {es:List (AVal×AVal)} {k r:AVal} (hu:VRel W u (.ref id)) (he:σ.f id=some (.dict es)) (hv:VRel W v k) (hc:VRel W c r) (hk:Zdn es k) (ht:k.isTup=true) (hsz:es.length≤16000) (hA:A.units+30 < cLine)
    (h1:∀ q,kget es k=some q→Pst X W σ q Q) (h2:kget es k=none→Pst X W (σ.put id (.dict (kset es k r))) r Q):wpAny (model pp X.w) A (call (.builtin "dict.setdefault") [u,v,c]) Q E s:=by
  obtain ⟨a,rfl,hW,O⟩:=I.obj hu he
  obtain ⟨ks,rfl,hf⟩:=Ji hk.key ht
  obtain ⟨xs,D,R⟩:=Zzg I O λ p hp=>(hk.all p hp).trans ht
  obtain ⟨b,rfl,hb⟩:=Zc6 I hv hf
  have hg:=RH.get R ks
  refine wpAny_call_entry F.slot_dict_setdefault D.typeIs F.entry_dict_setdefault (show wpAny (model pp X.w) A.in1 (Builtin.«dict.setdefault» ⟨[.ref a,.ref b,c],[]⟩) _ E s from ?_) (F.args_dict_setdefault_3 _ _ _)
  unfold Builtin.«dict.setdefault»
  refine Z7p ?_
  unfold Builtin.Dict.keyAndDefault
  refine Z7p (wpAny_notOrdered_dict D.typeIs ?_)
  show wpAny _ _ (pure (a,Value.ref b,Option.some c):Sem (Addr×Value×Option Value)) _ _ s
  refine Z7q ?_
  show wpAny _ _ (if (a==sysModules)=true then _ else (dictSetDefault a (.ref b) c >>= _)) _ _ s
  rw [if_neg λ e=>O.sys (Z7u e)]
  refine Z7p (Zc1 (knd:=tupK X) (un1 hA) hb D (λ p hp=>Z7q ⟨p.2,rfl,?_⟩) (λ hn h' D' hsb=>Z7q ⟨c,rfl,?_⟩) (R.length▸Z4 hsz))
  · cases hk2:kget es (.tup ks) with
    | none=>exact nomatch (hg.no hk2).symm.trans hp
    | some q=>exact (hg.get hk2).elim λ p' h=>h1 q hk2 W _ _ (LeX.refl [] W) (I.toks _) ((Z7g (h.1.symm.trans hp))▸h.2)
  · cases hk2:kget es (.tup ks) with
    | some q=>exact (hg.get hk2).elim λ p' h=>nomatch hn.symm.trans h.1
    | none=>exact h2 hk2 W _ _ (LeX.refl [] W) (DctR.upd I hW hsb (ofH D' (RH.stored R ks hv hc) O.sys)) hc
end PL
end
section
open PySem PySem.W PyProof.Rows PySem.SeqAt
namespace PL
variable {X:Cx} {W:Wd} {σ:St} {s:Shared} {A:Around} {E:Value→Shared→Prop} {Q:Value→Shared→Prop}
theorem Cmpb.inj {n:Nat} {x k:AVal} {v:Value} (e:Cmpb n x k) (h:VRel W v x) (h':VRel W v k):x=k:=by
  induction e with
  | none=>rfl
  | bool n a b=>have e:=h.symm.trans h'; injection e with e; rw [e]
  | int n a b=>exact h.elim λ t e=>h'.elim λ u e'=>Z7r _ (Zvh (e.symm.trans e'))
  | str n a b=>exact h.elim λ t e=>h'.elim λ u e'=>Z7r _ (Zpy (Zn1 (e.symm.trans e')))
  | tup=>obtain ⟨a,e,o,q⟩:=h; obtain ⟨a',e',o',q'⟩:=h'; rw [Zah (e.symm.trans e')] at q; rw [Zvl q q']
  | lst=>obtain ⟨a,e,o,q⟩:=h; obtain ⟨a',e',o',q'⟩:=h'; rw [Zah (e.symm.trans e')] at q; rw [Zvm q q']
noncomputable def eqK (W:Wd) (k:AVal) (y:Value):Bool:=@decide (VRel W y k) (Classical.propDecidable _)
theorem Zv8 {n:Nat} {x k:AVal} {y:Value} (c:Cmpb n x k) (h:VRel W y x):eqK W k y=decide (x=k):=
  Classical.byCases (λ e:x=k=>(@decide_eq_true _ (Classical.propDecidable _) (e▸h)).trans (Z7s e).symm) λ e=>(@decide_eq_false _ (Classical.propDecidable _) λ q=>e (c.inj h q)).trans (Z7t e).symm
theorem Zv9 (I:Inv X W σ s) {n:Nat} {vs:Array Value} {xs:List AVal} {u:Value} {k:AVal} (hr:VRels W vs.toList xs) (hu:VRel W u k) (hx:∀ x∈xs,Cmpb n x k) (hA:A.units+(n+1) < cLine):∀ y,y∈vs→EqAt A.in1 s y u (eqK W k y):=λ y hy=>by
  obtain ⟨x,h1,h2⟩:=hr.mem_left (Array.mem_toList_iff.mpr hy)
  rw [Zv8 (hx x h1) h2]
  exact (cmp3 I (hx x h1) h2 hu (add1 hA).2).eq
theorem Zwa {n:Nat} {vs:Array Value} {xs:List AVal} {k:AVal} (hr:VRels W vs.toList xs) (hx:∀ x∈xs,Cmpb n x k):vs.any (eqK W k)=decide (k∈xs):=by
  rw [← Array.any_toList,F2.any (q:=λ x=>decide (x=k)) (λ a b r=>Zv8 r.2 r.1) (F2.both hr hx),Bool.eq_iff_iff,List.any_eq_true,decide_eq_true_iff]
  exact ⟨λ ⟨x,h,e⟩=>of_decide_eq_true e▸h,λ h=>⟨k,h,Z7s rfl⟩⟩
inductive CmpR (σ:St):CmpOp→AVal→AVal→Bool→Prop
  | eq {n:Nat} {x y:AVal} (h:Cmpb n x y) (hn:n≤20):CmpR σ .Eq x y (decide (x=y))
  | ne {n:Nat} {x y:AVal} (h:Cmpb n x y) (hn:n≤20):CmpR σ .NotEq x y (!decide (x=y))
  | eqL {n:Nat} {x y:AVal} {xs ys:List AVal} (hx:LOf σ x xs) (hy:LOf σ y ys) (h:xs.length=ys.length→∀ (i:Nat) a b,xs[i]? = some a→ys[i]? = some b→Cmpb n a b) (hn:n≤20):CmpR σ .Eq x y (decide (xs=ys))
  | neL {n:Nat} {x y:AVal} {xs ys:List AVal} (hx:LOf σ x xs) (hy:LOf σ y ys) (h:xs.length=ys.length→∀ (i:Nat) a b,xs[i]? = some a→ys[i]? = some b→Cmpb n a b) (hn:n≤20):CmpR σ .NotEq x y (!decide (xs=ys))
  | lt (i j:Int):CmpR σ .Lt (.int i) (.int j) (decide (i < j))
  | le (i j:Int):CmpR σ .LtE (.int i) (.int j) (decide (i≤j))
  | gt (i j:Int):CmpR σ .Gt (.int i) (.int j) (decide (i > j))
  | ge (i j:Int):CmpR σ .GtE (.int i) (.int j) (decide (i ≥ j))
  | isN:CmpR σ .Is .none .none true
  | isT (xs:List AVal):CmpR σ .Is (.tup xs) .none false
  | inS (c:Nat) (t:CS):CmpR σ .In (.str [c]) (.str t) (t.contains c)
  | ninS (c:Nat) (t:CS):CmpR σ .NotIn (.str [c]) (.str t) (!t.contains c)
  | inD {id:Nat} {es:List (AVal×AVal)} {k:AVal} (he:σ.f id=some (.dict es)) (hk:Zdn es k) (ht:k.isTup=true):CmpR σ .In k (.ref id) (kget es k).isSome
  | inL {n id:Nat} {xs:List AVal} {k y:AVal} (he:LOf σ y xs) (h:∀ x∈xs,Cmpb n x k) (hn:n≤20):CmpR σ .In k y (decide (k∈xs))
  | ninL {n id:Nat} {xs:List AVal} {k y:AVal} (he:LOf σ y xs) (h:∀ x∈xs,Cmpb n x k) (hn:n≤20):CmpR σ .NotIn k y (!decide (k∈xs))
theorem Zcr {A:Around} {n k m:Nat} (hA:A.units+30 < k) (hn:n≤20):A.units+(n+1) < k∧A.units+n < k:=⟨by lia,by lia⟩
theorem Zq2 (t:CS) (c:Nat):decide (c∈(st t).cps.toList)=t.contains c:=Bool.eq_iff_iff.mpr (decide_eq_true_iff.trans List.contains_iff_mem.symm)
theorem Zjg {op:CmpOp} {x y:AVal} {b:Bool} (e:CmpR σ op x y b) (I:Inv X W σ s) {v u:Value} (hv:VRel W v x) (hu:VRel W u y) (hA:A.units+30 < cLine) (h:Pst X W σ (.bool b) Q):wpAny (model pp X.w) A (compareOp op v u) Q E s:=by
  induction e with
  | eq c hn=>exact (cmp3 I c hv hu (Zcr (m:=0) hA hn).2).rc pp X.w E Q (Pst.mk_bool I h)
  | ne c hn=>exact (cmp3 I c hv hu (Zcr (m:=0) hA hn).2).ne pp X.w E Q (Pst.mk_bool I h)
  | eqL hx hy c hn=>exact (Zre I hx hy c hv hu (Zcr (m:=0) hA hn).1).1 pp X.w E Q (Pst.mk_bool I h)
  | neL hx hy c hn=>exact (Zre I hx hy c hv hu (Zcr (m:=0) hA hn).1).2 pp X.w E Q (Pst.mk_bool I h)
  | lt=>exact hv.int_e λ t=>hu.int_e λ t'=>PyProof.Rows.lt_int (Pst.mk_bool I h)
  | le=>exact hv.int_e λ t=>hu.int_e λ t'=>PyProof.Rows.le_int (Pst.mk_bool I h)
  | gt=>exact hv.int_e λ t=>hu.int_e λ t'=>PyProof.Rows.gt_int (Pst.mk_bool I h)
  | ge=>exact hv.int_e λ t=>hu.int_e λ t'=>PyProof.Rows.ge_int (Pst.mk_bool I h)
  | isN=>exact hv.none_e (hu.none_e (PySem.is_none (Pst.mk_bool I h)))
  | isT xs=>obtain ⟨a,rfl,zz⟩:=hv; exact hu.none_e (PySem.is_none (Pst.mk_bool I h))
  | inS c t=>exact hv.str_e λ t1=>hu.str_e λ t2=>P.in_str (by rw [show st [c]=(⟨#[c]⟩:Str) from rfl,StrLaws.found_one (st t) c,Zq2]; exact Pst.mk_bool I h)
  | ninS c t=>exact hv.str_e λ t1=>hu.str_e λ t2=>P.notIn_str (by rw [show st [c]=(⟨#[c]⟩:Str) from rfl,StrLaws.found_one (st t) c,Zq2]; exact Pst.mk_bool I h)
  | inD he hk ht=>exact Z17 I hu he hv hk ht hA h
  | inL he c hn=>
    obtain ⟨a,rfl,vs,hl,hr⟩:=I.listOf hu he
    exact in_listAt _ hl.isList (Zv9 I hr hv c (Zcr (m:=0) hA hn).1) (by rw [Zwa hr c]; exact Pst.mk_bool I h)
  | ninL he c hn=>
    obtain ⟨a,rfl,vs,hl,hr⟩:=I.listOf hu he
    exact notIn_listAt _ hl.isList (Zv9 I hr hv c (Zcr (m:=0) hA hn).1) (by rw [Zwa hr c]; exact Pst.mk_bool I h)
inductive IdxR (σ:St):AVal→AVal→AVal→Prop
  | tup {xs:List AVal} {k:Nat} {r:AVal} (h:xs[k]? = some r) (hl:xs.length≤16000):IdxR σ (.tup xs) (.int k) r
  | lst {x:AVal} {xs:List AVal} {k:Nat} {r:AVal} (hx:LOf σ x xs) (h:xs[k]? = some r) (hl:xs.length≤16000):IdxR σ x (.int k) r
  | str {t:CS} {k:Nat} {c:Nat} (h:t[k]? = some c) (hl:t.length≤16000):IdxR σ (.str t) (.int k) (.str [c])
  | last {t:CS} {c:Nat} (hl:t.length≤16000):IdxR σ (.str (t++[c])) (.int (-1)) (.str [c])
  | dict {id:Nat} {es:List (AVal×AVal)} {k r:AVal} (he:σ.f id=some (.dict es)) (hk:Zdn es k) (h:kget es k=some r):IdxR σ (.ref id) k r
def Zrj (s:Shared) (v:Value):Prop:=∃ Ty id,s.TypeIs v Ty∧typeLookup (.type Ty) "__getitem__"=pure (some (.builtin id))
theorem Zto {value slice:Expr} {o i:Value} (hT:Zrj s o) (h:wpAny (model pp X.w) A (getItem o i) Q E s):
    wpAny (model pp X.w) A (do let r ← subscripted slice (← getitemInPython o) o i; letTemporaryGo value o r; pure r) Q E s:=by
  obtain ⟨Ty,id,hT,hl⟩:=hT
  refine Z7p ?_
  rw [getitemInPython_of_ne hT.not_modules]
  refine Z7p (wpAny_specialOf hT hl (Z7q (Z7p ?_)))
  have fin:∀ vs,wpAny (model pp X.w) A (operate vs (getItem o i)) (λ r s₃=>wpAny (model pp X.w) A (letTemporaryGo value o r >>= λ zz=>pure r) Q E s₃) E s:=λ vs=>
    wpAny_operating (wpAny_mono h (λ r s₃ h₃=>Z7p (wpAny_letTemporaryGo (Z7q h₃))) λ zz zz x=>x)
  cases slice with
  | Slice a b c p=>cases c with | none=>exact fin _ | some _=>exact fin _
  | _=>exact fin _
theorem Z34 {k n:Nat} (h:k < n) (hn:n≤16000):(decide ((k:Int) < -2 ^ 63) || decide ((k:Int) ≥ 2 ^ 63))=false:=by
  rw [Bool.or_eq_false_iff]; exact ⟨Z7t (by lia),Z7t (by lia)⟩
theorem Z1j {k n:Nat} (h:k < n) (hn:n≤16000):(k:Int) < 2 ^ 63∧-2 ^ 63≤(k:Int)∧(0:Int)≤k:=by lia
theorem Ze2 {k n:Nat} (h:k < n):seqIndex? (k:Int) n=some k:=by
  unfold seqIndex?
  rw [if_neg (Int.not_lt.mpr (Int.natCast_nonneg k)),if_pos (by rw [Bool.and_eq_true]; exact ⟨Z7s (Int.natCast_nonneg k),Z7s (Int.ofNat_lt.mpr h)⟩),Int.toNat_natCast]
theorem Zj4 {n:Nat}:seqIndex? (-1) (n+1)=some n:=by
  unfold seqIndex?
  have e:(-1:Int)+((n+1:Nat):Int)=n:=by lia
  rw [if_pos (show (-1:Int) < 0 by decide),e,if_pos (by rw [Bool.and_eq_true]; exact ⟨Z7s (Int.natCast_nonneg n),Z7s (Int.ofNat_lt.mpr (Z6z n))⟩),Int.toNat_natCast]
theorem Zvp (I:Inv X W σ s) {x r:AVal} {xs:List AVal} {k:Nat} (hx:LOf σ x xs) (h:xs[k]? = some r) (hl:xs.length≤16000) {v:Value} {t:Tok} (hv:VRel W v x) (hq:Pst X W σ r Q):Zrj s v∧wpAny (model pp X.w) A (getItem v (.int k t)) Q E s:=by
  obtain ⟨a,rfl,vs,ha,hr⟩:=I.listOf hv hx
  obtain ⟨w',hw,hwr⟩:=hr.get h
  have b:=Z1j (Z7m.mp h).1 hl
  exact ⟨⟨"list",_,ha.isList.typeIs,F.slot_list_getitem.lookup⟩,wpAny_getItem_list ha.isList b.2.2 b.1 (by rw [← Z7i]; exact hw) (hq.mk I hwr)⟩
theorem Zlw {t:CS} {j:Nat}:(st t).cps[j]? = t[j]?:=List.getElem?_toArray
theorem Z4i {x i r:AVal} (e:IdxR σ x i r) (I:Inv X W σ s) {v u:Value} (hv:VRel W v x) (hu:VRel W u i) (hA:A.units+30 < cLine) (h:Pst X W σ r Q):Zrj s v∧wpAny (model pp X.w) A (getItem v u) Q E s:=by
  induction e with
  | tup e hl=>
    obtain ⟨a,rfl,vs,ha,hr⟩:=I.tup hv
    obtain ⟨t,rfl⟩:=hu
    obtain ⟨w',hw,hwr⟩:=hr.get e
    have hk:=(Z7m.mp e).1
    have b:=Z1j hk hl
    obtain ⟨n,ha'⟩:=ha
    exact ⟨⟨"tuple",_,⟨_,ha',rfl⟩,F.slot_tuple_getitem.lookup⟩,P.getItem_tuple ha' b.2.1 b.1 (by rw [hr.size]; exact Ze2 hk) (by rw [← Z7i]; exact hw) (h.mk I hwr)⟩
  | lst hx e hl=>obtain ⟨t,rfl⟩:=hu; exact Zvp I hx e hl hv h
  | str e hl=>
    obtain ⟨t,rfl⟩:=hv; obtain ⟨t',rfl⟩:=hu
    exact ⟨⟨"str",_,typeIs_str _ _ _,F.slot_str_getitem.lookup⟩,P.getItem_str (Z34 (Z7m.mp e).1 hl) (by rw [Yn,Ze2 (Z7m.mp e).1]; exact Zlw.trans e) (Pst.mk_str (c:=[_]) I h)⟩
  | @last t0 c hl=>
    obtain ⟨t,rfl⟩:=hv; obtain ⟨t',rfl⟩:=hu
    exact ⟨⟨"str",_,typeIs_str _ _ _,F.slot_str_getitem.lookup⟩,P.getItem_str (by decide) (by rw [Yn,Z69]; exact (Z7r (Option.bind · _) (Zj4 (n:=t0.length))).trans (Zlw.trans List.getElem?_concat_length)) (Pst.mk_str (c:=[c]) I h)⟩
  | dict he hk e=>
    refine ⟨?_,Zzf I hv he hu hk e hA h⟩
    obtain ⟨a,rfl,hW,O⟩:=I.obj hv he
    obtain ⟨o,zz,zz,ho,hx,zz⟩:=O.obj
    exact ⟨"dict",_,⟨o,ho,hx.1⟩,F.slot_dict_getitem.lookup⟩
end PL
end
section
open PySem PySem.W PyProof.Rows PySem.SeqAt
namespace PL
variable {X:Cx} {W:Wd} {σ:St} {s:Shared} {A:Around} {E:Value→Shared→Prop} {Q:Value→Shared→Prop}
noncomputable def slcI (n:Nat) (lo hi st:Option Int):List Nat:=sliceRange (sliceBounds lo hi st n).1 (sliceBounds lo hi st n).2.1 (sliceBounds lo hi st n).2.2
noncomputable def optV (o:Option Int):AVal:=@Option.casesOn _ (λ zz=>AVal) o .none λ i=>.int i
inductive SlcR (σ:St):AVal→AVal→AVal→AVal→AVal→Prop
  | str {t:CS} {i:Nat} (hi:i≤t.length) (hl:t.length≤16000):SlcR σ (.str t) .none (.int i) .none (.str (t.take i))
  | tup {xs:List AVal} {i:Nat} (h1:1≤i) (hi:i≤xs.length) (hl:xs.length≤16000):SlcR σ (.tup xs) (.int i) .none .none (.tup (xs.drop i))
  | lst {x:AVal} {xs:List AVal} (hx:LOf σ x xs) (l h t:Option Int) (h0:t≠some 0) (hl:xs.length≤16000):SlcR σ x (optV l) (optV h) (optV t) (.lst ((slcI xs.length l h t).filterMap (xs[·]?)))
theorem IsPart.of {v:Value} {o:Option Int}:VRel W v (optV o)→IsPart v o:=
  @Option.casesOn _ (λ o=>VRel W v (optV o)→IsPart v o) o (λ h=>h.none_e (P:=λ v=>IsPart v none) .none) λ i h=>VRel.int_e (P:=λ v=>IsPart v (some i)) h λ t=>.int i t
theorem F2.pick {R:Value→AVal→Prop} {vs:Array Value} {xs:List AVal} (h:F2 R vs.toList xs):∀ (is:List Nat),F2 R (is.filterMap (vs[·]?)) (is.filterMap (xs[·]?))
  | []=>trivial
  | i::is=>by
    have ih:=F2.pick h is
    rw [List.filterMap_cons,List.filterMap_cons]
    cases hx:xs[i]? with
    | none=>rw [Array.getElem?_eq_none (by rw [h.size]; exact List.getElem?_eq_none_iff.mp hx)]; exact ih
    | some x=>
      obtain ⟨v,hv,hr⟩:=h.get hx
      rw [Z7i] at hv
      rw [hv]; exact ⟨hr,ih⟩
theorem Zir (l:List Nat):∀ {n:Nat},n≤l.length→(List.range n).filterMap (l[·]?)=l.take n
  | 0,_=>rfl
  | n+1,h=>by
    rw [List.range_succ,List.filterMap_append,Zir l (Z61 h),List.take_add_one,List.filterMap_cons,Z7l h]; rfl
theorem Zxh {t:CS} {i:Nat} {tk:Tok} (hi:i≤t.length):slicePicked (st t) none (some ((i:Int),tk)) none=List.range i:=by
  show Builtin.Str.strSliceIndices (some ((0:Nat):Int)) (some (i:Int)) 1 t.length=_
  rw [StrLaws.strSliceIndices_plain (a:=0) (b:=i) (len:=t.length) (Z63 _) hi]
  simp only [Nat.sub_zero,Nat.zero_add,List.map_id']
theorem Z3c {x l u t r:AVal} (e:SlcR σ x l u t r) (I:Inv X W σ s) {v vl vu vt:Value} {sl:Addr} (hv:VRel W v x) (hl:VRel W vl l) (hu:VRel W vu u) (ht:VRel W vt t) (hs:s.heap.IsSliceOf sl vl vu vt) (h:Pst X W σ r Q):
    Zrj s v∧wpAny (model pp X.w) A (getItem v (.ref sl)) Q E s:=by
  induction e with
  | @str t i hi hz=>
    obtain ⟨tk,rfl⟩:=hv
    refine ⟨⟨"str",_,typeIs_str _ _ _,F.slot_str_getitem.lookup⟩,?_⟩
    rw [hl.none,ht.none] at hs
    obtain ⟨tk2,rfl⟩:=hu
    refine wpAny_getItem_str_slice (l:=none) (u:=some (i,tk2)) (st:=none) hs rfl ?_
    unfold sliceMade
    rw [Zxh hi]
    have hp:(List.range i).filterMap ((PL.st t).cps[·]?)=t.take i:=(Z7r (List.filterMap · _) (funext λ j=>Zlw)).trans (Zir t hi)
    split
    · rename_i hb
      have hb:(List.range i).length=t.length:=Z7u (Bool.and_eq_true_iff.mp hb).2
      rw [List.length_range] at hb
      rw [hb,List.take_length] at h
      exact Pst.mk_str (s:=s) (tk:=s.toks) I h
    · show (Made.str _).post Q s
      rw [hp]
      exact ⟨by show (PL.st _).length≤_; rw [Yn,List.length_take]; exact Z4 (Z6p (Nat.min_le_right _ _) hz),Pst.mk_str I h⟩
  | @tup xs i h1 hi hz=>
    obtain ⟨a,rfl,vs,ha,hr⟩:=I.tup hv
    refine ⟨⟨"tuple",_,ha.isTuple.typeIs,F.slot_tuple_getitem.lookup⟩,?_⟩
    rw [hu.none,ht.none] at hs
    obtain ⟨tk2,rfl⟩:=hl
    exact PyProof.Rows.getItem_tuple_from (a:=i) ha.isTuple hs h1 (by rw [hr.size]; exact hi) (Pst.push_tuple I h (hr.drop i)) (by rw [hr.size]; exact Z4 hz)
  | lst hx o1 o2 o3 h0 hz=>
    obtain ⟨a,rfl,vs,ha,hr⟩:=I.listOf hv hx
    refine ⟨⟨"list",_,ha.isList.typeIs,F.slot_list_getitem.lookup⟩,wpAny_getItem_list_slice ha.isList hs (IsPart.of hl) (IsPart.of hu) (IsPart.of ht) h0 (Pst.push_list I h ?_) (by rw [hr.size]; exact Z4 hz)⟩
    have:=F2.pick hr (slcI vs.size o1 o2 o3)
    rw [hr.size] at this
    unfold slicePick
    rw [List.toList_toArray,hr.size]
    exact this
end PL
end
section
open PySem PySem.W PyProof.Rows
namespace PL
theorem Zi0:∀ {vs:List Value} {ns:List Int},vs.length=ns.length→(∀ (i:Nat) n,ns[i]? = some n→∃ t,vs[i]? = some (.int n t))→IntsAre vs ns
  | [],[],_,_=>.nil
  | v::vs,n::ns,hl,h=>by
    obtain ⟨t,e⟩:=h 0 n rfl
    cases e
    exact .cons _ _ (Zi0 (Nat.succ.inj hl) λ i m hm=>h (i+1) m hm)
theorem Zep:∀ {vs:List Value} {ns:List Int},IntsAre vs ns→∀ (i:Nat) n,ns[i]? = some n→∃ t,vs[i]? = some (.int n t)
  | _,_,.cons m t h,0,n,e=>by cases e; exact ⟨t,rfl⟩
  | _,_,.cons m t h,i+1,n,e=>Zep h i n e
theorem Zxe {ns:List Int}:UA (λ γ:{vs // IntsAre vs ns}=>pairsOf γ.1) ns.length:=by
  refine ⟨λ γ=>by rw [pairsOf_size,γ.2.length],λ i=>?_⟩
  rcases hn:ns[i]? with zz | n
  · exact .inl λ γ=>by
      rw [Array.getElem?_eq_none_iff,pairsOf_size,γ.2.length]
      exact List.getElem?_eq_none_iff.mp hn
  · refine .inr ⟨λ γ=>((γ.1[i]?).getD .none,(γ.1[i]?).getD .none),⟨n,λ γ=>?_⟩,λ γ=>?_⟩
    · obtain ⟨t,e⟩:=Zep γ.2 i n hn
      exact ⟨t,t,by show ((γ.1[i]?).getD .none,(γ.1[i]?).getD .none)=_; rw [e]; rfl⟩
    · obtain ⟨t,e⟩:=Zep γ.2 i n hn
      have:(pairsOf γ.1).toList[i]? = some ((γ.1[i]?).getD .none,(γ.1[i]?).getD .none):=by
        rw [pairsOf_toList,List.getElem?_zip_eq_some,e]; exact ⟨rfl,rfl⟩
      rwa [Z7i] at this
theorem UA.ints {Γ:Type} {a:Γ→Array Keyed} {n:Nat} (h:UA a n):∃ r:List Int,r.length=n∧∀ γ,IntsAre ((a γ).map (·.2)).toList r:=by
  have hx:∀ i:Fin n,∃ m:Int,∀ γ,∃ t,((a γ).map (·.2)).toList[i.1]? = some (.int m t):=λ i=>by
    obtain ⟨p,⟨m,hm⟩,e⟩:=h.at i.2
    refine ⟨m,λ γ=>?_⟩
    obtain ⟨t,u,e2⟩:=hm γ
    exact ⟨u,by rw [Z7i,Array.getElem?_map,e γ,e2]; rfl⟩
  refine ⟨List.ofFn λ i=>Classical.choose (hx i),List.length_ofFn,λ γ=>Zi0 (by rw [List.length_ofFn,Z7k,Array.size_map,h.1]) λ i m hm=>?_⟩
  obtain ⟨hi,e⟩:=Z7m.mp hm
  rw [List.getElem_ofFn] at e
  subst e
  exact Classical.choose_spec (hx ⟨i,by rwa [List.length_ofFn] at hi⟩) γ
theorem Zxz (ns:List Int):∃ r:List Int,r.length=ns.length∧∀ vs,IntsAre vs ns→∃ st',failedOf st'=none∧IntsAre ((arrOf st').map (·.2)).toList r∧Runs sortRuns' (SortSt.mk' oneType' (pairsOf vs) #[] 7 none) () st':=by
  have h:=Znb (Γ:={vs // IntsAre vs ns}) (g:=7) (s:=λ γ=>SortSt.mk' oneType' (pairsOf γ.1) #[] 7 none) (Φ:=λ a s=>∃ p g,SF ns.length p g s) ⟨_,Zxe,rfl⟩ λ s' p' g' hs=>⟨p',g',hs⟩
  obtain ⟨a,s',h1,p,g,arr,har,rfl⟩:=h
  obtain ⟨r,hl,hr⟩:=har.ints
  exact ⟨r,hl,λ vs hv=>⟨_,rfl,hr ⟨vs,hv⟩,h1 ⟨vs,hv⟩⟩⟩
def Zzt (ns r:List Int):Prop:=∀ {prog:Program} {w:World} {A:Around} {E:Value→Shared→Prop} {s:Shared} {l:Addr} {vs:List Value} {Q:Value→Shared→Prop},s.heap.IsList l vs.toArray→IntsAre vs ns→
  (∀ out:Array Value,IntsAre out.toList r→Q (.ref (s.heap.objs.size+1)) { s with heap:=sortedAll s.heap vs out })→wpAny (model prog w) A (call (.builtin "sorted") [.ref l]) Q E s
theorem Zn4 {ns:List Int} (h:ns.length < 64):Zzt ns (ns.mergeSort λ a b=>decide (a≤b)):=by
  intro prog w A E s l vs Q hl hI hQ
  refine sorted_ints hl hI (by rw [hI.length]; exact h) λ out ns' h1 h2 h3=>hQ out ?_
  have hp:=List.pairwise_mergeSort (le:=λ a b:Int=>decide (a≤b)) (λ a b c h1 h2=>Z7s (Int.le_trans (of_decide_eq_true h1) (of_decide_eq_true h2))) (λ a b=>by simp [Int.le_total]) ns
  have e:ns'=ns.mergeSort λ a b=>decide (a≤b):=List.Perm.eq_of_pairwise (le:=(·≤·)) (λ a b zz zz h1 h2=>Int.le_antisymm h1 h2) h3 (hp.imp λ h=>of_decide_eq_true h) (h2.trans (List.mergeSort_perm ns _).symm)
  rwa [← e]
theorem Zt3 {prog:Program} {w:World} {A:Around} {E:Value→Shared→Prop} {s:Shared} {a:Addr} {v₁ v₂:Value} {vs:List Value} {st':SortSt} {n:Nat} {P:Fin→Shared→Prop} (ho:s.heap.get? a=some (seqObj "list" (v₁::v₂::vs).toArray n)) {ns:List Int} (hI:IntsAre (v₁::v₂::vs) ns)
    (hR:Runs sortRuns' (SortSt.mk' oneType' (pairsOf (v₁::v₂::vs)) #[] 7 none) () st') (hf:failedOf st'=none) (hz:(v₁::v₂::vs).length≤sizeLine) (hz':(arrOf st').size=(v₁::v₂::vs).length)
    (h:P (.done (.ret .none)) { s with heap:=sortedHeap s.heap a (v₁::v₂::vs) ((arrOf st').map (·.2)) }):wpAny (model prog w) A (Builtin.«list.sort» ⟨[.ref a],[]⟩) P E s:=by
  rw [list_sort_plain]
  have ha:=Heap.lt_size ho
  obtain ⟨e1,h1⟩:∃ e1,(s.heap.update a (Obj.mapSeq λ zz=>#[])).get? a=some (seqObj "list" #[] e1):=⟨_,get?_update_seq ho _⟩
  have hz2:(v₁::v₂::vs).toArray.size≤sizeLine:=by rw [List.size_toArray]; exact hz
  refine Z7p (listItems_at ho rfl ?_)
  refine Z7p (listUpdate_at ho rfl ?_ hz2 (Z63 _))
  refine Z7p (seqEpoch_at h1 rfl ?_)
  refine Z7p (wpAny_newTuple ?_ hz)
  refine Z7p (wpAny_newList ?_)
  refine wpAny_holding ?_
  have h6:(((s.heap.update a (Obj.mapSeq λ zz=>#[])).push (seqObj "tuple" (v₁::v₂::vs).toArray 0)).push (seqObj "list" #[] 0)).get? a=some (seqObj "list" #[] e1):=
    Z7n _ (Z7n _ h1)
  show wpAny (model prog w) A _ P E { s with heap:=((s.heap.update a (Obj.mapSeq λ zz=>#[])).push (seqObj "tuple" (v₁::v₂::vs).toArray 0)).push (seqObj "list" #[] 0) }
  dsimp only
  rw [if_neg (by simp),if_neg (by simp),keyKind_ints hI]
  refine Z7p (Z7q ?_)
  refine Z7p (wpAny_mono (hR (Q:=λ zz st=>st=st') rfl) ?_ λ zz zz e=>e)
  rintro ⟨⟨⟩,st⟩ s' ⟨rfl,rfl⟩
  dsimp only
  refine Z7p (seqEpoch_at h6 rfl ?_)
  refine Z7p (listUpdate_at h6 rfl ?_ (Z63 _) (by rw [Array.size_map,hz']; exact Nat.le_succ_of_le hz))
  rw [hf]
  simp only [bne_self_eq_false,Bool.false_eq_true,if_false]
  exact Z7q h
theorem Ztr {ns:List Int} (h2:2≤ns.length) (hz:ns.length≤16000):∃ r,Zzt ns r:=by
  obtain ⟨r,hl,hr⟩:=Zxz ns
  refine ⟨r,λ {prog w A E s l vs Q} hls hI hQ=>?_⟩
  obtain ⟨st',hf,ho,hR⟩:=hr vs hI
  have hlen:=hI.length
  rcases vs with zz | ⟨v₁,zz | ⟨v₂,vs⟩⟩
  · rw [← hlen] at h2; cases h2
  · rw [← hlen] at h2; exact absurd h2 (Nat.not_succ_le_self 1)
  have hz3:(v₁::v₂::vs).length≤sizeLine:=by rw [hlen,sizeLine_eq]; exact Z6p hz (by decide)
  refine Calls.call_function_entry kind_sorted plain_sorted entry_sorted (args_sorted1 _) ?_
  unfold Builtin.«sorted»
  refine Z7p (m:=checkCount "sorted" 1 1 _) (Z7q ?_)
  refine Z7p (collect_list hls ?_ hz3)
  refine Z7p (wpAny_newList ?_ hz3)
  have hsz:((s.heap.push (seqObj "list" #[] 0)).update s.heap.objs.size (Obj.mapSeq (·++(v₁::v₂::vs).toArray))).objs.size=s.heap.objs.size+1:=by rw [Heap.size_update,size_push']
  have hoL:(((s.heap.push (seqObj "list" #[] 0)).update s.heap.objs.size (Obj.mapSeq (·++(v₁::v₂::vs).toArray))).push (seqObj "list" (v₁::v₂::vs).toArray 0)).get? (s.heap.objs.size+1)=some (seqObj "list" (v₁::v₂::vs).toArray 0):=by
    rw [← hsz]; exact Z7o _ rfl
  show wpAny _ _ _ _ _ { s with heap:=((s.heap.push (seqObj "list" #[] 0)).update s.heap.objs.size (Obj.mapSeq (·++(v₁::v₂::vs).toArray))).push (seqObj "list" (v₁::v₂::vs).toArray 0) }
  rw [hsz]
  have hz':(arrOf st').size=(v₁::v₂::vs).length:=by rw [hlen,← hl,← ho.length,Z7k,Array.size_map]
  refine Z7p (wpAny_holding (wpAny_call_entry slot_list_sort ⟨_,hoL,rfl⟩ entry_list_sort (Zt3 hoL hI hR hf hz3 hz' ⟨_,rfl,?_⟩) (args_list_sort _)))
  exact Z7q ⟨_,rfl,hQ _ ho⟩
open Classical in
noncomputable def srtN (ns:List Int):List Int:=if ns.length < 64 then ns.mergeSort (λ a b=>decide (a≤b)) else if h:∃ r,Zzt ns r then choose h else ns
theorem Z0v {ns:List Int} (hz:ns.length≤16000):Zzt ns (srtN ns):=by
  unfold srtN
  split
  · exact Zn4 ‹_›
  · have h:=Ztr (ns:=ns) (by lia) hz
    rw [dif_pos h]
    exact λ {_ _ _ _ _ _ _ _} a b c=>Classical.choose_spec h a b c
theorem Zts {ns:List Int} (h:ns.length < 64):(srtN ns).Perm ns:=by
  unfold srtN
  rw [if_pos h]
  exact List.mergeSort_perm ..
theorem Zxk (a b:Int):srtN [a,b]=if a≤b then [a,b] else [b,a]:=by
  have hm:=List.mergeSort_perm [a,b] λ a b=>decide (a≤b)
  have hp:=List.pairwise_mergeSort (le:=λ a b:Int=>decide (a≤b)) (λ a b c h1 h2=>Z7s (Int.le_trans (of_decide_eq_true h1) (of_decide_eq_true h2))) (λ a b=>by simp [Int.le_total]) [a,b]
  unfold srtN
  rw [if_pos (show [a,b].length < 64 from Nat.lt_of_sub_eq_succ rfl)]
  refine List.Perm.eq_of_pairwise (le:=(·≤·)) (λ a b zz zz h1 h2=>Int.le_antisymm h1 h2) (hp.imp λ h=>of_decide_eq_true h) ?_ (hm.trans ?_)
  · split
    · rename_i h; simpa using h
    · rename_i h; simpa using Int.le_of_not_le h
  · split
    · exact .refl _
    · exact .swap ..
theorem Zvg {W:Wd}:∀ {is:List Int} {us:List Value},VRels W us (is.map .int)→IntsAre us is
  | [],us,h=>by rw [F2.nil_right h]; exact .nil
  | i::is,us,h=>by
    obtain ⟨u,us,rfl,⟨t,rfl⟩,h2⟩:=F2.cons_right h
    exact .cons _ _ (Zvg h2)
theorem Zsm {W:Wd} {us:List Value} {is:List Int} (h:IntsAre us is):VRels W us (is.map .int):=by
  induction h with
  | nil=>trivial
  | cons n t _ ih=>exact ⟨VRel.ints n t,ih⟩
theorem Zvr (h:Heap):h.get? (h.objs.size+1)=none:=Option.eq_none_iff_forall_ne_some.mpr λ zz e=>Nat.lt_irrefl _ (Nat.lt_trans (Z6z _) (Heap.lt_size e))
theorem Z01 {X:Cx} {W:Wd} {σ:St} {s:Shared} {A:Around} {E:Value→Shared→Prop} {Q:Value→Shared→Prop} {l:Addr} {us:Array Value} {is:List Int} (I:Inv X W σ s) (hl:s.heap.IsList l us) (hr:VRels W us.toList (is.map .int)) (hz:is.length≤16000)
    (h:Pst X W σ (.lst ((srtN is).map .int)) Q):wpAny (model pp X.w) A (call (.builtin "sorted") [.ref l]) Q E s:=by
  refine Z0v hz (vs:=us.toList) (by rw [Array.toArray_toList]; exact hl) (Zvg hr) λ out ho=>?_
  obtain ⟨e,he⟩:=sortedAll_at s.heap us.toList out
  exact Pst.mk_list (tk:=s.toks) I h (λ zz zz=>sortedAll_old) (Zvr _) ⟨e,he⟩ (Zsm ho)
end PL
end
section
open PySem PySem.W PyProof.Rows PySem.SeqAt
namespace PL
variable {X:Cx} {W:Wd} {σ:St} {s:Shared} {A:Around} {E:Value→Shared→Prop} {Q:Value→Shared→Prop}
section
variable {α β:Type} {R:α→β→Prop}
@[elab_as_elim] theorem F2.e0 {P:List α→Prop} {as:List α} (x:F2 R as []) (f:P []):P as:=@List.casesOn α (λ as=>F2 R as []→P as) as (λ zz=>f) (λ zz zz x=>x.elim) x
@[elab_as_elim] theorem F2.e1 {P:List α→Prop} {b:β} {as:List α} (x:F2 R as [b]) (f:∀ a,R a b→P [a]):P as:=
  @List.casesOn α (λ as=>F2 R as [b]→P as) as (λ x=>x.elim) (λ a as x=>@F2.e0 α β R (λ as=>P (a::as)) as x.2 (f a x.1)) x
@[elab_as_elim] theorem F2.e2 {P:List α→Prop} {b c:β} {as:List α} (x:F2 R as [b,c]) (f:∀ a a',R a b→R a' c→P [a,a']):P as:=
  @List.casesOn α (λ as=>F2 R as [b,c]→P as) as (λ x=>x.elim) (λ a as x=>@F2.e1 α β R (λ as=>P (a::as)) c as x.2 λ a' h=>f a a' x.1 h) x
end
theorem VRels.ints {is:List Int}:∀ {vs:List Value},VRels W vs (is.map .int)→∃ ps:List (Int×Tok),vs=ps.map (λ p=>Value.int p.1 p.2)∧ps.map (·.1)=is:=
  @List.rec Int (λ is=>∀ {vs:List Value},VRels W vs (is.map .int)→∃ ps:List (Int×Tok),vs=ps.map (λ p=>Value.int p.1 p.2)∧ps.map (·.1)=is) (λ h=>F2.e0 h ⟨[],rfl,rfl⟩)
    (λ i is ih {vs} h=>by
      obtain ⟨v,vs,rfl,⟨t,rfl⟩,h2⟩:=F2.cons_right h
      obtain ⟨ps,e1,e2⟩:=ih h2
      exact ⟨(i,t)::ps,by rw [Z7e,← e1],by rw [Z7e,e2]⟩) is
theorem VRels.intItems {vs:Array Value} {is:List Int} (h:VRels W vs.toList (is.map .int)):∃ ps:Array (Int×Tok),vs=PySem.intItems ps∧ps.toList.map (·.1)=is:=by
  obtain ⟨ps,h1,h2⟩:=VRels.ints h
  refine ⟨ps.toArray,?_,h2⟩
  unfold PySem.intItems
  rw [← Array.toArray_toList (xs:=vs),h1,List.map_toArray]
theorem Ze5 {ps:Array (Int×Tok)} {is:List Int} (h:ps.toList.map (·.1)=is) {j:Nat} (hj:j < ps.size):is[j]? = some (numAt ps j):=by
  rw [← h,List.getElem?_map,Z7i,Z7j hj]
  unfold numAt
  rw [Z7j hj]; rfl
theorem Zce:∀ (is:List Int) (i:Int),(i≤is.foldl max i∧∀ j∈is,j≤is.foldl max i)∧(is.foldl max i=i∨is.foldl max i∈is)
  | [],i=>⟨⟨Int.le_refl _,λ zz h=>(nomatch h)⟩,.inl rfl⟩
  | j::is,i=>by
    obtain ⟨⟨h1,h2⟩,h3⟩:=Zce is (max i j)
    rw [List.foldl_cons]
    refine ⟨⟨Int.le_trans (Int.le_max_left ..) h1,λ k hk=>(Z7a.mp hk).elim (λ q=>by rw [q]; exact Int.le_trans (Int.le_max_right ..) h1) (h2 k)⟩,?_⟩
    rcases h3 with h3 | h3
    · rcases Int.le_total i j with q | q
      · right; rw [h3,Int.max_eq_right q]; exact Z66
      · left; rw [h3,Int.max_eq_left q]
    · right; exact Z67 _ h3
theorem Zse {j n:Nat} (h:j≤n-1) (hn:0 < n):j < n:=by omega
theorem Z4a (hh:A.handled=none) (I:Inv X W σ s) {l:Addr} {vs:Array Value} {i:Int} {is:List Int} (hl:s.heap.IsList l vs) (hr:VRels W vs.toList ((i::is).map .int)) (h:Pst X W σ (.int (is.foldl max i)) Q):wpAny (model pp X.w) A (call (.builtin "max") [.ref l]) Q E s:=by
  obtain ⟨ps,rfl,hp⟩:=VRels.intItems hr
  have hs:ps.size=(i::is).length:=by rw [← hp,Z68,Z7k]
  have hne:0 < ps.size:=hs▸Nat.succ_pos _
  refine max_intList hh hl hne λ v h' tk hv hk=>?_
  obtain ⟨t,ht⟩:=intItems_at hv
  have hb:=argBest_gt (numAt ps) (ps.size-1)
  have hm:=Z7z (Ze5 hp (Zse hb.1 hne))
  obtain ⟨⟨m1,m2⟩,m3⟩:=Zce is i
  obtain ⟨j,hj⟩:=List.mem_iff_getElem?.mp (m3.elim (λ q=>by rw [q]; exact Z66) (Z67 i))
  have hjs:j < ps.size:=hs▸(Z7m.mp hj).1
  rw [ht,Int.le_antisymm ((Z7a.mp hm).elim (λ q=>by rw [q]; exact m1) (m2 _)) (Z7g (hj.symm.trans (Ze5 hp hjs))▸hb.2 j (Nat.le_sub_one_of_lt hjs))]
  exact h W _ _ (LeX.refl [] W) (I.keeps hk) (.ints ..)
theorem Z20 (hh:A.handled=none) (I:Inv X W σ s) {l:Addr} {vs:Array Value} {is:List Int} (hl:s.heap.IsList l vs) (hr:VRels W vs.toList (is.map .int)) (h:Pst X W σ (.int is.sum) Q):wpAny (model pp X.w) A (call (.builtin "sum") [.ref l]) Q E s:=by
  obtain ⟨ps,rfl,hp⟩:=VRels.intItems hr
  have hs:ps.size=is.length:=by rw [← hp,Z68,Z7k]
  refine sum_intListG hh hl λ h' tk t' hk=>?_
  rw [preSum_eq,hp,hs,List.take_length]
  exact h W _ _ (LeX.refl [] W) (I.keeps hk) (.ints ..)
theorem Inv.its (I:Inv X W σ s) {v:Value} {x:AVal} {xs:List AVal} (h:VRel W v x) (hx:Its σ x xs):∃ a,v=.ref a∧∃ vs,VRels W vs.toList xs∧(s.heap.PlainList a vs∨(PlTup s.heap a vs∧x=.tup xs)):=by
  cases hx with
  | tup=>obtain ⟨a,e,vs,h1,h2⟩:=I.tup h; exact ⟨a,e,vs,h2,.inr ⟨h1,rfl⟩⟩
  | lst hl=>obtain ⟨a,e,vs,h1,h2⟩:=I.listOf h hl; exact ⟨a,e,vs,h2,.inl h1⟩
theorem Zd7 (n:Nat):Str.ofString (toString (n:Int))=st (decI n):=by
  show Str.ofString (Nat.repr n)=_
  rw [Str.ofString_eq_toList]
  unfold decI digs
  rw [if_neg (Int.not_lt.mpr (Int.natCast_nonneg n)),Nat.repr,String.toList_ofList]; rfl
theorem Zim {n:Nat} (h:n < 1000000000):((n:Int).natAbs).log2 < 1920:=by
  rw [Int.natAbs_natCast]
  by_cases h0:n=0
  · rw [h0]; decide
  · exact Nat.lt_trans ((Nat.log2_lt (k:=31) h0).mpr (Nat.lt_trans h (by decide))) (by decide)
theorem Zid:∀ (t:CS) (a n:Nat),Zrm t a=some n→(∀ c∈t,48≤c∧c≤57)∧n=t.foldl (λ acc c=>acc*10+(c-48)) a
  | [],a,n,h=>⟨λ zz h=>(nomatch h),(Z7g h).symm⟩
  | c::r,a,n,h=>by
    unfold Zrm at h
    by_cases hc:48≤c∧c≤57
    · rw [if_pos hc] at h
      obtain ⟨h1,h2⟩:=Zid r _ _ h
      exact ⟨λ d hd=>(Z7a.mp hd).elim (λ e=>e▸hc) (h1 d),h2⟩
    · rw [if_neg hc] at h; exact nomatch h
theorem lt63 {n:Nat} (h:n≤16000):(n:Int) < 2 ^ 63:=by omega
inductive BltR (σ:St):String→Value→List AVal→AVal→Prop
  | lenS {t:CS} (hl:t.length≤16000):BltR σ "len" (.builtin "len") [.str t] (.int t.length)
  | len {x:AVal} {xs:List AVal} (h:Its σ x xs) (hl:xs.length≤16000):BltR σ "len" (.builtin "len") [x] (.int xs.length)
  | tuple {x:AVal} {xs:List AVal} (h:Its σ x xs) (hl:xs.length≤16000):BltR σ "tuple" (.type "tuple") [x] (.tup xs)
  | list {x:AVal} {xs:List AVal} (h:LOf σ x xs) (hl:xs.length≤16000):BltR σ "list" (.type "list") [x] (.lst xs)
  | sum {xs:List AVal} {is:List Int} (h:xs=is.map .int):BltR σ "sum" (.builtin "sum") [.lst xs] (.int is.sum)
  | max {xs:List AVal} {i:Int} {is:List Int} (h:xs=(i::is).map .int):BltR σ "max" (.builtin "max") [.lst xs] (.int (is.foldl max i))
  | min (i j:Int):BltR σ "min" (.builtin "min") [.int i,.int j] (.int (min i j))
  | sorted {x:AVal} {xs:List AVal} {is:List Int} (hx:LOf σ x xs) (h:xs=is.map .int) (hl:is.length≤16000):BltR σ "sorted" (.builtin "sorted") [x] (.lst ((srtN is).map .int))
  | intI (i:Int):BltR σ "int" (.type "int") [.int i] (.int i)
  | intS {t:CS} {n:Nat} (h:Zrm t 0=some n) (h0:t≠[]) (hl:t.length≤9):BltR σ "int" (.type "int") [.str t] (.int n)
  | strI {n:Nat} (h:n < 1000000000):BltR σ "str" (.type "str") [.int n] (.str (decI n))
theorem Z42 (hh:A.handled=none) {f:String} {fv:Value} {xs:List AVal} {r:AVal} (e:BltR σ f fv xs r) (I:Inv X W σ s) {vs:List Value} (hv:VRels W vs xs) (h:Pst X W σ r Q):wpAny (model pp X.w) A (call fv vs) Q E s:=by
  induction e with
  | lenS hl=>exact hv.e1 λ v hv1=>hv1.str_e λ t=>P.len_str (by rw [Yn]; exact Int.not_le.mpr (lt63 hl)) (Pst.mk_int (s:=s) (tk:=s.toks+1+1) I h)
  | len hx hl=>
    refine hv.e1 λ v hv1=>?_
    obtain ⟨a,rfl,us,hr,hl'⟩:=I.its hv1 hx
    have hz:=lt63 hl
    rw [← hr.size] at h hz
    rcases hl' with hl' | ⟨⟨n,hl'⟩,zz⟩
    · exact Calls.call_len_list hl'.isList hz (Pst.mk_int (s:=s) (tk:=s.toks+1+1) I h)
    · exact P.len_tuple hl' (Int.not_le.mpr hz) (Pst.mk_int (s:=s) (tk:=s.toks+1+1) I h)
  | tuple hx hl=>
    refine hv.e1 λ v hv1=>?_
    obtain ⟨a,rfl,us,hr,hl'⟩:=I.its hv1 hx
    have hz:=Z4 hl
    rw [← hr.size] at hz
    rcases hl' with hl' | ⟨hl',e⟩
    · exact call_tuple_list hl'.isList (λ h' hk=>Pst.mk_tuple (tk:=s.toks) (h':=h'.push _) I h (λ b o eo=>Z7n _ (hk b o eo))
        (Option.eq_none_iff_forall_ne_some.mpr λ o q=>Nat.lt_irrefl _ (Heap.lt_size (hk _ _ q))) ⟨0,Z7o _ rfl⟩ hr) hz
    · exact call_tuple_same hl'.isTuple (h.mk I (e▸hv1))
  | list hx hl=>
    refine hv.e1 λ v hv1=>?_
    obtain ⟨a,rfl,us,⟨n,hl'⟩,hr⟩:=I.listOf hv1 hx
    exact call_list_seq a (.inl rfl) hl' rfl rfl (λ h' c' hk hD=>Pst.mk_list (tk:=s.toks) I h hk (Zx _) ⟨c',hD⟩ hr) (by rw [hr.size]; exact Z4 hl)
  | sum e=>
    refine hv.e1 λ v hv1=>?_
    obtain ⟨a,rfl,us,hl,hr⟩:=I.lst hv1
    exact Z20 hh I hl.isList (e▸hr) h
  | max e=>
    refine hv.e1 λ v hv1=>?_
    obtain ⟨a,rfl,us,hl,hr⟩:=I.lst hv1
    exact Z4a hh I hl.isList (e▸hr) h
  | min i j=>
    refine hv.e2 λ v v' hv1 hv2=>hv1.int_e λ t=>hv2.int_e λ t'=>min_two_ints hh λ h' tk hk=>?_
    by_cases q:j < i
    · rw [if_pos q]; rw [Int.min_eq_right (Int.le_of_lt q)] at h
      exact h W _ _ (LeX.refl [] W) (I.keeps hk) (.ints ..)
    · rw [if_neg q]; rw [Int.min_eq_left (Int.not_lt.mp q)] at h
      exact h W _ _ (LeX.refl [] W) (I.keeps hk) (.ints ..)
  | sorted hx e hl=>
    refine hv.e1 λ v hv1=>?_
    obtain ⟨a,rfl,us,hl',hr⟩:=I.listOf hv1 hx
    exact Z01 I hl'.isList (e▸hr) hl h
  | intI i=>exact hv.e1 λ v hv1=>hv1.int_e λ t=>call_int_int (Pst.mk_int (s:=s) (tk:=s.toks) I h)
  | @intS t n hn h0 hl=>
    refine hv.e1 λ v hv1=>hv1.str_e λ tk=>?_
    obtain ⟨h1,h2⟩:=Zid _ _ _ hn
    refine PySem.W.KIN.call_text (n:=(n:Int)) ?_ (Z6p (show (st t).length≤9 from hl) (Z6y rfl)) (Pst.mk_int I h)
    rw [PySem.intText_digits (show ∀ c∈(st t).cps.toList,_ from h1) (show (st t).cps.toList≠[] from h0) (by rw [Yn]; exact Z6p hl (Z6y rfl)),h2]; rfl
  | strI hn=>exact hv.e1 λ v hv1=>hv1.int_e λ t=>P.str_of_int (Zim hn) (by show Q (.str (Str.ofString (toString _)) _) _; rw [Zd7]; exact Pst.mk_str I h)
structure BN (f:String) (fv:Value):Prop where
  has:Zld.contains f=true
  is:bootBuiltins (Str.ofString f)=some fv
  ne:(Str.ofString f=="__name__")=false
  callee:(∃ id,fv=.builtin id)∨∃ T,fv=.type T
theorem BltR.name {f:String} {fv:Value} {xs:List AVal} {r:AVal} (e:BltR σ f fv xs r):BN f fv:=by
  induction e with
  | lenS=>exact ⟨rfl,by kernel_rfl,by kernel_rfl,.inl ⟨_,rfl⟩⟩
  | len=>exact ⟨rfl,by kernel_rfl,by kernel_rfl,.inl ⟨_,rfl⟩⟩
  | tuple=>exact ⟨rfl,by kernel_rfl,by kernel_rfl,.inr ⟨_,rfl⟩⟩
  | list=>exact ⟨rfl,by kernel_rfl,by kernel_rfl,.inr ⟨_,rfl⟩⟩
  | sum=>exact ⟨rfl,by kernel_rfl,by kernel_rfl,.inl ⟨_,rfl⟩⟩
  | max=>exact ⟨rfl,by kernel_rfl,by kernel_rfl,.inl ⟨_,rfl⟩⟩
  | min=>exact ⟨rfl,by kernel_rfl,by kernel_rfl,.inl ⟨_,rfl⟩⟩
  | sorted=>exact ⟨rfl,by kernel_rfl,by kernel_rfl,.inl ⟨_,rfl⟩⟩
  | intI=>exact ⟨rfl,by kernel_rfl,by kernel_rfl,.inr ⟨_,rfl⟩⟩
  | intS=>exact ⟨rfl,by kernel_rfl,by kernel_rfl,.inr ⟨_,rfl⟩⟩
  | strI=>exact ⟨rfl,by kernel_rfl,by kernel_rfl,.inr ⟨_,rfl⟩⟩
end PL
end
section
open PySem PySem.W PyProof.Rows PySem.SeqAt
open PySem.Builtin.Str (tooLong)
namespace PL
variable {X:Cx} {W:Wd} {σ σ':St} {s:Shared} {A:Around} {E:Value→Shared→Prop} {Q:Value→Shared→Prop}
theorem F2.take {α β:Type} {R:α→β→Prop} (n:Nat) {as:List α} {bs:List β} (x:F2 R as bs):F2 R (as.take n) (bs.take n):=
  @F2.ind α β R (λ as bs=>∀ n,F2 R (as.take n) (bs.take n)) (λ n=>by rw [List.take_nil,List.take_nil]; trivial) (λ a as b bs r x ih n=>@Nat.casesOn (λ n=>F2 R ((a::as).take n) ((b::bs).take n)) n trivial λ n=>⟨r,ih n⟩) as bs x n
theorem Inv.setList (I:Inv X W σ s) {a:Addr} {id:Nat} {xs:List AVal} {vs:Array Value} {h':Heap} {tk:Nat} (hW:W a=.own id) (hsb:Heap.SameBut a s.heap h') (hl:h'.PlainList a vs) (hr:VRels W vs.toList xs):
    Inv X W (σ.put id (.list xs)) { s with heap:=h',toks:=tk }:=I.upd hW (.inl hW) hsb (hl.elim λ zz e=>⟨_,e⟩) ⟨vs,hl,hr⟩
section
variable {u v:Value} {id:Nat} {xs:List AVal}
theorem Z5b (I:Inv X W σ s) {x:AVal} (hu:VRel W u (.ref id)) (he:σ.f id=some (.list xs)) (hv:VRel W v x) (hl:xs.length≤16000) (h:Pst X W (σ.put id (.list (xs++[x]))) .none Q):wpAny (model pp X.w) A (call (.builtin "list.append") [u,v]) Q E s:=by
  obtain ⟨a,rfl,hW,us,hl',hr⟩:=I.obj hu he
  exact wpAny_list_append_plain hl' (λ h' hl' hsb=>h W _ _ (LeX.refl [] W) (I.setList (tk:=s.toks) hW hsb hl' (by rw [Array.toList_push]; exact hr.append (.one hv))) rfl) (by rw [hr.size]; exact Z4 hl)
theorem Z4s (I:Inv X W σ s) {j:Nat} {ys:List AVal} (hu:VRel W u (.ref id)) (he:σ.f id=some (.list xs)) (hv:VRel W v (.ref j)) (hj:σ.f j=some (.list ys)) (hne:j≠id) (hl:xs.length+ys.length≤16000) (h:Pst X W (σ.put id (.list (xs++ys))) .none Q):
    wpAny (model pp X.w) A (call (.builtin "list.extend") [u,v]) Q E s:=by
  obtain ⟨a,rfl,hW,us,⟨n,hla⟩,hr⟩:=I.obj hu he
  obtain ⟨b,rfl,hWb,ws,⟨nb,hlb⟩,hrb⟩:=I.obj hv hj
  have z1:us.size≤16000:=by rw [hr.size]; exact Z6p (Z6r ..) hl
  have z2:ws.size≤16000:=by rw [hrb.size]; exact Z6p (Z6s ..) hl
  refine call_meets F.slot_list_extend ⟨_,hla,rfl⟩ F.entry_list_extend (F.args_list_extend_2 _ _) (AutoSeq1.list_extend_list_list_0 a us n b ws nb (PyProof.Rows.extend_door ?_) ?_ ?_) ⟨hla,hlb,?_⟩
  · exact Z4 (by rw [hr.size,hrb.size]; exact hl)
  · exact Z4 z1
  · exact Nat.le_succ_of_le (Z4 (by rw [hr.size,hrb.size]; exact hl))
  · exact h W _ _ (LeX.refl [] W) (I.setList (tk:=s.toks) hW (Heap.SameBut.update ..) ⟨_,PySem.IsL.update hla _⟩ (by rw [Array.toList_append]; exact hr.append hrb)) rfl
theorem Zsu {us:Array Value} (h:0 < us.size):(us.eraseIdxIfInBounds (us.size-1)).toList=us.toList.take (us.size-1):=by
  have hn:us.size-1 < us.size:=Nat.sub_one_lt_of_lt h
  rw [Array.eraseIdxIfInBounds,dif_pos hn,Array.toList_eraseIdx,List.eraseIdx_eq_take_drop_succ,List.drop_eq_nil_iff.mpr (by rw [Z7k,Nat.sub_one_add_one (Nat.ne_of_gt h)]; exact Z6q _),List.append_nil]
theorem Z3j (I:Inv X W σ s) {x:AVal} (hu:VRel W u (.ref id)) (he:σ.f id=some (.list (xs++[x]))) (hl:xs.length < 16000) (h:Pst X W (σ.put id (.list xs)) x Q):wpAny (model pp X.w) A (call (.builtin "list.pop") [u]) Q E s:=by
  obtain ⟨a,rfl,hW,us,⟨n,hla⟩,hr⟩:=I.obj hu he
  have hz:us.size=xs.length+1:=by rw [hr.size,Z69]; rfl
  have hn:0 < us.size:=hz▸Nat.succ_pos _
  have hp:us.size-1=xs.length:=hz▸rfl
  have hlast:us.toList[us.size-1]? = some us[us.size-1]:=by rw [Z7i,Z7j]
  obtain ⟨x',hx',hrel⟩:=hr.get' hlast
  rw [hp,List.getElem?_concat_length] at hx'
  rw [← Z7g hx'] at hrel
  refine call_meets F.slot_list_pop ⟨_,hla,rfl⟩ F.entry_list_pop (F.args_list_pop_1 _) (PySem.MeetsSeq.list_pop_last a us n us[us.size-1] (Z7j _) (Z4 (by rw [hz]; exact hl))) ⟨hla,?_⟩
  refine h W _ _ (LeX.refl [] W) (I.setList (tk:=s.toks) hW (Heap.SameBut.update ..) ⟨_,PySem.IsL.update hla _⟩ ?_) hrel
  rw [Zsu hn,hp]
  have:=F2.take xs.length hr
  rwa [show (xs++[x]).take xs.length=xs from List.take_left' rfl] at this
theorem Zyt (I:Inv X W σ s) {n:Nat} {k:AVal} {i:Nat} (hu:VRel W u (.ref id)) (he:σ.f id=some (.list xs)) (hv:VRel W v k) (c:∀ x∈xs,Cmpb n x k) (hn:n≤20) (hi:idxOf xs k=some i) (hl:xs.length≤16000) (hA:A.units+30 < cLine) (h:Pst X W σ (.int i) Q):
    wpAny (model pp X.w) A (call (.builtin "list.index") [u,v]) Q E s:=by
  obtain ⟨a,rfl,hW,us,⟨m,hla⟩,hr⟩:=I.obj hu he
  obtain ⟨hlt,hit,hno⟩:=List.findIdx?_eq_some_iff_getElem.mp hi
  have hi':i < us.size:=by rw [hr.size]; exact hlt
  have fe:∀ j (hj:j < us.size) (hj':j < xs.length),eqK W k us[j]=decide (xs[j]=k):=λ j hj hj'=>by
    obtain ⟨x,h1,h2⟩:=hr.get' (i:=j) (a:=us[j]) (by rw [Z7i,Z7j hj])
    rw [Z7l hj'] at h1
    rw [Z7g h1]; exact Zv8 (c x (Z7g h1▸List.getElem_mem _)) h2
  refine call_meets F.slot_list_index ⟨_,hla,rfl⟩ F.entry_list_index (F.args_list_index_2 _ _) (list_indexAt a us m none #[] v (eqK W k) i hi' (by have:=Z6t hlt hl; lia) ?_ ?_) ⟨hla,Zv9 I hr hv c (Zcr (m:=0) hA hn).1,Pst.mk_int I h⟩
  · rw [fe i hi' hlt]; exact hit
  · intro j hj hji
    have hjx:j < xs.length:=Nat.lt_trans hji hlt
    rw [fe j hj hjx]
    exact (Bool.not_eq_true _).mp (hno j hji)
end
theorem Zox (c:Nat) (hc:c < 128):Unicode.isSpace c=Zbz c:=
  have:∀ c:Fin 128,Unicode.isSpace c.1=Zbz c.1:=by decide +kernel
  this ⟨c,hc⟩
theorem Zow {c:Nat} (h:c < 128):Txt.isspace (st [c])=Zbz c:=by
  rw [← Zox c h]
  simp [Txt.isspace,st,Str.length]
theorem Zc8 (c:Nat):∀ (p:CS),c ∉ p→Zu c p=[p]
  | [],_=>rfl
  | x::p,h=>by
    unfold Zu
    rw [if_neg λ q=>h (by rw [q]; exact Z66),Zc8 c p λ q=>h (Z67 _ q)]
theorem Ze0 (c:Nat) (r:CS):∀ (p:CS),c ∉ p→Zu c (p++c::r)=p::Zu c r
  | [],_=>by rw [List.nil_append]; conv=>lhs; unfold Zu; rw [if_pos rfl]
  | x::p,h=>by
    rw [List.cons_append]
    conv=>lhs; unfold Zu
    rw [if_neg λ q=>h (by rw [q]; exact Z66),Ze0 c r p λ q=>h (Z67 _ q)]
theorem Zc7 (c:Nat):∀ (ps:List CS),ps≠[]→(∀ p∈ps,c ∉ p)→Zu c (Yp [c] ps)=ps
  | [],h,_=>absurd rfl h
  | [p],_,h=>Zc8 c p (h p Z66)
  | p::q::r,_,h=>by
    show Zu c (p++[c]++Yp [c] (q::r))=_
    rw [Z7d,List.singleton_append,Ze0 c _ p (h p Z66),Zc7 c (q::r) (List.cons_ne_nil _ _) λ x hx=>h x (Z67 _ hx)]
theorem Zpw:∀ l:List Str,∃ cs:List CS,l=cs.map st
  | []=>⟨[],rfl⟩
  | x::l=>(Zpw l).elim λ cs e=>⟨x.cps.toList::cs,by rw [Z7e,← e]; rfl⟩
noncomputable def Zrq (sep:CS) (r:List CS):CS:=(r.map λ q=>sep++q).flatten
theorem Zeo (sep:CS):∀ (r:List CS) (p:CS),Yp sep (p::r)=p++Zrq sep r
  | [],p=>(List.append_nil p).symm
  | q::r,p=>by
    show p++sep++Yp sep (q::r)=_
    rw [Zeo sep r q,Z7d]
    show _=p++((sep++q)++Zrq sep r)
    rw [Z7d]
theorem Zms (sep:CS):∀ (r:List CS) (acc:CS),(r.map st).foldl (λ a q=>a++(st sep).cps++q.cps) acc.toArray=(acc++Zrq sep r).toArray
  | [],acc=>by rw [show Zrq sep []=[] from rfl,List.append_nil]; rfl
  | q::r,acc=>by
    rw [Z7e,List.foldl_cons,show acc.toArray++(st sep).cps++(st q).cps=(acc++(sep++q)).toArray by rw [show (st sep).cps=sep.toArray from rfl,show (st q).cps=q.toArray from rfl,List.append_toArray,List.append_toArray,Z7d],Zms sep r,Z7d]; rfl
theorem Zq0 (sep:CS):∀ (ps:List CS),Builtin.Str.glued (st sep) (ps.map st)=st (Yp sep ps)
  | []=>rfl
  | p::r=>by
    unfold Builtin.Str.glued
    rw [Zeo]
    exact Z7r Str.mk (Zms sep r p)
theorem Zxm (x:CS) (c:Nat):(Txt.split (st x) ⟨#[c]⟩)=(Zu c x).map st:=by
  obtain ⟨cs,hcs⟩:=Zpw (Txt.split (st x) ⟨#[c]⟩)
  have h1:=StrLaws.join_split (st x) ⟨#[c]⟩
  have h2:=StrLaws.split_free (st x) c
  rw [hcs] at h1 h2
  rw [show Str.join ⟨#[c]⟩ (cs.map st)=st (Yp [c] cs) from (StrLaws.glued_eq_join ..).symm.trans (Zq0 [c] cs)] at h1
  have h1:=Zpy h1
  have hne:cs≠[]:=by
    rintro rfl
    rw [show x=[] from h1.symm] at hcs
    have e:Txt.split (st []) ⟨#[c]⟩=[st []]:=by unfold Txt.split; rfl
    exact nomatch e.symm.trans hcs
  rw [hcs,← h1,Zc7 c cs hne λ p hp hc=>h2 (st p) (List.mem_map_of_mem hp) hc]
theorem VRels.strs:∀ {ys:List CS} {vs:List Value},VRels W vs (ys.map .str)→∃ l:List (Str×Tok),vs=strValues l∧l.map (·.1)=ys.map st
  | [],_,h=>F2.e0 h ⟨[],rfl,rfl⟩
  | y::ys,_,h=>by
    obtain ⟨v,vs,rfl,⟨t,rfl⟩,h2⟩:=F2.cons_right h
    obtain ⟨ps,e1,e2⟩:=VRels.strs h2
    exact ⟨(st y,t)::ps,by rw [e1]; rfl,by rw [Z7e,Z7e,e2]⟩
theorem VRels.ofStrs:∀ {l:List (Str×Tok)} {ys:List CS},l.map (·.1)=ys.map st→VRels W (strValues l) (ys.map .str)
  | [],[],_=>trivial
  | p::l,y::ys,h=>⟨⟨p.2,by rw [← (List.cons.inj h).1]⟩,VRels.ofStrs (List.cons.inj h).2⟩
  | [],_::_,h=>nomatch h
  | _::_,[],h=>nomatch h
theorem Zlu (sep:CS):∀ r:List CS,(Zrq sep r).length=r.length*sep.length+(r.map List.length).sum
  | []=>by rw [List.length_nil,Nat.zero_mul]; rfl
  | q::r=>by
    show ((sep++q)++Zrq sep r).length=_
    rw [Z69,Z69,Zlu sep r,Z7e,List.sum_cons,Z7f,Nat.succ_mul]
    lia
theorem Zvb (sep:CS):∀ ps:List CS,(ps.map List.length).sum≤(Yp sep ps).length
  | []=>Z63 _
  | p::r=>by rw [Zeo,Z69,Zlu,Z7e,List.sum_cons]; lia
theorem Zq5 (sep:CS):∀ (ps:List CS) (n:Nat),(ps.map st).foldl (λ a p=>a+p.length+(st sep).length) n=n+(ps.map List.length).sum+ps.length*sep.length
  | [],n=>by rw [List.length_nil,Nat.zero_mul]; rfl
  | p::ps,n=>by
    rw [Z7e,List.foldl_cons,Zq5 sep ps,Yn,Yn,Z7e,List.sum_cons,Z7f,Nat.succ_mul]
    lia
theorem Z26 {x y:Str} {t u:Tok} (hy:(y.length==0)=false) (h:∀ l k,l.map (·.1)=Txt.split x y→Q (.ref s.heap.objs.size) { s with heap:=s.heap.push { cls:=.type "list",data:=.seq (strValues l).toArray },toks:=k })
    (hsz:x.length+2≤sizeLine):wpAny (model pp X.w) A (call (.builtin "str.split") [.str x t,.str y u]) Q E s:=by
  have hn:(Builtin.Str.partsBetween x (Builtin.Str.occurrences x y 0 x.length (x.length+1)) y.length).length≤sizeLine:=by
    have e1:=StrLaws.occ_length_le x y 0 x.length (x.length+1)
    rw [PyProof.Rows.len_partsBetween]; lia
  cases h1:(decide (x.length < y.length) || decide (Builtin.Str.strKind x < Builtin.Str.strKind y))
  · cases hf:(Builtin.Str.occurrences x y 0 x.length (x.length+1)).isEmpty
    · refine call_meets F.slot_str_split (typeIs_str _ _ _) F.entry_str_split (F.args_str_split_2 _ _) (meets_str_split_sep x y t u h1 hy hf (Z61 (Z61 hsz)) hn) ?_
      show wants Q E _ { s with toks:=_,heap:=s.heap.push { cls:=.type "list",data:=.seq (strsFrom s.toks (Builtin.Str.partsBetween x (Builtin.Str.occurrences x y 0 x.length (x.length+1)) y.length)).toArray } }
      rw [strsFrom_eq]
      exact h (numbered s.toks _) _ ((numbered_texts _ _).trans ((if_neg (ne_true_of_eq_false h1)).trans (if_neg (ne_true_of_eq_false hf))).symm)
    · exact call_meets F.slot_str_split (typeIs_str _ _ _) F.entry_str_split (F.args_str_split_2 _ _) (meets_str_split_not_found x y t u h1 hy hf)
        (h [(x,t)] s.toks ((if_neg (ne_true_of_eq_false h1)).trans (if_pos hf)).symm)
  · exact call_meets F.slot_str_split (typeIs_str _ _ _) F.entry_str_split (F.args_str_split_2 _ _) (meets_str_split_cannot_occur x y t u h1)
      (h [(x,t)] s.toks (if_pos h1).symm)
theorem Zxl (I:Inv X W σ s) {t:CS} {c:Nat} {u v:Value} (hu:VRel W u (.str t)) (hv:VRel W v (.str [c])) (hl:t.length≤16000) (h:Pst X W σ (.lst ((Zu c t).map .str)) Q):wpAny (model pp X.w) A (call (.builtin "str.split") [u,v]) Q E s:=by
  obtain ⟨tk,rfl⟩:=hu
  obtain ⟨tk',rfl⟩:=hv
  exact Z26 (y:=st [c]) rfl (λ l k hl=>Pst.mk_list (tk:=k) I h (λ zz zz e=>Z7n _ e) (Zx _) ⟨0,Z7o _ rfl⟩ (VRels.ofStrs (hl.trans (Zxm t c))))
    (Z6p (Z6x (show (st t).length≤16000 from hl) 2) (by rw [sizeLine_eq]; exact Z6y rfl))
theorem Z1r (I:Inv X W σ s) {t:CS} {ys:List CS} {xs:List AVal} {u v:Value} (hu:VRel W u (.str t)) (hv:VRel W v (.lst xs)) (hx:xs=ys.map .str) (h1:(Yp t ys).length≤16000) (h2:ys.length≤16000) (h3:t.length≤1) (h:Pst X W σ (.str (Yp t ys)) Q):
    wpAny (model pp X.w) A (call (.builtin "str.join") [u,v]) Q E s:=by
  obtain ⟨tk,rfl⟩:=hu
  obtain ⟨a,rfl,us,hl,hr⟩:=I.lst hv
  obtain ⟨l,e1,e2⟩:=VRels.strs (hx▸hr)
  have hus:us=(strValues l).toArray:=by rw [← e1,Array.toArray_toList]
  subst hus
  have hg:Builtin.Str.glued (st t) (l.map (·.1))=st (Yp t ys):=by rw [e2]; exact Zq0 t ys
  have htl:Builtin.Str.tooLong ((l.map (·.1)).toArray.foldl (·+·.length+(st t).length) 0)=false:=by
    rw [List.foldl_toArray,e2,Zq5]
    have hj:=Zvb t ys
    have hm:ys.length*t.length≤ys.length*1:=Nat.mul_le_mul_left _ h3
    refine Z7t (Nat.not_lt.mpr ?_)
    rw [sizeLine_eq]; lia
  refine call_meets F.slot_str_join (typeIs_str _ _ _) F.entry_str_join (F.args_str_join_2 _ _) (meets_str_join_list (st t) tk a l htl) ⟨hl.isList,?_⟩
  unfold joinMade
  split
  · rename_i p
    have e:p.1=st (Yp t ys):=hg
    show Q (.str p.1 p.2) s
    rw [e]
    exact Pst.mk_str (s:=s) (tk:=s.toks) I h
  · exact ⟨by rw [hg]; exact Z4 h1,by show Q (.str (Builtin.Str.glued (st t) (l.map (·.1))) _) _; rw [hg]; exact Pst.mk_str I h⟩
end PL
end
section
open PySem PySem.W PyProof.Rows PySem.SeqAt
namespace PL
variable {X:Cx} {W W':Wd} {σ σ':St} {s s':Shared} {A:Around} {E:Value→Shared→Prop} {Q:Value→Shared→Prop}
theorem Inv.old (I:Inv X W σ s) (a:Addr) (o:Obj) (e:X.s1.heap.get? a=some o):s.heap.get? a=some o:=(I.keep a o e).elim λ v hv=>(I.imm hv).1
theorem Inv.kin (I:Inv X W σ s):X.K.In s.heap:=λ a o e=>I.old a o (X.ok.inK a o e)
theorem Inv.ns (I:Inv X W σ s) {a:Addr} {m} (h:X.s1.heap.Ns a m):s.heap.Ns a m:=h.keeps I.old
theorem Zu0 {o:Obj} {es:Array DictEntry} {ep:Nat} {n:Str} (hd:o.data=.dict es ep) (hk:StrKeys es):lookIn n o=some (nsFind es n):=by
  unfold lookIn
  rw [hd]
  unfold nsFind findBy
  rw [← Array.find?_toList]
  dsimp only
  cases h:es.toList.find? (·.key.isStr n) with
  | some e=>rfl
  | none=>
    have:es.toList.any (·.refKey)=false:=List.any_eq_false.mpr λ e he q=>by
      obtain ⟨x,t,hx⟩:=hk e (Array.mem_toList_iff.mp he)
      unfold DictEntry.refKey at q; rw [hx] at q; exact nomatch q
    rw [this]; rfl
theorem Zml {h:Heap} {d:Addr} {mm:Str→Option Value} {o:Obj} {n:Str} (hns:h.Ns d mm) (ho:h.get? d=some o):lookIn n o=some (mm n):=by
  obtain ⟨o',es,ep,h1,h2,h3,h4⟩:=hns
  rw [← Z7g (ho.symm.trans h1)] at h2
  rw [Zu0 h2 h3,h4]
theorem VRel.handed {v:Value} {x:AVal} (h:VRel W v x):handedIn v=true:=
  @AVal.casesOn (λ x=>VRel W v x→handedIn v=true) x (λ h=>h.none_e rfl) (λ b h=>h.bool_e rfl) (λ i h=>h.int_e λ zz=>rfl) (λ c h=>h.str_e λ zz=>rfl) (λ zz h=>h.elim λ a e=>e.1▸rfl) (λ zz h=>h.elim λ a e=>e.1▸rfl) (λ zz h=>h.elim λ a e=>e.1▸rfl) h
theorem Zew {c:String} {C:Addr} (h:Zay.lookup c=some C):clsA c=C:=Z7r (Option.getD · 0) h
structure Z6m (X:Cx) (W:Wd) (h:Heap) (a d:Addr) (id:Nat) (c:String) (k:Nat) (m:Fm):Prop where
  adr:W a=.own id
  dad:W d=.dic id
  obj:h.get? a=some { cls:=.ref (clsA c),dict:=some d,data:=.plain }
  dic:DicR W h d k m
theorem Inv.inst (I:Inv X W σ s) {v:Value} {id:Nat} {c:String} {k:Nat} {m:Fm} (h:VRel W v (.ref id)) (ho:σ.f id=some (.inst c k m)):∃ a,v=.ref a∧∃ d,Z6m X W s.heap a d id c k m:=
  (I.obj h ho).elim λ a h=>⟨a,h.1,h.2.2.elim λ d q=>⟨d,h.2.1,q.2.1,q.1,q.2.2⟩⟩
theorem Z49 {id k:Nat} {c n:String} {m:Fm} {r:AVal} (he:σ.f id=some (.inst c k m)) (hm:m n=some r) (hat:Jk.contains (c,n)=true) (I:Inv X W σ s) {v:Value} (hv:VRel W v (.ref id)) (h:Pst X W σ r Q) (ex:Bool):wpAny (model pp X.w) A (getAttr v (Str.ofString n) ex) Q E s:=by
  obtain ⟨a,rfl,d,R⟩:=I.inst hv he
  obtain ⟨C,hC,hf⟩:=X.ok.attr hat
  obtain ⟨ck,hg⟩:=X.ok.cls hC
  rw [← Zew hC] at hf ck
  obtain ⟨mm,hns,hmm⟩:=R.dic.ns
  obtain ⟨od,hod,zz⟩:=R.dic.sz
  obtain ⟨cv,h1,h2⟩:=(hm▸hmm n:MvR W (some r) _)
  have L:=Zml (n:=Str.ofString n) hns hod
  rw [h1] at L
  exact get_value I.kin (C:=clsA c) (ox:={ cls:=.ref (clsA c),dict:=some d,data:=.plain }) (od:=some od) ⟨R.obj,rfl,rfl,hod⟩ (plainGet_of ck.get).1 (findObj_own ck.dict hf rfl L) h2.handed (h.mkt I h2)
theorem Z30 {M:Model} {d:Addr} {o:Obj} {es:Array DictEntry} {ep:Nat} {mm:Str→Option Value} {name:Str} {v:Value} {QU:Unit→Shared→Prop} (ho:s.heap.get? d=some o) (hx:o.ExactDict) (hd:o.data=.dict es ep) (hns:s.heap.Ns d mm)
    (h:∀ h' o' es' ep',h'.get? d=some o'→o'.ExactDict→o'.data=.dict es' ep'→es'.size≤es.size+1→h'.Ns d (λ y=>if y=name then some v else mm y)→Heap.SameBut d s.heap h'→QU () { s with heap:=h',toks:=s.toks+1 }):
    wpAny M A (nsSet d name v) QU E s:=by
  have hns':=hns
  obtain ⟨o',es',ep',h1,h2,h3,h4⟩:=hns
  rw [ho] at h1; cases h1
  rw [hd] at h2; cases h2
  have hany:es.any (·.refKey)=false:=by
    rw [Array.any_eq_false']; intro e he; obtain ⟨n,t,h⟩:=h3 e he; simp [DictEntry.refKey,h]
  intro Γ p hΓ
  have A1:=Sem.wp_nsSet M Γ (λ e zz s'=>E e s') p s hns' name v
  simp only [nsSet,strHash,Sem.wp_bind',Sem.wp_cmd_ask,Sem.wp_pure',Sem.wp_cmd_mkText] at A1 ⊢
  rw [Sem.wp_loadPart_of M Γ _ p { s with toks:=s.toks+1 } (o:=o) _ ho]
  simp only [hd,aRefKeyMayBeTheName_eq,aRefKeyMayBeTheNameByArray,hany,Bool.and_false,Bool.false_eq_true,if_false,Sem.wp_cmd_updatePart]
  obtain ⟨c,dd,dt,sl⟩:=o
  subst hd
  refine ⟨by rw [ho]; rfl,?_⟩
  have B:=A1 (λ zz zz s''=>s''.heap.Ns d (λ y=>if y=name then some v else mm y)) (λ h' hn zz=>hn)
  rw [Sem.wp_loadPart_of M Γ _ p { s with toks:=s.toks+1 } (o:=⟨c,dd,.dict es ep,sl⟩) _ ho] at B
  simp only [aRefKeyMayBeTheName_eq,aRefKeyMayBeTheNameByArray,hany,Bool.and_false,Bool.false_eq_true,if_false,Sem.wp_cmd_updatePart] at B
  have hn:=B.2
  cases hi:es.findIdx? (·.key.isStr name) with
  | some i=>
    refine h _ _ _ _ (Heap.get?_update_self _ ho (by simp only [Obj.putName_eq,Obj.putNameByArray,hi]; rfl)) ?_ (by simp only [Obj.putName_eq,Obj.putNameByArray,hi]; rfl) ?_ hn (Heap.SameBut.update ..)
    · simp only [Obj.putName_eq,Obj.putNameByArray,hi]; exact hx
    · simp
  | none=>
    refine h _ _ _ _ (Heap.get?_update_self _ ho (by simp only [Obj.putName_eq,Obj.putNameByArray,hi]; rfl)) ?_ (by simp only [Obj.putName_eq,Obj.putNameByArray,hi]; rfl) ?_ hn (Heap.SameBut.update ..)
    · simp only [Obj.putName_eq,Obj.putNameByArray,hi]; exact hx
    · simp
theorem MvR.upd {m:Fm} {mm:Str→Option Value} {n:String} {v:Value} {r:AVal} (h:∀ x:String,MvR W (m x) (mm (Str.ofString x))) (hv:VRel W v r) (y:String):MvR W (upd m n r y) (if Str.ofString y=Str.ofString n then some v else mm (Str.ofString y)):=by
  unfold PL.upd
  by_cases q:y=n
  · rw [if_pos q,if_pos (Z7r _ q)]; exact ⟨v,rfl,hv⟩
  · rw [if_neg q,if_neg λ z=>q (Yj z)]; exact h y
theorem Zzh {n k:Nat} (h:n≤k+1) (hk:k < 100):n≤sizeLine:=Z4 (by lia)
theorem Z3e {id k:Nat} {c n:String} {m:Fm} {r:AVal} (he:σ.f id=some (.inst c k m)) (hat:Jk.contains (c,n)=true) (hk:k < 100) (I:Inv X W σ s) {u v:Value} (hu:VRel W u (.ref id)) (hv:VRel W v r)
    {QU:Unit→Shared→Prop} (h:∀ s',Inv X W (σ.put id (.inst c (k+1) (upd m n r))) s'→QU () s'):wpAny (model pp X.w) A (setAttr u (Str.ofString n) v) QU E s:=by
  obtain ⟨a,rfl,d,R⟩:=I.inst hu he
  obtain ⟨C,hC,hf⟩:=X.ok.attr hat
  obtain ⟨ck,hg⟩:=X.ok.cls hC
  rw [← Zew hC] at hf ck
  obtain ⟨mm,hns,hmm⟩:=R.dic.ns
  obtain ⟨od,hod,hex,es,ep,hd,hsz⟩:=R.dic.sz
  have IA:InstAt s.heap a { cls:=.ref (clsA c),dict:=some d,data:=.plain } (clsA c) (some od):=⟨R.obj,rfl,rfl,hod⟩
  refine set_plain I.kin IA ck.set ?_
  refine osa_open (s:={ s with toks:=s.toks+1 }) (r:=none) I.kin IA ck.over (by unfold takerIn; rw [hf]; rfl) λ b=>?_
  obtain ⟨cd,hc,hd'⟩:=any_some ck.dict
  refine Z7p (Z7q (Z7p (Z7p (wpAny_loadPart (s:={ s with toks:=s.toks+1 }) R.obj (Z7p (Looks.here (s:={ s with toks:=s.toks+1 }) (looks_clsIn (M:=model pp X.w) I.kin hc) ?_))))))
  rw [hd']
  refine Z7q (a:=some d) (Z7p (Z7q (Z7p ?_)))
  refine Z30 (s:={ s with toks:=s.toks+1 }) hod hex hd hns λ h' o' es' ep' ho' hex' hd'' hsz' hns' hsb=>?_
  have hz:=Z6p hsz' (Z6x hsz 1)
  refine Z7p (wpAny_lookBehind (s:={ s with heap:=h',toks:=s.toks+1+1 }) ho' (by rw [hd'']; exact pastItsLine_dict (Nat.le_succ_of_le (Zzh hz hk))) (Z7q ?_))
  show QU () _
  have hda:a≠d:=λ q=>nomatch (q▸R.adr:W d=.own id).symm.trans R.dad
  exact h _ (I.upd (b:=d) (tk:=s.toks+1+1) R.adr (.inr R.dad) hsb ⟨_,ho'⟩ ⟨d,(hsb.2 a hda).trans R.obj,R.dad,⟨_,hns',MvR.upd hmm hv⟩,⟨o',ho',hex',es',ep',hd'',hz⟩⟩)
inductive MV (σ:St):AVal→String→Value→Prop
  | append {id:Nat} {xs:List AVal} (h:σ.f id=some (.list xs)):MV σ (.ref id) "append" (.builtin "list.append")
  | extend {id:Nat} {xs:List AVal} (h:σ.f id=some (.list xs)):MV σ (.ref id) "extend" (.builtin "list.extend")
  | pop {id:Nat} {xs:List AVal} (h:σ.f id=some (.list xs)):MV σ (.ref id) "pop" (.builtin "list.pop")
  | index {id:Nat} {xs:List AVal} (h:σ.f id=some (.list xs)):MV σ (.ref id) "index" (.builtin "list.index")
  | setdefault {id:Nat} {es:List (AVal×AVal)} (h:σ.f id=some (.dict es)):MV σ (.ref id) "setdefault" (.builtin "dict.setdefault")
  | dpop {id:Nat} {es:List (AVal×AVal)} (h:σ.f id=some (.dict es)):MV σ (.ref id) "pop" (.builtin "dict.pop")
  | isspace (t:CS):MV σ (.str t) "isspace" (.builtin "str.isspace")
  | split (t:CS):MV σ (.str t) "split" (.builtin "str.split")
  | join (t:CS):MV σ (.str t) "join" (.builtin "str.join")
  | own {id k:Nat} {c m q:String} {mm:Fm} {f:Addr} (h:σ.f id=some (.inst c k mm)) (hm:mm m=none) (hq:Zcs.lookup (c,m)=some q) (hf:fnA q=some f):MV σ (.ref id) m (.ref f)
section
variable {Q:Value×List Value→Shared→Prop} {pl:Sem Bool}
theorem Zdo {a:Addr} {vs:Array Value} {m:String} (ha:s.heap.PlainList a vs) (h:∀ {n},s.heap.get? a=some { cls:=.type "list",data:=.seq vs n }→(∀ b,Value.ref a=.ref b→∃ ob,s.heap.get? b=some ob∧ob.dict=none)→wpAny (model pp X.w) A (getMethod (.ref a) (Str.ofString m) pl) Q E s):wpAny (model pp X.w) A (getMethod (.ref a) (Str.ofString m) pl) Q E s:=
  ha.elim λ n e=>h e λ b q=>⟨_,Zah q▸e,rfl⟩
theorem Zmt {a:Addr} {es:List (AVal×AVal)} {m:String} (O:DctR X W s.heap a es) (h:∀ {o},s.heap.get? a=some o→o.cls=.type "dict"→(∀ b,Value.ref a=.ref b→∃ ob,s.heap.get? b=some ob∧ob.dict=none)→wpAny (model pp X.w) A (getMethod (.ref a) (Str.ofString m) pl) Q E s):wpAny (model pp X.w) A (getMethod (.ref a) (Str.ofString m) pl) Q E s:=by
  obtain ⟨o,zz,zz,ho,hx,zz⟩:=O.obj
  exact h ho hx.1 λ b q=>⟨_,Zah q▸ho,hx.2.1⟩
theorem Z37 {x:AVal} {m:String} {fv:Value} (e:MV σ x m fv) (I:Inv X W σ s) {v:Value} (hv:VRel W v x) (h:Q (fv,[v]) s):wpAny (model pp X.w) A (getMethod v (Str.ofString m) pl) Q E s:=by
  induction e with
  | append he=>obtain ⟨a,rfl,zz,vs,ha,zz⟩:=I.obj hv he; exact Zdo ha λ e hd=>getMethod_builtin ⟨_,e,rfl⟩ PySem.F.plainAttrs_list PySem.F.slot_list_append PySem.F.type_list_append hd h
  | extend he=>obtain ⟨a,rfl,zz,vs,ha,zz⟩:=I.obj hv he; exact Zdo ha λ e hd=>getMethod_builtin ⟨_,e,rfl⟩ PySem.F.plainAttrs_list PySem.F.slot_list_extend PySem.F.type_list_extend hd h
  | pop he=>obtain ⟨a,rfl,zz,vs,ha,zz⟩:=I.obj hv he; exact Zdo ha λ e hd=>getMethod_builtin ⟨_,e,rfl⟩ PySem.F.plainAttrs_list PySem.F.slot_list_pop PySem.F.type_list_pop hd h
  | index he=>obtain ⟨a,rfl,zz,vs,ha,zz⟩:=I.obj hv he; exact Zdo ha λ e hd=>getMethod_builtin ⟨_,e,rfl⟩ PySem.F.plainAttrs_list PySem.F.slot_list_index PySem.F.type_list_index hd h
  | setdefault he=>obtain ⟨a,rfl,zz,O⟩:=I.obj hv he; exact Zmt O λ e hc hd=>getMethod_builtin ⟨_,e,hc⟩ PySem.F.plainAttrs_dict PySem.F.slot_dict_setdefault PySem.F.type_dict_setdefault hd h
  | dpop he=>obtain ⟨a,rfl,zz,O⟩:=I.obj hv he; exact Zmt O λ e hc hd=>getMethod_builtin ⟨_,e,hc⟩ PySem.F.plainAttrs_dict PySem.F.slot_dict_pop PySem.F.type_dict_pop hd h
  | isspace t=>obtain ⟨tk,rfl⟩:=hv; (with_reducible refine GM.isspace ?_); exact h
  | split t=>obtain ⟨tk,rfl⟩:=hv; (with_reducible refine GM.split ?_); exact h
  | join t=>obtain ⟨tk,rfl⟩:=hv; (with_reducible refine GM.join ?_); exact h
  | @own id k c m q mm f he hm hq hf=>
    obtain ⟨a,rfl,d,R⟩:=I.inst hv he
    obtain ⟨C,f',hC,hf',mk⟩:=X.ok.meth hq
    obtain ⟨ck,hg⟩:=X.ok.cls hC
    rw [← Zew hC] at mk ck
    rw [← Z7g (hf.symm.trans hf')] at mk
    obtain ⟨ms,hns,hmm⟩:=R.dic.ns
    obtain ⟨od,hod,zz⟩:=R.dic.sz
    have L:=Zml (n:=Str.ofString m) hns hod
    have e0:ms (Str.ofString m)=none:=(hm▸hmm m:MvR W none (ms (Str.ofString m)))
    rw [e0] at L
    exact method_fn I.kin (C:=clsA c) (ox:={ cls:=.ref (clsA c),dict:=some d,data:=.plain }) (od:=some od) ⟨R.obj,rfl,rfl,hod⟩ (plainGet_of ck.get).1 (plainGet_of ck.get).2 mk.find mk.ty (by show (lookIn _ od).map _=_; rw [L]; rfl) h
end
inductive MC (σ:St):AVal→Value→List AVal→AVal→St→Prop
  | append {id:Nat} {xs:List AVal} {x:AVal} (h:σ.f id=some (.list xs)) (hl:xs.length≤16000):MC σ (.ref id) (.builtin "list.append") [x] .none (σ.put id (.list (xs++[x])))
  | extend {id j:Nat} {xs ys:List AVal} (h:σ.f id=some (.list xs)) (hj:σ.f j=some (.list ys)) (hne:j≠id) (hl:xs.length+ys.length≤16000):MC σ (.ref id) (.builtin "list.extend") [.ref j] .none (σ.put id (.list (xs++ys)))
  | pop {id:Nat} {xs:List AVal} {x:AVal} (h:σ.f id=some (.list (xs++[x]))) (hl:xs.length < 16000):MC σ (.ref id) (.builtin "list.pop") [] x (σ.put id (.list xs))
  | index {n id i:Nat} {xs:List AVal} {k:AVal} (h:σ.f id=some (.list xs)) (c:∀ x∈xs,Cmpb n x k) (hn:n≤20) (hi:idxOf xs k=some i) (hl:xs.length≤16000):MC σ (.ref id) (.builtin "list.index") [k] (.int i) σ
  | setOld {id:Nat} {es:List (AVal×AVal)} {k v q:AVal} (h:σ.f id=some (.dict es)) (hk:Zdn es k) (ht:k.isTup=true) (hl:es.length≤16000) (hq:kget es k=some q):MC σ (.ref id) (.builtin "dict.setdefault") [k,v] q σ
  | setNew {id:Nat} {es:List (AVal×AVal)} {k v:AVal} (h:σ.f id=some (.dict es)) (hk:Zdn es k) (ht:k.isTup=true) (hl:es.length≤16000) (hq:kget es k=none):MC σ (.ref id) (.builtin "dict.setdefault") [k,v] v (σ.put id (.dict (kset es k v)))
  | dpop {id:Nat} {es:List (AVal×AVal)} {k q:AVal} (h:σ.f id=some (.dict es)) (hk:Zdn es k) (ht:k.isTup=false) (hl:es.length≤16000) (hq:kget es k=some q):MC σ (.ref id) (.builtin "dict.pop") [k] q (σ.put id (.dict (kdel es k)))
  | isspace {c:Nat} (h:c < 128):MC σ (.str [c]) (.builtin "str.isspace") [] (.bool (Zbz c)) σ
  | split {t:CS} {c:Nat} (hl:t.length≤16000):MC σ (.str t) (.builtin "str.split") [.str [c]] (.lst ((Zu c t).map .str)) σ
  | join {t:CS} {ys:List CS} {xs:List AVal} (hx:xs=ys.map .str) (h1:(Yp t ys).length≤16000) (h2:ys.length≤16000) (h3:t.length≤1):MC σ (.str t) (.builtin "str.join") [.lst xs] (.str (Yp t ys)) σ
theorem Z52 {x:AVal} {fv:Value} {ys:List AVal} {r:AVal} (e:MC σ x fv ys r σ') (hA:A.units+30 < cLine) (I:Inv X W σ s) {u:Value} {vs:List Value} (hu:VRel W u x) (hv:VRels W vs ys) (h:Pst X W σ' r Q):wpAny (model pp X.w) A (call fv (u::vs)) Q E s:=by
  induction e with
  | append he hl=>exact hv.e1 λ v hv1=>Z5b I hu he hv1 hl h
  | extend he hj hne hl=>exact hv.e1 λ v hv1=>Z4s I hu he hv1 hj hne hl h
  | pop he hl=>exact hv.e0 (Z3j I hu he hl h)
  | index he c hn hi hl=>exact hv.e1 λ v hv1=>Zyt I hu he hv1 c hn hi hl hA h
  | setOld he hk ht hl hq=>exact hv.e2 λ v c hv1 hv2=>Zbr I hu he hv1 hv2 hk ht hl hA (λ q e=>Z7g (hq.symm.trans e)▸h) λ e=>nomatch hq.symm.trans e
  | setNew he hk ht hl hq=>exact hv.e2 λ v c hv1 hv2=>Zbr I hu he hv1 hv2 hk ht hl hA (λ q e=>nomatch hq.symm.trans e) λ e=>h
  | dpop he hk ht hl hq=>exact hv.e1 λ v hv1=>Zze I hu he hv1 hk ht hq hl h
  | isspace hc=>exact hv.e0 (hu.str_e λ t=>SC.isspace (by rw [Zow hc]; exact Pst.mk_bool I h))
  | split hl=>exact hv.e1 λ v hv1=>Zxl I hu hv1 hl h
  | join hx h1 h2 h3=>exact hv.e1 λ v hv1=>Z1r I hu hv1 hx h1 h2 h3 h
end PL
end
section
open PySem PySem.W PyProof.Rows PySem.SeqAt
namespace PL
variable {X:Cx} {W W' W'':Wd} {σ σ':St} {s s':Shared} {A:Around} {E:Value→Shared→Prop} {env:Env} {own:List Addr} {ν ν':Fm} {M:Model}
noncomputable def Zb9 (W:Wd) (Y:List Addr) (t:Addr→Tag):Wd:=λ b=>if b∈Y then t b else W b
theorem Zp4 {Y:List Addr} {t:Addr→Tag} {b:Addr} (h:b∈Y):Zb9 W Y t b=t b:=if_pos h
theorem Zft {Y:List Addr} {t:Addr→Tag} {b:Addr} (h:b ∉ Y):Zb9 W Y t b=W b:=if_neg h
theorem Zf7 {P:Addr→Tag→Prop} {Y:List Addr} {t:Addr→Tag} (h1:∀ b∈Y,P b (t b)) (h2:∀ b,b ∉ Y→P b (W b)) (b:Addr):P b (Zb9 W Y t b):=
  Classical.byCases (λ e:b∈Y=>by rw [Zp4 e]; exact h1 b e) λ e=>by rw [Zft e]; exact h2 b e
theorem Za2 {Y:List Addr} {t:Addr→Tag}:LeX Y W (Zb9 W Y t):=λ b hb zz=>Zft hb
theorem Inv.resets (I:Inv X W σ s) {Y:List Addr} {t:Addr→Tag} {h':Heap} {tk:Nat} (hY:∀ a∈Y,∃ o,W a=.imm o none) (hold:∀ a∈Y,X.s1.heap.get? a=none) (hk:∀ b o,b ∉ Y→s.heap.get? b=some o→h'.get? b=some o)
    (ht:∀ a,(t a).key=none) (ho:∀ a∈Y,TOK X (Zb9 W Y t) σ h' a (t a)):Inv X (Zb9 W Y t) σ { s with heap:=h',toks:=tk }:=
  have hN:NoVal W Y:=λ a ha=>.inr (hY a ha)
  have ne:∀ d id,W d=.dic id→d ∉ Y:=λ d id e q=>(hY d q).elim λ o h=>nomatch e.symm.trans h
  { base:=I.reb h' tk
    keep:=λ b o h=>(I.keep b o h).elim λ v e=>⟨v,(Zft λ q=>nomatch (hold b q).symm.trans h).trans e⟩
    uq:=λ b c k=>Zf7 (P:=λ b tb=>tb.key=some k→(Zb9 W Y t c).key=some k→b=c) (λ b zz e=>nomatch (ht b).symm.trans e) (λ b hb e=>Zf7 (P:=λ c tc=>tc.key=some k→b=c) (λ c zz e=>nomatch (ht c).symm.trans e) (λ c zz e'=>I.uq b c k e e') c) b
    fid:=I.fid
    tag:=Zf7 (P:=TOK X (Zb9 W Y t) σ h') ho λ b hb=>(I.tag b).keepX Za2 hN (hk b · hb) (λ zz zz d hd o=>hk d o (ne d _ hd)) (λ zz zz zz e=>e) (Z6q _) }
noncomputable def pinT (h':Heap) (a:Addr):Tag:=.imm ((h'.get? a).getD default) none
theorem Zuf {h':Heap} {a:Addr} {o:Obj} (e:h'.get? a=some o):pinT h' a=.imm o none:=by unfold pinT; rw [e]; rfl
theorem Inv.repins (I:Inv X W σ s) {Y:List Addr} {h':Heap} {tk:Nat} (hY:∀ a∈Y,∃ o,W a=.imm o none) (hold:∀ a∈Y,X.s1.heap.get? a=none) (hk:∀ b o,b ∉ Y→s.heap.get? b=some o→h'.get? b=some o)
    (hx:∀ a∈Y,∃ o,h'.get? a=some o):Inv X (Zb9 W Y (pinT h')) σ { s with heap:=h',toks:=tk }:=
  I.resets hY hold hk (λ zz=>rfl) λ a ha=>(hx a ha).elim λ o e=>by rw [Zuf e]; exact ⟨e,trivial⟩
theorem Z3l {Y:List Addr} {h':Heap} {a:Addr} {o:Obj} (ha:a∈Y) (e:h'.get? a=some o):Zb9 W Y (pinT h') a=.imm o none:=(Zp4 ha).trans (Zuf e)
theorem Inv.forgets (I:Inv X W σ s) {Y:List Addr} {h':Heap} {tk:Nat} (hY:∀ a∈Y,∃ o,W a=.imm o none) (hold:∀ a∈Y,X.s1.heap.get? a=none) (hk:∀ b o,b ∉ Y→s.heap.get? b=some o→h'.get? b=some o):
    Inv X (Zb9 W Y λ zz=>.free) σ { s with heap:=h',toks:=tk }:=I.resets hY hold hk (λ zz=>rfl) λ zz zz=>trivial
theorem mem1 {P:Addr→Prop} {a:Addr} (h:P a):∀ b∈[a],P b:=λ b hb=>(Z7c.mp hb)▸h
theorem memC {P:Addr→Prop} {a:Addr} {Y:List Addr} (h:P a) (h2:∀ b∈Y,P b):∀ b∈a::Y,P b:=λ b hb=>(Z7a.mp hb).elim (λ e=>e▸h) (h2 b)
theorem mem2 {P:Addr→Prop} {a b:Addr} (h:P a) (h2:P b):∀ c∈[a,b],P c:=memC h (mem1 h2)
theorem Z1f {a b:Addr} (h:b≠a):b ∉ [a]:=λ q=>h (Z7c.mp q)
theorem NoVal.of_pins {J:List Addr} (h:∀ a∈J,∃ o,W a=.imm o none):NoVal W J:=λ a ha=>.inr (h a ha)
theorem Inv.s1free (I:Inv X W σ s) {a:Addr} (h:W a=.free):X.s1.heap.get? a=none:=Option.eq_none_iff_forall_ne_some.mpr λ o e=>(I.keep a o e).elim λ v hv=>nomatch h.symm.trans hv
theorem Yv {Y:List Addr} {a:Addr} {o:Obj} {v} (h:W a=.imm o v) (l:LeX Y W W') (hY:a ∉ Y):W' a=.imm o v:=(l a hY (Zqz h)).trans h
theorem Zb0 {Y:List Addr} {a:Addr} {o:Obj} {v:AVal} (h:W a=.imm o (some v)) (l:LeX Y W W') (hN:NoVal W Y):W' a=.imm o (some v):=l.at hN h (λ q=>nomatch q) λ zz q=>nomatch q
theorem Z07 {Y:List Addr} {a:Addr} {id:Nat} (h:W a=.own id) (l:LeX Y W W') (hN:NoVal W Y):W' a=.own id:=l.at hN h (λ q=>nomatch q) λ zz q=>nomatch q
noncomputable abbrev Zba (vs:Array Value) (n:Nat):Obj:={ cls:=.type "list",data:=.seq vs n }
theorem Inv.adoptL (I:Inv X W σ s) {D:Addr} {vs:Array Value} {n:Nat} {ys:List AVal} (hD:W D=.imm (Zba vs n) none) (hold:X.s1.heap.get? D=none) (hr:VRels W vs.toList ys):
    Inv X (setW W D (.imm (Zba vs n) (some (.lst ys)))) σ s:=
  have hN:=NoVal.one hD
  have ho:=(I.imm hD).1
  have ne:∀ d id,W d=.dic id→d≠D:=λ d id e q=>nomatch (q▸e:W D=.dic id).symm.trans hD
  { base:=I.base,keep:=I.keepS hold,uq:=I.uq.set (λ zz e=>nomatch e),fid:=I.fid
    tag:=Qw (P:=TOK X (setW W D (.imm (Zba vs n) (some (.lst ys)))) σ s.heap) ⟨ho,vs,n,rfl,hr.monoX Zy hN⟩ λ b zz=>(I.tag b).keepX Zy hN (λ zz e=>e) (λ zz zz zz zz zz e=>e) (λ zz zz zz e=>e) (Z6q _) }
def NsO (o:Obj) (m:Str→Option Value):Prop:=∃ es ep,o.data=.dict es ep∧StrKeys es∧∀ name,nsFind es name=m name
theorem NsO.ns {h:Heap} {a:Addr} {o:Obj} {m} (x:NsO o m) (e:h.get? a=some o):h.Ns a m:=x.elim λ es x=>x.elim λ ep x=>⟨o,es,ep,e,x.1,x.2.1,x.2.2⟩
theorem NsO.of {h:Heap} {a:Addr} {m} (x:h.Ns a m):∃ o,h.get? a=some o∧NsO o m:=x.elim λ o x=>x.elim λ es x=>x.elim λ ep x=>⟨o,x.1,es,ep,x.2⟩
theorem NsO.nocell {o:Obj} {m} {cv:Option Value} (x:NsO o m) (h:o.data=.cell cv):False:=x.elim λ es x=>x.elim λ ep x=>nomatch x.1.symm.trans h
def CF (k:NameKind):Prop:=k=.cell∨k=.free
def CellR (W:Wd) (env:Env) (n:Str) (cv:Option Value):Prop:=∃ c o,env.cells.lookup n=some c∧W c=.imm o none∧o.data=.cell cv
structure Frm (X:Cx) (W:Wd) (env:Env) (own:List Addr) (ν:Fm):Prop where
  kind:env.scope.kind=.function
  glob:env.globals=mainGlobals
  blt:env.builtins=builtinsNs
  pin:∀ a∈own,∃ o,W a=.imm o none
  old:∀ a∈own,X.s1.heap.get? a=none
  ownL:env.locals∈own
  loc:∃ o m,W env.locals=.imm o none∧NsO o m∧∀ x v,env.kindOf (Str.ofString x)=some .local→ν x=some v→∃ cv,m (Str.ofString x)=some cv∧VRel W cv v
  cell:∀ n k,env.kindOf n=some k→CF k→∃ cv,CellR W env n cv
  val:∀ x v k,env.kindOf (Str.ofString x)=some k→CF k→ν x=some v→∃ cv,CellR W env (Str.ofString x) (some cv)∧VRel W cv v
structure FrmF (X:Cx) (W:Wd) (env:Env) (own:List Addr) (ν:Fm):Prop extends Frm X W env own ν where
  apart:env.cells.Pairwise λ x y=>x.2≠y.2
  ownC:∀ n c,env.kindOf n=some .cell→env.cells.lookup n=some c→c∈own
theorem Frm.to {Y:List Addr} (F:Frm X W env own ν) (ko:∀ a∈own,∀ o,W a=.imm o none→W' a=.imm o none) (kc:∀ n k c o cv,env.kindOf n=some k→CF k→env.cells.lookup n=some c→W c=.imm o none→o.data=.cell cv→W' c=.imm o none)
    (l:LeX Y W W') (hN:NoVal W Y):Frm X W' env own ν where
  kind:=F.kind
  glob:=F.glob
  blt:=F.blt
  pin:=λ a ha=>(F.pin a ha).elim λ o e=>⟨o,ko a ha o e⟩
  old:=F.old
  ownL:=F.ownL
  loc:=F.loc.elim λ o h=>h.elim λ m h=>⟨o,m,ko _ F.ownL o h.1,h.2.1,λ x v hk hv=>(h.2.2 x v hk hv).elim λ cv q=>⟨cv,q.1,q.2.monoX l hN⟩⟩
  cell:=λ n k hk hc=>(F.cell n k hk hc).elim λ cv h=>h.elim λ c h=>h.elim λ o h=>⟨cv,⟨c,o,h.1,kc n k c o cv hk hc h.1 h.2.1 h.2.2,h.2.2⟩⟩
  val:=λ x v k hk hc hv=>(F.val x v k hk hc hv).elim λ cv q=>q.1.elim λ c h=>h.elim λ o h=>⟨cv,⟨c,o,h.1,kc _ k c o _ hk hc h.1 h.2.1 h.2.2,h.2.2⟩,q.2.monoX l hN⟩
theorem Frm.mono (F:Frm X W env own ν) (l:Le W W'):Frm X W' env own ν:=F.to (λ zz zz zz e=>Qe e l) (λ zz zz zz zz zz zz zz zz e zz=>Qe e l) l NoVal.nil
theorem FrmF.mono (F:FrmF X W env own ν) (l:Le W W'):FrmF X W' env own ν:={ toFrm:=F.toFrm.mono l,apart:=F.apart,ownC:=F.ownC }
theorem Frm.noVal (F:Frm X W env own ν):NoVal W own:=.of_pins F.pin
theorem Frm.sub (F:Frm X W env own ν) (h:∀ y k v,env.kindOf (Str.ofString y)=some k→ν' y=some v→ν y=some v):Frm X W env own ν':=
  { F with
    loc:=F.loc.elim λ o q=>q.elim λ m q=>⟨o,m,q.1,q.2.1,λ x v hk hv=>q.2.2 x v hk (h x _ v hk hv)⟩
    val:=λ x v k hk hc hv=>F.val x v k hk hc (h x k v hk hv) }
def Off (env:Env) (own J:List Addr):Prop:=∀ a∈J,a ∉ own∧∀ p∈env.cells,p.2≠a
theorem Frm.monoX {J:List Addr} (F:Frm X W env own ν) (l:LeX J W W') (hN:NoVal W J) (hJ:Off env own J):Frm X W' env own ν:=
  F.to (λ a ha o e=>Yv e l λ hm=>(hJ a hm).1 ha) (λ n k c o cv zz zz hl e zz=>Yv e l λ hm=>(hJ c hm).2 _ (mem_of_lookup hl) rfl) l hN
theorem FrmF.offX {J:List Addr} {ν₀:Fm} {W₀:Wd} (F₀:FrmF X W₀ env own ν₀) (F:FrmF X W env own ν) (hJ:∀ a∈J,W₀ a=.free) (l:LeX J W W') (hN:NoVal W J):FrmF X W' env own ν:=
  { toFrm:=F.toFrm.to (λ a ha o e=>Yv e l λ hm=>(F₀.pin a ha).elim λ o' e'=>nomatch (hJ a hm).symm.trans e')
      (λ n k c o cv hk hc hl e zz=>Yv e l λ hm=>(F₀.cell n k hk hc).elim λ zz h=>h.elim λ c' h=>h.elim λ o' h=>by have q:=h.2.1; rw [Z7g (h.1.symm.trans hl),hJ c hm] at q; exact nomatch q) l hN
    apart:=F.apart,ownC:=F.ownC }
theorem Frm.load (F:Frm X W env own ν) (I:Inv X W σ s) {x:String} {v:AVal} (hv:ν x=some v) {k:NameKind} (hk:env.kindOf (Str.ofString x)=some k) (hc:k=.local∨CF k)
    (hd:(Str.ofString x==("__debug__":Str))=false) (hn:(Str.ofString x==("__classdict__":Str))=false) {pos:Pos} {Q:Value→Shared→Prop} (hq:∀ cv,VRel W cv v→Q cv s):wpAny M A (eval (.Name (Str.ofString x) pos) env) Q E s:=by
  rcases hc with rfl | hc
  · obtain ⟨o,m,e,n,h⟩:=F.loc
    obtain ⟨cv,h1,h2⟩:=h x v hk hv
    exact wpAny_Name (wpAny_loadName_local F.kind hk (n.ns (I.imm e).1) h1 (hq cv h2)) hd
  · obtain ⟨cv,⟨c,o,h1,h2,h3⟩,h4⟩:=F.val x v k hk hc hv
    rcases hc with rfl | rfl
    · exact wpAny_Name (wpAny_loadName_cell F.kind hk h1 ⟨o,(I.imm h2).1,h3⟩ (hq cv h4)) hd
    · exact wpAny_Name (wpAny_loadName_free F.kind hk h1 ⟨o,(I.imm h2).1,h3⟩ (hq cv h4) hn) hd
theorem Zi {β:Type} (f:String→Option β) (x:String) (v:β):upd f x v x=some v:=if_pos rfl
theorem Zez {β:Type} {f:String→Option β} {x y:String} {v:β} (h:y≠x):upd f x v y=f y:=if_neg h
theorem Zp8 {a:Addr} {o:Obj} (F:∀ b∈own,∃ o,W b=.imm o none):∀ b∈own,∃ o',setW W a (.imm o none) b=.imm o' none:=λ b hb=>
  Classical.byCases (λ e:b=a=>⟨o,e▸Zh ..⟩) λ e=>(F b hb).elim λ o' h=>⟨o',(Qh e).trans h⟩
theorem CellR.set {a:Addr} {o:Obj} {n:Str} {cv:Option Value} (h:CellR W env n cv) (hne:∀ c,env.cells.lookup n=some c→c≠a):CellR (setW W a (.imm o none)) env n cv:=
  h.elim λ c h=>h.elim λ oc h=>⟨c,oc,h.1,(Qh (hne c h.1)).trans h.2.1,h.2.2⟩
theorem CellR.ne {a:Addr} {o:Obj} {m} {n:Str} {cv:Option Value} (h:CellR W env n cv) (e:W a=.imm o none) (ho:NsO o m):∀ c,env.cells.lookup n=some c→c≠a:=λ c hc q=>
  h.elim λ c' h=>h.elim λ oc h=>by
    rw [h.1] at hc; rw [Z7g hc,q,e] at h
    injection h.2.1 with e1
    exact ho.nocell (e1▸h.2.2)
theorem Jo {x y:String} {u v:AVal} (h:upd ν x v y=some u):(y=x∧u=v)∨(y≠x∧ν y=some u):=
  Classical.byCases (λ e:y=x=>.inl ⟨e,Z7g (h.symm.trans (if_pos e))⟩) λ e=>.inr ⟨e,(Zez e).symm.trans h⟩
theorem Frm.storeL (F:Frm X W env own ν) (I:Inv X W σ s) {x:String} {v:AVal} {cv:Value} (hv:VRel W cv v) (hk:env.kindOf (Str.ofString x)=some .local) {Q:Unit→Shared→Prop}
    (h:∀ W' s',LeX [env.locals] W W'→Inv X W' σ s'→Frm X W' env own (upd ν x v)→Q () s'):wpAny M A (storeName env (Str.ofString x) cv) Q E s:=by
  obtain ⟨o,m,e,n,hl⟩:=F.loc
  refine wpAny_storeName_local hk (n.ns (I.imm e).1) (λ h' hn' hsb=>?_) (by rw [F.kind]; rfl)
  obtain ⟨o',ho',n'⟩:=NsO.of hn'
  have hY:=NoVal.one e
  refine h _ _ Zy (I.repin (tk:=s.toks+1) e (F.old _ F.ownL) hsb ho') ⟨F.kind,F.glob,F.blt,Zp8 F.pin,F.old,F.ownL,⟨o',_,Zh ..,n',λ y u hky hyu=>?_⟩,λ n1 k hk' hc'=>?_,λ y u k hk' hc' hyu=>?_⟩
  · rcases Jo hyu with ⟨q,q2⟩ | ⟨q,q2⟩
    · exact ⟨cv,if_pos (Z7r _ q),q2▸hv.monoX Zy hY⟩
    · obtain ⟨cu,h1,h2⟩:=hl y u hky q2
      exact ⟨cu,(if_neg λ z=>q (Yj z)).trans h1,h2.monoX Zy hY⟩
  · exact (F.cell n1 k hk' hc').elim λ cv' h=>⟨cv',h.set (h.ne e n)⟩
  · rcases Jo hyu with ⟨q,q2⟩ | ⟨q,q2⟩
    · rw [q,hk] at hk'; exact hc'.elim (λ z=>nomatch z▸hk') λ z=>nomatch z▸hk'
    · exact (F.val y u k hk' hc' q2).elim λ cv' h=>⟨cv',h.1.set (h.1.ne e n),h.2.monoX Zy hY⟩
theorem Zjh (F:FrmF X W env own ν) {n n':Str} {c c':Addr} (h:env.cells.lookup n=some c) (h':env.cells.lookup n'=some c') (hn:n'≠n):c'≠c:=λ q=>hn (name_of_addr F.apart (mem_of_lookup h') (q▸mem_of_lookup h))
theorem FrmF.store (F:FrmF X W env own ν) (I:Inv X W σ s) {x:String} {v:AVal} {cv:Value} (hv:VRel W cv v) (hk:env.kindOf (Str.ofString x)=some .local∨env.kindOf (Str.ofString x)=some .cell) {Q:Unit→Shared→Prop}
    (h:∀ W' s',LeX own W W'→Inv X W' σ s'→FrmF X W' env own (upd ν x v)→Q () s'):wpAny M A (storeName env (Str.ofString x) cv) Q E s:=by
  rcases hk with hk | hk
  · exact F.toFrm.storeL I hv hk λ W' s' hl I' F'=>h W' s' (hl.mono (mem1 F.ownL)) I' { toFrm:=F',apart:=F.apart,ownC:=F.ownC }
  · obtain ⟨cv₀,c,oc,h1,h2,h3⟩:=F.cell _ _ hk (.inl rfl)
    have hco:c∈own:=F.ownC _ _ hk h1
    refine wpAny_storeName_cell F.kind hk h1 ⟨oc,(I.imm h2).1,h3⟩ λ h' hc' hsb=>?_
    obtain ⟨o',ho',hd'⟩:=hc'
    have hY:=NoVal.one h2
    obtain ⟨o,m,e,n,hl⟩:=F.loc
    have hcl:env.locals≠c:=λ q=>by
      rw [q,h2] at e; injection e with e1
      exact n.nocell (e1▸h3)
    refine h _ _ (Zy.mono (mem1 hco)) (I.repin (tk:=s.toks) h2 (F.old _ hco) hsb ho') { kind:=F.kind,glob:=F.glob,blt:=F.blt,pin:=Zp8 F.pin,old:=F.old,ownL:=F.ownL,loc:=⟨o,m,(Qh hcl).trans e,n,λ y u hky hyu=>?_⟩,cell:=λ n' k hk' hc'=>?_,val:=λ y u k hk' hc' hyu=>?_,apart:=F.apart,ownC:=F.ownC }
    · rcases Jo hyu with ⟨q,q2⟩ | ⟨q,q2⟩
      · rw [q,hk] at hky; exact nomatch hky
      · obtain ⟨cu,h1,h2⟩:=hl y u hky q2
        exact ⟨cu,h1,h2.monoX Zy hY⟩
    · by_cases q:n'=Str.ofString x
      · exact ⟨some cv,c,o',q▸h1,Zh ..,hd'⟩
      · exact (F.cell n' k hk' hc').elim λ cv' h=>⟨cv',h.set λ c' hc=>Zjh F h1 hc q⟩
    · rcases Jo hyu with ⟨q,q2⟩ | ⟨q,q2⟩
      · exact ⟨cv,⟨c,o',q▸h1,Zh ..,hd'⟩,q2▸hv.monoX Zy hY⟩
      · exact (F.val y u k hk' hc' q2).elim λ cv' h=>⟨cv',h.1.set λ c' hc=>Zjh F h1 hc λ z=>q (Yj z),h.2.monoX Zy hY⟩
end PL
end
section
open PySem PySem.W PyProof.Rows PySem.SeqAt
namespace PL
variable {X:Cx} {W W':Wd} {σ σ':St} {s s':Shared} {A:Around} {E:Value→Shared→Prop} {Q:Value→Shared→Prop}
def TurnV (tup:Bool) (W:Wd) (v:Value) (x:List AVal):Prop:=@Bool.casesOn (λ zz=>Prop) tup (∃ a,x=[a]∧VRel W v a) (VRel W v (.tup x))
theorem TurnV.monoX {tup:Bool} {v:Value} {x:List AVal} {Y:List Addr} (h:TurnV tup W v x) (l:LeX Y W W') (hN:NoVal W Y):TurnV tup W' v x:=
  @Bool.casesOn (λ t=>TurnV t W v x→TurnV t W' v x) tup (λ h=>h.elim λ a e=>⟨a,e.1,e.2.monoX l hN⟩) (λ h=>@VRel.monoX W W' Y v (.tup x) h l hN) h
noncomputable def Z9 (e:Expr):Bool:=Zey (λ zz zz zz=>true) e
structure Src (X:Cx) (tg:Expr) (g:Option (Nat×List AVal)) (it:Value) (J:List Addr) (turns:List (List AVal)) where
  At:Nat→Wd→Prop
  old:∀ a∈J,X.s1.heap.get? a=none
  pin:∀ {i W},At i W→∀ a∈J,∃ o,W a=.imm o none
  mono:∀ {i W W' Y},At i W→LeX Y W W'→NoVal W Y→(∀ a∈J,a ∉ Y)→At i W'
  item:∀ {i:Nat} {x:List AVal} {W:Wd} {σ:St} {s:Shared} {A:Around} {Q:Value→Shared→Prop} {E:Value→Shared→Prop},turns[i]? = some x→At i W→Inv X W σ s→Jy g σ→(∀ W' v s',LeX J W W'→Inv X W' σ s'→At (i+1) W'→TurnV (Z9 tg) W' v x→Q v s')→
    wpAny (model pp X.w) A (pyNext it) (λ r s₁=>match r with | none=>False | some v=>wpAny (model pp X.w) A (letOwnedTupleGo tg it v) (λ zz s₂=>Q v s₂) E s₁) E s
  self:∀ {i:Nat} {W:Wd} {σ:St} {s:Shared} {A:Around} {Q:Value→Shared→Prop} {E:Value→Shared→Prop},At i W→Inv X W σ s→Q it s→wpAny (model pp X.w) A (pyIter it) Q E s
  stop:∀ {W:Wd} {σ:St} {s:Shared} {A:Around} {Q:Option Value→Shared→Prop} {E:Value→Shared→Prop},A.handled=none→At turns.length W→Inv X W σ s→Jy g σ→(∀ W' s',LeX J W W'→Inv X W' σ s'→Q none s')→wpAny (model pp X.w) A (pyNext it) Q E s
theorem F2.at {R:Value→AVal→Prop} {vs:Array Value} {xs:List AVal} (h:F2 R vs.toList xs) {i:Nat} {x:AVal} (e:xs[i]? = some x):∃ v,vs[i]? = some v∧R v x:=(h.get e).elim λ v q=>⟨v,Z7i.symm.trans q.1,q.2⟩
theorem F2.end {R:Value→AVal→Prop} {vs:Array Value} {xs:List AVal} (h:F2 R vs.toList xs):vs[xs.length]? = none:=Array.getElem?_eq_none (by rw [h.size]; exact Z6q _)
noncomputable def Zue (n:String):Bool:=!["enumerate","zip","dict_itemiterator","dict_reverseitemiterator","odict_iterator","itertools.zip_longest","itertools.pairwise"].contains n
theorem Zh1 {tg:Expr} {it:Addr} {v:Value} {o:Obj} {n:String} {QU:Unit→Shared→Prop} (ho:s.heap.get? it=some o) (hc:o.cls=.type n) (hn:Zue n=true) (h:QU () s):
    wpAny (model pp X.w) A (letOwnedTupleGo tg (.ref it) v) QU E s:=by
  replace hn:["enumerate","zip","dict_itemiterator","dict_reverseitemiterator","odict_iterator","itertools.zip_longest","itertools.pairwise"].contains n=false:=(Bool.not_eq_true' _).mp hn
  have core:∀ {es:List Expr} {k:Nat} {p:Pos},wpAny (model pp X.w) A (letOwnedTupleGo (.Tuple es k p) (.ref it) v) QU E s:=by
    intro es k p
    cases v <;> first | exact Z7q h | skip
    refine Z7p (wpAny_load ho ?_)
    obtain ⟨c,d,dt,sl⟩:=o
    dsimp only at hc; subst hc
    cases dt <;> first | exact Z7q h | skip
    exact iteE (motive:=λ t=>wpAny _ _ t _ _ _) (λ q=>absurd q (by rw [hn]; exact Z7w)) λ zz=>Z7q h
  cases tg with
  | Tuple a b c=>exact core
  | List a b=>exact core (es:=[]) (k:=0) (p:=default)
  | _=>exact Z7q h
structure Src1 (X:Cx) (tg:Expr) (g:Option (Nat×List AVal)) (it:Addr) (turns:List (List AVal)) (IO:Nat→Obj→Prop) (B:Wd→Prop):Prop where
  hold:X.s1.heap.get? it=none
  bm:∀ {W W' Y},B W→LeX Y W W'→NoVal W Y→B W'
  plain:∀ {i o},IO i o→∃ n,o.cls=.type n∧Zue n=true
  nxt:∀ {i:Nat} {x:List AVal} {W:Wd} {σ:St} {s:Shared} {A:Around} {Q:Option Value→Shared→Prop} {E:Value→Shared→Prop} {o:Obj},turns[i]? = some x→s.heap.get? it=some o→IO i o→B W→Inv X W σ s→Jy g σ→
    (∀ v h' tk o',h'.get? it=some o'→IO (i+1) o'→Heap.SameBut it s.heap h'→TurnV (Z9 tg) W v x→Q (some v) { s with heap:=h',toks:=tk })→wpAny (model pp X.w) A (pyNext (.ref it)) Q E s
  slf:∀ {i:Nat} {s:Shared} {A:Around} {Q:Value→Shared→Prop} {E:Value→Shared→Prop} {o:Obj},s.heap.get? it=some o→IO i o→Q (.ref it) s→wpAny (model pp X.w) A (pyIter (.ref it)) Q E s
  stp:∀ {W:Wd} {σ:St} {s:Shared} {A:Around} {Q:Option Value→Shared→Prop} {E:Value→Shared→Prop} {o:Obj},A.handled=none→s.heap.get? it=some o→IO turns.length o→B W→Inv X W σ s→Jy g σ→
    (∀ h',(∀ b o,b≠it→s.heap.get? b=some o→h'.get? b=some o)→Q none { s with heap:=h' })→wpAny (model pp X.w) A (pyNext (.ref it)) Q E s
noncomputable def Src1.src {tg:Expr} {g:Option (Nat×List AVal)} {it:Addr} {turns:List (List AVal)} {IO:Nat→Obj→Prop} {B:Wd→Prop} (S:Src1 X tg g it turns IO B):Src X tg g (.ref it) [it] turns where
  At i W:=(∃ o,W it=.imm o none∧IO i o)∧B W
  old:=mem1 S.hold
  pin h:=mem1 (h.1.elim λ o e=>⟨o,e.1⟩)
  mono h l hN hJ:=⟨h.1.elim λ o e=>⟨o,Yv e.1 l (hJ it (Z7c.mpr rfl)),e.2⟩,S.bm h.2 l hN⟩
  item:=λ {i x W σ s A Q E} hx hat I hst h=>hat.1.elim λ o e=>S.nxt hx (I.imm e.1).1 e.2 hat.2 I hst λ v h' tk o' ho' io hsb hv=>
    have ⟨n,hc,hn⟩:=S.plain io
    Zh1 (s:={ s with heap:=h',toks:=tk }) ho' hc hn (h _ v _ Zy (I.repin (tk:=tk) e.1 S.hold hsb ho') ⟨⟨o',Zh ..,io⟩,S.bm hat.2 Zy (NoVal.one e.1)⟩ (hv.monoX Zy (NoVal.one e.1)))
  self hat I h:=hat.1.elim λ o e=>S.slf (I.imm e.1).1 e.2 h
  stop:=λ {W σ s A Q E} hh hat I hst h=>hat.1.elim λ o e=>S.stp hh (I.imm e.1).1 e.2 hat.2 I hst λ h' hk=>
    h _ _ Za2 (I.forgets (Y:=[it]) (tk:=s.toks) (mem1 ⟨o,e.1⟩) (mem1 S.hold) λ b o hb he=>hk b o (λ q=>hb (Z7c.mpr q)) he)
noncomputable def Yo (tup:Bool) (x:AVal):List AVal:=@Bool.casesOn (λ zz=>List AVal) tup [x] (@AVal.casesOn (λ zz=>List AVal) x [] (λ zz=>[]) (λ zz=>[]) (λ zz=>[]) (λ xs=>xs) (λ zz=>[]) (λ zz=>[]))
theorem Zve {x:AVal} (h:x.isTup=true):∃ xs,x=.tup xs:=
  @AVal.casesOn (λ x=>x.isTup=true→∃ xs,x=.tup xs) x (λ h=>nomatch h) (λ zz h=>nomatch h) (λ zz h=>nomatch h) (λ zz h=>nomatch h) (λ xs zz=>⟨xs,rfl⟩) (λ zz h=>nomatch h) (λ zz h=>nomatch h) h
theorem Zpu {tup:Bool} {v:Value} {x:AVal} (h:VRel W v x) (ht:tup=true→x.isTup=true):TurnV tup W v (Yo tup x):=
  @Bool.casesOn (λ t=>(t=true→x.isTup=true)→TurnV t W v (Yo t x)) tup (λ zz=>⟨x,rfl,h⟩) (λ ht=>(Zve (ht rfl)).elim λ xs e=>by subst e; exact h) ht
def ItO (ty:String) (l:Value) (i:Nat) (o:Obj):Prop:=o.cls=.type ty∧o.data=.fields #[l,.int i 0]
section
variable {tg:Expr} {it l:Addr} {xs:List AVal}
theorem Ztu {g:Option (Nat×List AVal)} {B:Wd→Prop} (hold:X.s1.heap.get? it=none) (bm:∀ {W W' Y},B W→LeX Y W W'→NoVal W Y→B W') (hB:∀ {W σ s},B W→Inv X W σ s→Jy g σ→∃ vs,s.heap.PlainList l vs∧VRels W vs.toList xs)
    (htup:Z9 tg=true→∀ x∈xs,x.isTup=true):Src1 X tg g it (xs.map (Yo (Z9 tg))) (ItO "list_iterator" (.ref l)) B where
  hold:=hold
  bm:=bm
  plain h:=⟨_,h.1,rfl⟩
  nxt:=λ {i x W σ s A Q E o} hx ho io b I hst h=>by
    rw [List.getElem?_map] at hx
    obtain ⟨y,hy,rfl⟩:=Z7h.mp hx
    obtain ⟨vs,hl,hr⟩:=hB b I hst
    obtain ⟨v,hv1,hv2⟩:=hr.at hy
    exact wpAny_pyNext_list_item ⟨o,ho,io.1,io.2⟩ hl.isList hv1 λ h' hit hsb=>hit.elim λ o2 q=>h v h' s.toks o2 q.1 q.2 hsb (Zpu hv2 λ q=>htup q y (Z7z hy))
  slf ho io h:=wpAny_pyIter_listiter ⟨_,ho,io.1,io.2⟩ h
  stp hh ho io b I hst h:=by
    obtain ⟨vs,hl,hr⟩:=hB b I hst
    have:=io.2
    rw [Z68] at this
    exact wpAny_pyNext_list_end hh ⟨_,ho,io.1,this⟩ hl.isList hr.end h
theorem Z22 {ol:Obj} (hold:X.s1.heap.get? it=none) (htup:Z9 tg=true→∀ x∈xs,x.isTup=true):Src1 X tg none it (xs.map (Yo (Z9 tg))) (ItO "tuple_iterator" (.ref l)) λ W=>W l=.imm ol (some (.tup xs)) where
  hold:=hold
  bm:=Zb0
  plain h:=⟨_,h.1,rfl⟩
  nxt:=λ {i x W σ s A Q E o} hx ho io b I hst h=>by
    rw [List.getElem?_map] at hx
    obtain ⟨y,hy,rfl⟩:=Z7h.mp hx
    obtain ⟨hl,vs,n,e,hr⟩:=I.imm b
    obtain ⟨v,hv1,hv2⟩:=hr.at hy
    exact wpAny_pyNext_tuple_item ⟨o,ho,io.1,io.2⟩ ⟨_,hl,e▸rfl,n,e▸rfl⟩ hv1 λ h' hit hsb=>hit.elim λ o2 q=>h v h' s.toks o2 q.1 q.2 hsb (Zpu hv2 λ q=>htup q y (Z7z hy))
  slf ho io h:=wpAny_pyIter_tupleiter ⟨_,ho,io.1,io.2⟩ h
  stp hh ho io b I hst h:=by
    obtain ⟨hl,vs,n,e,hr⟩:=I.imm b
    have:=io.2
    rw [Z68] at this
    exact wpAny_pyNext_tuple_end hh ⟨_,ho,io.1,this⟩ ⟨_,hl,e▸rfl,n,e▸rfl⟩ hr.end h
theorem Z23 {t:CS} {tk:Tok} (hold:X.s1.heap.get? it=none) (htg:Z9 tg=false):Src1 X tg none it (t.map λ c=>[AVal.str [c]]) (ItO "str_ascii_iterator" (.str (st t) tk)) λ zz=>True where
  hold:=hold
  bm _ _ _:=trivial
  plain h:=⟨_,h.1,rfl⟩
  nxt:=λ {i x W σ s A Q E o} hx ho io b I hst h=>by
    rw [List.getElem?_map] at hx
    obtain ⟨y,hy,rfl⟩:=Z7h.mp hx
    exact wpAny_pyNext_ascii_item ⟨o,ho,io.1,io.2⟩ (c:=y) (Zlw.trans hy) λ h' hit hsb=>hit.elim λ o2 q=>h _ h' (s.toks+1) o2 q.1 q.2 hsb (htg▸⟨_,rfl,VRel.strs [y] _⟩)
  slf ho io h:=wpAny_pyIter_striter_ascii ⟨_,ho,io.1,io.2⟩ h
  stp hh ho io b I hst h:=by
    have:=io.2
    rw [Z68] at this
    exact wpAny_pyNext_ascii_end hh ⟨_,ho,io.1,this⟩ (List.getElem?_eq_none (Z6q _) |> Zlw.trans) h
theorem Z04 {n i:Nat} (h:i < n):(0:Int) < (n:Int)-i:=by lia
theorem Zx4 {n i:Nat}:(n:Int)-i-1=(n:Int)-((i+1:Nat):Int):=by lia
theorem Z24 {n:Nat} (hold:X.s1.heap.get? it=none) (htg:Z9 tg=false):Src1 X tg none it ((List.range n).map λ (i:Nat)=>[AVal.int i]) (λ i o=>o={ cls:=.type "range_iterator",dict:=none,data:=.fields #[rawInt i,rawInt ((n:Int)-i),rawInt 1],slots:=#[] }) λ zz=>True where
  hold:=hold
  bm _ _ _:=trivial
  plain h:=⟨"range_iterator",h▸rfl,rfl⟩
  nxt:=λ {i x W σ s A Q E o} hx ho io b I hst h=>by
    rw [List.getElem?_map] at hx
    obtain ⟨y,hy,rfl⟩:=Z7h.mp hx
    obtain ⟨hlt,hyi⟩:=Z7m.mp hy
    rw [List.getElem_range] at hyi
    subst hyi
    rw [List.length_range] at hlt
    exact wpAny_pyNext_range_item (io▸ho) (Z04 hlt) λ h' hit hsb=>h _ h' (s.toks+1) _ (Zx4▸hit) rfl hsb (htg▸⟨_,rfl,VRel.ints _ _⟩)
  slf ho io h:=wpAny_pyIter_rangeiter (io▸ho) h
  stp:=λ {W σ s A Q E o} hh ho io b I hst h=>by
    rw [Z68,List.length_range] at io
    exact wpAny_pyNext_range_end hh (io▸ho) (by lia) h
end
end PL
end
section
open PySem PySem.W PyProof.Rows PySem.SeqAt
namespace PL
variable {X:Cx} {W W':Wd} {σ σ':St} {s s':Shared} {A:Around} {E:Value→Shared→Prop} {Q:Value→Shared→Prop}
noncomputable abbrev Zwb (it:Addr) (i:Int) (old:Value):Obj:={ cls:=.type "enumerate",dict:=none,data:=.fields #[.none,.bool false,.ref it,rawInt i,.none,old],slots:=#[] }
noncomputable abbrev Z2w (TI TO:Addr):Obj:={ cls:=.type "zip",dict:=none,data:=.fields #[.none,.bool false,.bool false,.ref TI,.ref TO],slots:=#[] }
noncomputable abbrev Zj9 (a b:Value):Obj:={ cls:=.type "tuple",data:=.seq #[a,b] }
theorem Zth {tg:Expr} (h:Z9 tg=true):∃ es k p,tg=.Tuple es k p:=Jl (Q:=λ tg=>∃ es k p,tg=.Tuple es k p) h λ a b c zz=>⟨a,b,c,rfl⟩
theorem Inv.turn2 (I:Inv X W σ s) {Y:List Addr} {h':Heap} {tk:Nat} (hY:∀ a∈Y,∃ o,W a=.imm o none) (hold:∀ a∈Y,X.s1.heap.get? a=none) (hk:∀ b o,b ∉ Y→s.heap.get? b=some o→h'.get? b=some o) (hx:∀ a∈Y,∃ o,h'.get? a=some o)
    {a b:Value} {x y:AVal} (ha:VRel W a x) (hb:VRel W b y) (hT:h'.get? s.heap.objs.size=some (Zj9 a b)):
    ∃ W2,LeX Y W W2∧Inv X W2 σ { s with heap:=h',toks:=tk }∧VRel W2 (.ref s.heap.objs.size) (.tup [x,y])∧(∀ c o,c∈Y→h'.get? c=some o→W2 c=.imm o none)∧∀ c o v,W c=.imm o (some v)→W2 c=.imm o (some v):=by
  have hN:=NoVal.of_pins hY
  have hn:s.heap.objs.size ∉ Y:=λ q=>(hY _ q).elim λ o e=>Nat.lt_irrefl _ (Heap.lt_size (I.imm e).1)
  have I1:=I.repins (tk:=tk) hY hold hk hx
  have l1:LeX Y W (Zb9 W Y (pinT h')):=Za2
  have hf:Zb9 W Y (pinT h') s.heap.objs.size=.free:=(Zft hn).trans (I.free (Z6q _))
  have l2:Le (Zb9 W Y (pinT h')) (setW (Zb9 W Y (pinT h')) s.heap.objs.size (.imm (Zj9 a b) (some (.tup [x,y])))):=Y9 hf
  have hp:VRels (Zb9 W Y (pinT h')) [a,b] [x,y]:=⟨ha.monoX l1 hN,hb.monoX l1 hN,trivial⟩
  exact ⟨_,l1.trans l2.X,I1.pin hf hT (v:=some (.tup [x,y])) ⟨_,0,rfl,hp⟩,.tups (Zh ..),
    λ c o hc e=>Qe (Z3l hc e) l2,λ c o v e=>Qe (Zb0 e l1 hN) l2⟩
structure Z6n (W:Wd) (e it l:Addr) (ol:Obj) (xs:List AVal) (i:Nat):Prop where
  en:∃ old,W e=.imm (Zwb it i old) none
  itr:∃ o,W it=.imm o none∧ItO "list_iterator" (.ref l) i o
  lst:W l=.imm ol (some (.lst xs))
theorem Inv.stay (I:Inv X W σ s) {l:Addr} {ol:Obj} {xs:List AVal} (h:W l=.imm ol (some (.lst xs))):∃ vs,s.heap.PlainList l vs∧VRels W vs.toList xs:=(I.imm h).2.elim λ vs q=>q.elim λ n q=>⟨vs,⟨n,q.1▸(I.imm h).1⟩,q.2⟩
noncomputable def Z25 {tg:Expr} {e it l:Addr} {ol:Obj} {xs:List AVal} (hold:X.s1.heap.get? it=none) (holde:X.s1.heap.get? e=none) (hei:e≠it) (htg:Z9 tg=true):Src X tg none (.ref e) [e,it] (xs.zipIdx.map λ p=>[AVal.int (p.2:Nat),p.1]) where
  At i W:=Z6n W e it l ol xs i
  old:=mem2 holde hold
  pin h:=mem2 (h.en.elim λ zz q=>⟨_,q⟩) (h.itr.elim λ o q=>⟨o,q.1⟩)
  mono h l hN hJ:=⟨h.en.elim λ old q=>⟨old,Yv q l (hJ e Z66)⟩,h.itr.elim λ o q=>⟨o,Yv q.1 l (hJ it (Z67 _ Z66)),q.2⟩,Zb0 h.lst l hN⟩
  item:=λ {i x W σ s A Q E} hx hat I hst h=>by
    obtain ⟨old,h0⟩:=hat.en
    obtain ⟨o,h1,io⟩:=hat.itr
    obtain ⟨vs,hl,hr⟩:=I.stay hat.lst
    rw [List.getElem?_map] at hx
    obtain ⟨⟨y,j⟩,hy,rfl⟩:=Z7h.mp hx
    rw [List.getElem?_zipIdx] at hy
    obtain ⟨y',hy',hyy⟩:=Z7h.mp hy
    injection hyy with e1 e2
    rw [Nat.zero_add] at e2
    subst e1 e2
    obtain ⟨v,hv1,hv2⟩:=hr.at hy'
    obtain ⟨es,k,p,rfl⟩:=Zth htg
    refine wpAny_pyNext_enum_item (I.imm h0).1 ⟨o,(I.imm h1).1,io.1,io.2⟩ hl.isList hv1 hei λ h' hen hit hT hsz hk=>?_
    refine wpAny_letOwnedTupleGo_enum (s:={ s with heap:=h',toks:=s.toks+1 }) hen λ h'' hen' hsb=>?_
    obtain ⟨o2,ho2,hc2,hd2⟩:=hit
    have ho2':h''.get? it=some o2:=(hsb.2 it hei.symm).trans ho2
    obtain ⟨W2,l2,I2,hv,hp,hs⟩:=I.turn2 (Y:=[e,it]) (h':=h'') (tk:=s.toks+1) (mem2 ⟨_,h0⟩ ⟨o,h1⟩) (mem2 holde hold)
      (λ b o hb hh=>have hb1:b≠e:=λ q=>hb (q▸Z66); (hsb.2 b hb1).trans (hk b o hb1 (λ q=>hb (Z67 _ (Z7c.mpr q))) hh)) (mem2 ⟨_,hen'⟩ ⟨_,ho2'⟩)
      (VRel.ints (i:Int) s.toks) hv2 ((hsb.2 _ (Nat.ne_of_gt (Heap.lt_size (I.imm h0).1))).trans hT)
    exact h W2 _ _ l2 I2 ⟨⟨v,hp e _ Z66 hen'⟩,⟨o2,hp it _ (Z67 _ Z66) ho2',hc2,hd2⟩,hs l _ _ hat.lst⟩ hv
  self hat I h:=hat.en.elim λ old h0=>wpAny_pyIter_enum (I.imm h0).1 h
  stop:=λ {W σ s A Q E} hh hat I hst h=>by
    obtain ⟨old,h0⟩:=hat.en
    obtain ⟨o,h1,io⟩:=hat.itr
    obtain ⟨vs,hl,hr⟩:=I.stay hat.lst
    rw [Z68,List.length_zipIdx] at h0 io
    exact wpAny_pyNext_enum_end hh (I.imm h0).1 ⟨o,(I.imm h1).1,io.1,io.2⟩ hl.isList hr.end λ h' he=>
      h _ _ Za2 (I.forgets (Y:=[e,it]) (tk:=s.toks) (mem2 ⟨_,h0⟩ ⟨o,h1⟩) (mem2 holde hold) λ b o hb e=>he b o (λ q=>hb (Z67 _ (Z7c.mpr q))) e)
structure Z6h (W:Wd) (z TI TO i1 i2 l1 l2:Addr) (o1 o2:Obj) (xs ys:List AVal) (i:Nat):Prop where
  zo:W z=.imm (Z2w TI TO) none
  ti:W TI=.imm (Zj9 (.ref i1) (.ref i2)) none
  to:∃ a b,W TO=.imm (Zj9 a b) none
  a1:∃ o,W i1=.imm o none∧ItO "list_iterator" (.ref l1) i o
  a2:∃ o,W i2=.imm o none∧ItO "list_iterator" (.ref l2) i o
  b1:W l1=.imm o1 (some (.lst xs))
  b2:W l2=.imm o2 (some (.lst ys))
section
variable {z TI TO i1 i2:Addr}
theorem memz {P:Addr→Prop} (h1:P z) (h2:P TI) (h3:P TO) (h4:P i1) (h5:P i2):∀ b∈[z,TI,TO,i1,i2],P b:=memC h1 (memC h2 (memC h3 (mem2 h4 h5)))
theorem Z32 {b:Addr} (h:b ∉ [z,TI,TO,i1,i2]):b≠z∧b≠TI∧b≠TO∧b≠i1∧b≠i2:=
  ⟨λ q=>h (by rw [q]; exact .head _),λ q=>h (by rw [q]; exact .tail _ (.head _)),λ q=>h (by rw [q]; exact .tail _ (.tail _ (.head _))),λ q=>h (by rw [q]; exact .tail _ (.tail _ (.tail _ (.head _)))),λ q=>h (by rw [q]; exact .tail _ (.tail _ (.tail _ (.tail _ (.head _)))))⟩
end
structure Z6g (z TI TO i1 i2:Addr):Prop where
  zTI:z≠TI
  zTO:z≠TO
  zi1:z≠i1
  zi2:z≠i2
  TITO:TI≠TO
  TIi1:TI≠i1
  TIi2:TI≠i2
noncomputable def Z21 {tg:Expr} {z TI TO i1 i2 l1 l2:Addr} {o1 o2:Obj} {xs ys:List AVal} (D:ZipApart z TI TO i1 i2 l1 l2) (ne:Z6g z TI TO i1 i2) (hold:∀ a∈[z,TI,TO,i1,i2],X.s1.heap.get? a=none) (htg:Z9 tg=true):
    Src X tg none (.ref z) [z,TI,TO,i1,i2] ((xs.zip ys).map λ p=>[p.1,p.2]) where
  At i W:=Z6h W z TI TO i1 i2 l1 l2 o1 o2 xs ys i
  old:=hold
  pin h:=memz ⟨_,h.zo⟩ ⟨_,h.ti⟩ (h.to.elim λ zz q=>q.elim λ zz q=>⟨_,q⟩) (h.a1.elim λ o q=>⟨o,q.1⟩) (h.a2.elim λ o q=>⟨o,q.1⟩)
  mono h l hN hJ:=
    have j:=memz (z:=z) (TI:=TI) (TO:=TO) (i1:=i1) (i2:=i2) (P:=λ a=>a∈[z,TI,TO,i1,i2]) (.head _) (.tail _ (.head _)) (.tail _ (.tail _ (.head _))) (.tail _ (.tail _ (.tail _ (.head _)))) (.tail _ (.tail _ (.tail _ (.tail _ (.head _)))))
    ⟨Yv h.zo l (hJ _ (.head _)),Yv h.ti l (hJ _ (.tail _ (.head _))),h.to.elim λ a q=>q.elim λ b q=>⟨a,b,Yv q l (hJ _ (.tail _ (.tail _ (.head _))))⟩,h.a1.elim λ o q=>⟨o,Yv q.1 l (hJ _ (.tail _ (.tail _ (.tail _ (.head _))))),q.2⟩,
      h.a2.elim λ o q=>⟨o,Yv q.1 l (hJ _ (.tail _ (.tail _ (.tail _ (.tail _ (.head _)))))),q.2⟩,Zb0 h.b1 l hN,Zb0 h.b2 l hN⟩
  item:=λ {i x W σ s A Q E} hx hat I hst h=>by
    obtain ⟨p,q,h1⟩:=hat.to
    obtain ⟨o,h2,io⟩:=hat.a1
    obtain ⟨o',h3,io'⟩:=hat.a2
    obtain ⟨vs1,hl1,hr1⟩:=I.stay hat.b1
    obtain ⟨vs2,hl2,hr2⟩:=I.stay hat.b2
    rw [List.getElem?_map] at hx
    obtain ⟨⟨y1,y2⟩,hy,rfl⟩:=Z7h.mp hx
    rw [List.getElem?_zip_eq_some] at hy
    obtain ⟨v1,hv1,hr1'⟩:=hr1.at hy.1
    obtain ⟨v2,hv2,hr2'⟩:=hr2.at hy.2
    obtain ⟨es,k,ps,rfl⟩:=Zth htg
    refine wpAny_pyNext_zip_item D (I.imm hat.zo).1 (I.imm hat.ti).1 (I.imm h1).1 ⟨o,(I.imm h2).1,io.1,io.2⟩ ⟨o',(I.imm h3).1,io'.1,io'.2⟩ hl1.isList hl2.isList hv1 hv2 λ h' hz hTO hi1 hi2 hT hsz hk=>?_
    refine wpAny_letOwnedTupleGo_zip (s:={ s with heap:=h' }) hz λ h'' hz' hsb=>?_
    obtain ⟨p2,hp2,hp2c,hp2d⟩:=hi1
    obtain ⟨p3,hp3,hp3c,hp3d⟩:=hi2
    have kp:∀ b o,b≠z→h'.get? b=some o→h''.get? b=some o:=λ b o hb e=>(hsb.2 b hb).trans e
    have eTI:=kp _ _ ne.zTI.symm (hk TI _ ne.zTI.symm ne.TITO ne.TIi1 ne.TIi2 (I.imm hat.ti).1)
    have eTO:=kp _ _ ne.zTO.symm hTO
    have e1:=kp _ _ ne.zi1.symm hp2
    have e2:=kp _ _ ne.zi2.symm hp3
    obtain ⟨W2,lx,I2,hv,hp,hs⟩:=I.turn2 (Y:=[z,TI,TO,i1,i2]) (h':=h'') (tk:=s.toks) (memz ⟨_,hat.zo⟩ ⟨_,hat.ti⟩ ⟨_,h1⟩ ⟨_,h2⟩ ⟨_,h3⟩) hold
      (λ b o hb e=>have n:=Z32 hb; kp b o n.1 (hk b o n.1 n.2.2.1 n.2.2.2.1 n.2.2.2.2 e)) (memz ⟨_,hz'⟩ ⟨_,eTI⟩ ⟨_,eTO⟩ ⟨_,e1⟩ ⟨_,e2⟩) hr1' hr2' (kp _ _ (Nat.ne_of_gt (Heap.lt_size (I.imm hat.zo).1)) hT)
    exact h W2 _ _ lx I2 ⟨hp _ _ (.head _) hz',hp _ _ (.tail _ (.head _)) eTI,⟨v1,v2,hp _ _ (.tail _ (.tail _ (.head _))) eTO⟩,⟨p2,hp _ _ (.tail _ (.tail _ (.tail _ (.head _)))) e1,hp2c,hp2d⟩,
      ⟨p3,hp _ _ (.tail _ (.tail _ (.tail _ (.tail _ (.head _))))) e2,hp3c,hp3d⟩,hs _ _ _ hat.b1,hs _ _ _ hat.b2⟩ hv
  self hat I h:=wpAny_pyIter_zip (I.imm hat.zo).1 h
  stop:=λ {W σ s A Q E} hh hat I hst h=>by
    obtain ⟨p,q,h1⟩:=hat.to
    obtain ⟨o,h2,io⟩:=hat.a1
    obtain ⟨o',h3,io'⟩:=hat.a2
    obtain ⟨vs1,hl1,hr1⟩:=I.stay hat.b1
    obtain ⟨vs2,hl2,hr2⟩:=I.stay hat.b2
    rw [Z68,List.length_zip] at io io'
    refine wpAny_pyNext_zip_end hh D (I.imm hat.zo).1 (I.imm hat.ti).1 (I.imm h1).1 ⟨o,(I.imm h2).1,io.1,io.2⟩ ⟨o',(I.imm h3).1,io'.1,io'.2⟩ hl1.isList hl2.isList ?_ λ h' hk=>
      h _ _ Za2 (I.forgets (Y:=[z,TI,TO,i1,i2]) (tk:=s.toks) (memz ⟨_,hat.zo⟩ ⟨_,hat.ti⟩ ⟨_,h1⟩ ⟨_,h2⟩ ⟨_,h3⟩) hold λ b o hb e=>have n:=Z32 hb; hk b o n.1 n.2.2.1 n.2.2.2.1 n.2.2.2.2 e)
    rcases Nat.le_total xs.length ys.length with q | q
    · left; rw [Nat.min_eq_left q]; exact hr1.end
    · right; rw [Nat.min_eq_right q]; exact hr2.end
end PL
end
section
open PySem PySem.W PyProof.Rows PySem.SeqAt
namespace PL
variable {X:Cx} {W W':Wd} {σ σ':St} {s s':Shared} {A:Around} {E:Value→Shared→Prop} {Q:Value→Shared→Prop}
inductive SrcR (σ:St):Nat→List AVal→List (List AVal)→Option (Nat×List AVal)→Prop
  | str {t:CS} (h:∀ c∈t,c < 128):SrcR σ 0 [.str t] (t.map λ c=>[AVal.str [c]]) none
  | ref {id:Nat} {xs:List AVal} (h:σ.f id=some (.list xs)):SrcR σ 0 [.ref id] (xs.map λ x=>[x]) (some (id,xs))
  | lst (xs:List AVal):SrcR σ 0 [.lst xs] (xs.map λ x=>[x]) none
  | tup (xs:List AVal):SrcR σ 0 [.tup xs] (xs.map λ x=>[x]) none
  | lst2 {xs:List AVal} (h:∀ x∈xs,x.isTup=true):SrcR σ 1 [.lst xs] (xs.map (Yo true)) none
  | tup2 {xs:List AVal} (h:∀ x∈xs,x.isTup=true):SrcR σ 1 [.tup xs] (xs.map (Yo true)) none
  | rng {n:Nat} (h:n≤16000):SrcR σ 2 [.int n] ((List.range n).map λ (i:Nat)=>[AVal.int i]) none
  | enu (xs:List AVal):SrcR σ 3 [.lst xs] (xs.zipIdx.map λ p=>[AVal.int (p.2:Nat),p.1]) none
  | zip (xs ys:List AVal):SrcR σ 4 [.lst xs,.lst ys] ((xs.zip ys).map λ p=>[p.1,p.2]) none
def Made (X:Cx) (tg:Expr) (g:Option (Nat×List AVal)) (turns:List (List AVal)) (σ:St) (W:Wd) (it:Value) (s₂:Shared):Prop:=
  ∃ J W',∃ S:Src X tg g it J turns,Le W W'∧Inv X W' σ s₂∧S.At 0 W'∧∀ a∈J,W a=.free
theorem Made.le {tg g turns it} {s₂:Shared} (h:Made X tg g turns σ W' it s₂) (l:Le W W') (hf:∀ a,W' a=.free→W a=.free):Made X tg g turns σ W it s₂:=
  h.elim λ J h=>h.elim λ W2 h=>h.elim λ S h=>⟨J,W2,S,l.trans h.1,h.2.1,h.2.2.1,λ a ha=>hf a (h.2.2.2 a ha)⟩
theorem Zt6 {a b:Addr} {o:Obj} {v} (h:setW W a (.imm o v) b=.free):W b=.free:=
  Classical.byCases (λ e:b=a=>by rw [e,Zh] at h; exact nomatch h) λ e=>(Qh e).symm.trans h
theorem Zux (I:Inv X W σ s) {tg:Expr} {g:Option (Nat×List AVal)} {turns:List (List AVal)} {IO:Nat→Obj→Prop} {B:Wd→Prop} {o:Obj} (hfr:o.isFreed=false) (io:IO 0 o) (b:B W) (S:X.s1.heap.get? s.heap.objs.size=none→Src1 X tg g s.heap.objs.size turns IO B):
    Made X tg g turns σ W (.ref s.heap.objs.size) { s with heap:=s.heap.push o }:=by
  have hf:=I.free (a:=s.heap.objs.size) (Z6q _)
  have S:=S (I.s1free hf)
  obtain ⟨I',l'⟩:=I.alloc (o:=o) (v:=none) s.toks hfr trivial
  exact ⟨_,_,S.src,l',I',⟨⟨_,Zh ..,io⟩,S.bm b l' NoVal.nil⟩,mem1 hf⟩
theorem Zka {tg:Expr} {xs:List AVal} (h:Z9 tg=false):xs.map (Yo (Z9 tg))=xs.map λ x=>[x]:=by rw [h]; rfl
theorem Zps {tg:Expr} {xs:List AVal} (h:Z9 tg=true):xs.map (Yo (Z9 tg))=xs.map (Yo true):=by rw [h]
theorem Zmo {tg:Expr} {xs:List AVal} (I:Inv X W σ s) {v:Value} (hv:VRel W v (.lst xs)) (hall:Z9 tg=true→∀ x∈xs,x.isTup=true) (h:∀ it s₂,Made X tg none (xs.map (Yo (Z9 tg))) σ W it s₂→Q it s₂):wpAny (model pp X.w) A (pyIter v) Q E s:=by
  obtain ⟨a,rfl,o,ha⟩:=hv
  obtain ⟨vs,hl,hr⟩:=I.stay ha
  exact wpAny_pyIter_list hl.isList (h _ _ (Zux I (IO:=ItO "list_iterator" (.ref a)) (B:=λ W=>W a=.imm o (some (.lst xs))) rfl ⟨rfl,rfl⟩ ha λ hold=>Ztu hold Zb0 (λ b I zz=>I.stay b) hall))
theorem Zqv {tg:Expr} {xs:List AVal} (I:Inv X W σ s) {v:Value} (hv:VRel W v (.tup xs)) (hall:Z9 tg=true→∀ x∈xs,x.isTup=true) (h:∀ it s₂,Made X tg none (xs.map (Yo (Z9 tg))) σ W it s₂→Q it s₂):wpAny (model pp X.w) A (pyIter v) Q E s:=by
  obtain ⟨a,rfl,o,ha⟩:=hv
  obtain ⟨hl,vs,n,e,hr⟩:=I.imm ha
  exact wpAny_pyIter_tuple ⟨_,e▸hl,rfl,n,rfl⟩ (h _ _ (Zux I (IO:=ItO "tuple_iterator" (.ref a)) (B:=λ W=>W a=.imm o (some (.tup xs))) rfl ⟨rfl,rfl⟩ ha λ hold=>Z22 hold hall))
theorem Zwx {t:CS} (h:∀ c∈t,c < 128):(st t).cps.all (· < 128)=true:=by
  rw [Array.all_eq_true_iff_forall_mem]
  exact λ c hc=>Z7s (h c (Array.mem_toList_iff.mpr hc))
theorem Zur {tg:Expr} {P:Prop} (h:Z9 tg=false) (q:Z9 tg=true):P:=nomatch h.symm.trans q
theorem Z4g {tg:Expr} {x:AVal} {turns g} (htg:Z9 tg=false) (e:SrcR σ 0 [x] turns g) (I:Inv X W σ s) {v:Value} (hv:VRel W v x) (h:∀ it s₂,Made X tg g turns σ W it s₂→Q it s₂):wpAny (model pp X.w) A (pyIter v) Q E s:=by
  cases e with
  | @str t ha=>
    obtain ⟨tk,rfl⟩:=hv
    exact wpAny_pyIter_ascii (Zwx ha) (h _ _ (Zux I (IO:=ItO "str_ascii_iterator" (.str (st t) tk)) (B:=λ zz=>True) rfl ⟨rfl,rfl⟩ trivial λ hold=>Z23 hold htg))
  | @ref id xs he=>
    obtain ⟨a,rfl,hW,vs,hl,hr⟩:=I.obj hv he
    refine wpAny_pyIter_list hl.isList (h _ _ (Zux I (IO:=ItO "list_iterator" (.ref a)) (B:=λ W=>W a=.own id) rfl ⟨rfl,rfl⟩ hW λ hold=>Zka htg▸Ztu hold Z07 (λ {W σ s} b I hst=>?_) (Zur htg)))
    obtain ⟨o',ho',O⟩:=I.own b
    rw [hst _ rfl] at ho'
    rw [← Z7g ho'] at O
    exact O
  | lst xs=>exact Zmo I hv (Zur htg) λ it s2 m=>h it s2 (Zka htg▸m)
  | tup xs=>exact Zqv I hv (Zur htg) λ it s2 m=>h it s2 (Zka htg▸m)
theorem Z6a {tg:Expr} {x:AVal} {turns g} (htg:Z9 tg=true) (e:SrcR σ 1 [x] turns g) (I:Inv X W σ s) {v:Value} (hv:VRel W v x) (h:∀ it s₂,Made X tg g turns σ W it s₂→Q it s₂):wpAny (model pp X.w) A (pyIter v) Q E s:=by
  cases e with
  | lst2 ha=>exact Zmo I hv (λ zz=>ha) λ it s2 m=>h it s2 (Zps htg▸m)
  | tup2 ha=>exact Zqv I hv (λ zz=>ha) λ it s2 m=>h it s2 (Zps htg▸m)
theorem Zt4 {n:Nat} (h:n≤16000):Builtin.Range.small 0 n 1=true∧Builtin.Range.rangeSize 0 n 1=n:=by
  have e:Builtin.Range.rangeSize 0 n 1=n:=by
    unfold Builtin.Range.rangeSize
    simp only [show (1:Int) > 0 by decide,if_true]
    split
    · lia
    · lia
  refine ⟨?_,e⟩
  unfold Builtin.Range.small
  rw [e]
  unfold Builtin.Range.rangeFitsLong
  simp
  lia
theorem Z59 {tg:Expr} {x:AVal} {turns g} (htg:Z9 tg=false) (e:SrcR σ 2 [x] turns g) (I:Inv X W σ s) {v:Value} (hv:VRel W v x) (h:∀ it s₂,Made X tg g turns σ W it s₂→Q it s₂):
    wpAny (model pp X.w) A (call (.type "range") [v]) (λ x s₁=>wpAny (model pp X.w) A (pyIter x) Q E s₁) E s:=by
  cases e with
  | @rng n hn=>
    obtain ⟨t,rfl⟩:=hv
    obtain ⟨h1,h2⟩:=Zt4 hn
    refine call_range_1 ?_
    obtain ⟨I',l'⟩:=I.alloc (o:={ cls:=.type "range",data:=.fields #[.int 0 s.toks,.int n t,.int 1 (s.toks+1)] }) (v:=none) (s.toks+1+1) rfl trivial
    refine wpAny_pyIter_range (s:={ s with heap:=s.heap.push _,toks:=s.toks+1+1 }) (Z7o _ rfl) h1 (h _ _ (Made.le ?_ l' λ a=>Zt6))
    rw [h2]
    exact Zux I' (B:=λ zz=>True) rfl (by rw [show (n:Int)-((0:Nat):Int)=n from Int.sub_zero _]; rfl) trivial λ hold=>Z24 hold htg
theorem Z58 {tg:Expr} {x:AVal} {turns g} (htg:Z9 tg=true) (e:SrcR σ 3 [x] turns g) (I:Inv X W σ s) {v:Value} (hv:VRel W v x) (h:∀ it s₂,Made X tg g turns σ W it s₂→Q it s₂):
    wpAny (model pp X.w) A (call (.type "enumerate") [v]) (λ x s₁=>wpAny (model pp X.w) A (pyIter x) Q E s₁) E s:=by
  cases e with
  | enu xs=>
    obtain ⟨a,rfl,o,ha⟩:=hv
    obtain ⟨vs,hl,hr⟩:=I.stay ha
    have hf:=I.free (a:=s.heap.objs.size) (Z6q _)
    have hf2:=I.free (a:=s.heap.objs.size+1) (Nat.le_succ _)
    refine call_enumerate_list hl.isList λ h' hen hit hsz hk=>wpAny_pyIter_enum (s:={ s with heap:=h' }) hen (h _ _ ?_)
    obtain ⟨o2,ho2,hc2,hd2⟩:=hit
    have I2:=(I.keeps (tk:=s.toks) hk).pin (a:=s.heap.objs.size) (v:=none) hf ho2 trivial
    have l1:Le W (setW W s.heap.objs.size (.imm o2 none)):=Y9 hf
    have hf2':setW W s.heap.objs.size (.imm o2 none) (s.heap.objs.size+1)=.free:=(Qh (Nat.succ_ne_self _)).trans hf2
    have l2:=Y9 (t:=.imm (Zwb s.heap.objs.size ((0:Nat):Int) .none) none) hf2'
    exact ⟨_,_,Z25 (it:=s.heap.objs.size) (e:=s.heap.objs.size+1) (l:=a) (ol:=o) (I.s1free hf) (I.s1free hf2) (Nat.succ_ne_self _) htg,l1.trans l2,I2.pin (v:=none) hf2' hen trivial,⟨⟨.none,Zh ..⟩,⟨o2,Qe (Zh ..) l2,hc2,hd2⟩,Qe ha (l1.trans l2)⟩,mem2 hf2 hf⟩
theorem Zmg {a b:Addr} (h:@LT.lt Nat _ a b):a≠b:=Nat.ne_of_lt h
theorem n_ne {N i j:Nat} (h:i≠j):@Ne Addr (N+i) (N+j):=λ q=>h (Nat.add_left_cancel q)
theorem Inv.pinN (I:Inv X W σ s) {N k:Nat} {o:Obj} (hf:∀ j,k≤j→W (N+j)=.free) (ho:s.heap.get? (N+k)=some o):Inv X (setW W (N+k) (.imm o none)) σ s∧Le W (setW W (N+k) (.imm o none))∧∀ j,k+1≤j→setW W (N+k) (.imm o none) (N+j)=.free:=
  ⟨I.pin (hf k (Z6q _)) ho trivial,Y9 (hf k (Z6q _)),λ j hj=>(Qh (n_ne (Nat.ne_of_gt hj))).trans (hf j (Z61 hj))⟩
theorem Z57 {tg:Expr} {x y:AVal} {turns g} (htg:Z9 tg=true) (e:SrcR σ 4 [x,y] turns g) (I:Inv X W σ s) {v u:Value} (hv:VRel W v x) (hu:VRel W u y) (h:∀ it s₂,Made X tg g turns σ W it s₂→Q it s₂):
    wpAny (model pp X.w) A (call (.type "zip") [v,u]) (λ x s₁=>wpAny (model pp X.w) A (pyIter x) Q E s₁) E s:=by
  cases e with
  | zip xs ys=>
    obtain ⟨a,rfl,o,ha⟩:=hv
    obtain ⟨b,rfl,p,hb⟩:=hu
    obtain ⟨vs,hl,hr⟩:=I.stay ha
    obtain ⟨us,hl2,hr2⟩:=I.stay hb
    have hla:=I.fr a (Zqz ha)
    have hlb:=I.fr b (Zqz hb)
    have hfr:∀ k,0≤k→W (s.heap.objs.size+k)=.free:=λ k zz=>I.free (Z6r _ _)
    refine call_zip_2 hl.isList hl2.isList λ h' hz hTI hTO hi1 hi2 hsz hk=>wpAny_pyIter_zip (s:={ s with heap:=h' }) hz (h _ _ ?_)
    have I0:=I.keeps (tk:=s.toks) hk
    obtain ⟨o1,ho1,hc1,hd1⟩:=hi1
    obtain ⟨o2,ho2,hc2,hd2⟩:=hi2
    generalize s.heap.objs.size=N at*
    obtain ⟨I1,l1,f1⟩:=I0.pinN hfr (k:=0) ho1
    obtain ⟨I2,l2,f2⟩:=I1.pinN f1 ho2
    obtain ⟨I3,l3,f3⟩:=I2.pinN f2 hTI
    obtain ⟨I4,l4,f4⟩:=I3.pinN f3 hTO
    obtain ⟨I5,l5,f5⟩:=I4.pinN f4 hz
    have na:∀ j,a≠N+j:=λ j=>Zmg (Z6t hla (Z6r _ _))
    have nb:∀ j,b≠N+j:=λ j=>Zmg (Z6t hlb (Z6r _ _))
    have D:ZipApart (N+4) (N+2) (N+3) N (N+1) a b:=⟨n_ne (by decide),n_ne (by decide),n_ne (i:=0) (by decide),n_ne (by decide),n_ne (by decide),n_ne (j:=0) (by decide),n_ne (by decide),n_ne (j:=0) (by decide),n_ne (by decide),n_ne (i:=0) (by decide),na 4,na 3,na 0,na 1,nb 4,nb 3,nb 0,nb 1⟩
    have s:=λ k=>I.s1free (hfr k (Z63 k))
    have l45:=l4.trans l5
    have l345:=l3.trans l45
    have l25:=l2.trans l345
    have l15:=l1.trans l25
    exact ⟨_,_,Z21 (z:=N+4) (TI:=N+2) (TO:=N+3) (i1:=N) (i2:=N+1) (l1:=a) (l2:=b) (o1:=o) (o2:=p) D ⟨n_ne (by decide),n_ne (by decide),n_ne (j:=0) (by decide),n_ne (by decide),n_ne (by decide),n_ne (j:=0) (by decide),n_ne (by decide)⟩ (memz (s 4) (s 2) (s 3) (s 0) (s 1)) htg,
      l15,I5,⟨Zh ..,Qe (Zh ..) l45,⟨.none,.none,Qe (Zh ..) l5⟩,⟨o1,Qe (Zh ..) l25,hc1,hd1⟩,⟨o2,Qe (Zh ..) l345,hc2,hd2⟩,Qe ha l15,Qe hb l15⟩,
      memz (hfr 4 (Z63 _)) (hfr 2 (Z63 _)) (hfr 3 (Z63 _)) (hfr 0 (Z63 _)) (hfr 1 (Z63 _))⟩
end PL
end
section
open PySem PySem.W PyProof.Rows PySem.SeqAt
namespace PL
structure AOK (k:Nat) (A:Around):Prop where
  hh:A.handled=none
  dp:A.depth+3*k+3 < recursionLimit
  un:A.units+10*k+100 < cLine
theorem AOK.mono {k j:Nat} {A:Around} (h:AOK k A) (hj:j≤k):AOK j A:=⟨h.hh,by have:=h.dp; lia,by have:=h.un; lia⟩
theorem AOK.u30 {k:Nat} {A:Around} (h:AOK k A):A.units+30 < cLine:=by have:=h.un; lia
structure Cfg (X:Cx) (j:Nat) (W:Wd) (env:Env) (own:List Addr) (ν:Fm) (σ:St) (A:Around) (s:Shared):Prop where
  frm:Frm X W env own ν
  room:AOK (2*j+1) A
  inv:Inv X W σ s
section
variable {X:Cx} {j:Nat} {W W':Wd} {env:Env} {own:List Addr} {ν:Fm} {σ σ':St} {A:Around} {s s':Shared}
theorem Cfg.to (c:Cfg X j W env own ν σ A s) (l:Le W W') (I:Inv X W' σ' s'):Cfg X j W' env own ν σ' A s':=⟨c.frm.mono l,c.room,I⟩
theorem Cfg.un (c:Cfg X j W env own ν σ A s):A.units+30 < cLine:=c.room.u30
def PsT (X:Cx) (W:Wd) (σ':St) (b:Bool) (Q:Bool→Shared→Prop):Prop:=∀ W' s',Le W W'→Inv X W' σ' s'→Q b s'
theorem Pst.le {r:AVal} {Q:Value→Shared→Prop} (h:Pst X W σ r Q) (l:Le W W'):Pst X W' σ r Q:=λ W2 v s2 l2=>h W2 v s2 (l.trans l2)
theorem PsT.le {b:Bool} {Q:Bool→Shared→Prop} (h:PsT X W σ b Q) (l:Le W W'):PsT X W' σ b Q:=λ W2 s2 l2=>h W2 s2 (l.trans l2)
end
def EvV (j:Nat) (e:PE) (ν:Fm) (σ:St) (r:AVal) (σ':St):Prop:=∀ {X:Cx} {x:Expr} {env:Env} {own:List Addr} {W:Wd} {A:Around} {s:Shared} {E:Value→Shared→Prop} {Q:Value→Shared→Prop},
  e env.scope x=true→Cfg X j W env own ν σ A s→Pst X W σ' r Q→wpAny (model pp X.w) A (eval x env) Q E s
def EvT (j:Nat) (e:PE) (ν:Fm) (σ:St) (b:Bool) (σ':St):Prop:=∀ {X:Cx} {x:Expr} {env:Env} {own:List Addr} {W:Wd} {A:Around} {s:Shared} {E:Value→Shared→Prop} {Q:Bool→Shared→Prop},
  e env.scope x=true→Cfg X j W env own ν σ A s→PsT X W σ' b Q→wpAny (model pp X.w) A (isTrue x env (eval x env)) Q E s
structure EvE (j:Nat) (e:PE) (ν:Fm) (σ:St) (r:AVal) (σ':St):Prop where
  val:EvV j e ν σ r σ'
  tst:∀ b,r=.bool b→EvT j e ν σ b σ'
inductive EvEs (j:Nat) (ν:Fm):List PE→St→List AVal→St→Prop
  | nil (σ:St):EvEs j ν [] σ [] σ
  | cons {e:PE} {es:List PE} {σ σ1 σ2:St} {v:AVal} {vs:List AVal} (h:EvE j e ν σ v σ1) (hs:EvEs j ν es σ1 vs σ2):EvEs j ν (e::es) σ (v::vs) σ2
def Zw9 (x:Expr):Prop:=∀ (env:Env) (whole:Sem Value),isTrue x env whole=(do let v ← whole; standAt x.pos; holding [v] (truthy v))
section
variable {j:Nat} {ν ν':Fm} {σ σ1 σ2 σ3 σ4:St} {x y z w v:AVal} {a b c e t o i l h s:PE} {es src ifs:List PE} {us vs ws xs ys:List AVal} {n m f q:String} {r:AVal} {id:Nat}
theorem EvE.plain (hp:∀ {sc:Scope} {x:Expr},e sc x=true→Zw9 x) (h:EvV j e ν σ r σ1):EvE j e ν σ r σ1:=⟨h,λ b hb {X x env own W A s E Q} hf c hq=>by
  rw [hp hf]
  subst hb
  refine Z7p (h hf c λ W1 v s1 l1 I1 hv=>Z7p (wpAny_standAt (wpAny_holding ?_)))
  rw [hv.bool]
  exact wpAny_truthy_bool (hq W1 s1 l1 I1)⟩
inductive CstR:AVal→Const→Prop
  | none:CstR .none .none
  | bool (b:Bool):CstR (.bool b) (.bool b)
  | int (i:Int):CstR (.int i) (.int i)
  | str (c:CS):CstR (.str c) (.str ⟨c.toArray⟩)
theorem Znm {v:AVal} {c:Const} (h:Zwq v c=true):CstR v c:=by
  unfold Zwq at h
  cases c with
  | none=>exact @AVal.casesOn (λ v=>@AVal.casesOn (λ zz=>Bool) v true (λ zz=>false) (λ zz=>false) (λ zz=>false) (λ zz=>false) (λ zz=>false) (λ zz=>false)=true→CstR v .none) v (λ zz=>.none) (λ zz h=>nomatch h) (λ zz h=>nomatch h) (λ zz h=>nomatch h) (λ zz h=>nomatch h) (λ zz h=>nomatch h) (λ zz h=>nomatch h) h
  | bool p=>exact @AVal.casesOn (λ v=>@AVal.casesOn (λ zz=>Bool) v false (λ a=>a==p) (λ zz=>false) (λ zz=>false) (λ zz=>false) (λ zz=>false) (λ zz=>false)=true→CstR v (.bool p)) v (λ h=>nomatch h) (λ a h=>Z7u h▸.bool a) (λ zz h=>nomatch h) (λ zz h=>nomatch h) (λ zz h=>nomatch h) (λ zz h=>nomatch h) (λ zz h=>nomatch h) h
  | int k=>exact @AVal.casesOn (λ v=>@AVal.casesOn (λ zz=>Bool) v false (λ zz=>false) (λ a=>a==k) (λ zz=>false) (λ zz=>false) (λ zz=>false) (λ zz=>false)=true→CstR v (.int k)) v (λ h=>nomatch h) (λ zz h=>nomatch h) (λ a h=>Z7u h▸.int a) (λ zz h=>nomatch h) (λ zz h=>nomatch h) (λ zz h=>nomatch h) (λ zz h=>nomatch h) h
  | str t=>exact @AVal.casesOn (λ v=>@AVal.casesOn (λ zz=>Bool) v false (λ zz=>false) (λ zz=>false) (λ c=>t==⟨c.toArray⟩) (λ zz=>false) (λ zz=>false) (λ zz=>false)=true→CstR v (.str t)) v (λ h=>nomatch h) (λ zz h=>nomatch h) (λ zz h=>nomatch h) (λ a h=>Z7u h▸.str a) (λ zz h=>nomatch h) (λ zz h=>nomatch h) (λ zz h=>nomatch h) h
  | _=>exact nomatch h
theorem Ze:EvE j (.cst v) ν σ v σ:=.plain (λ h=>J1 h λ zz zz zz zz zz zz=>rfl) λ {X x env own W A s E Q} hf c hq=>J1 hf λ k kk p hk=>by
  cases Znm hk with
  | none=>exact wpAny_Constant_none (hq.mk c.inv (show VRel W .none .none from rfl))
  | bool b=>exact wpAny_Constant_bool (Pst.mk_bool c.inv hq)
  | int i=>exact wpAny_Constant_int (Pst.mk_int c.inv hq)
  | str t=>exact wpAny_Constant_str (Pst.mk_str c.inv hq)
theorem Zpe {k:Int} (h:EvE j e ν σ (.int k) σ1):EvE j (.neg e) ν σ (.int (-k)) σ1:=⟨λ {X x env own W A s E Q} hf c hq=>Zeb hf λ op y p h2=>by
  have ho:=(and2 h2).1
  have hf:=(and2 h2).2
  obtain rfl:=(Z7u ho).symm
  exact PyProof.Rows.UnaryOp_ (h.val hf c λ W1 v s1 l1 I1 hv=>hv.int_e λ t=>PySem.P.neg_int (Pst.mk_int I1 (hq.le l1))),λ b hb=>nomatch hb⟩
theorem Zxc {sc:Scope} {n:Str} (h:vis sc n=true):(∃ kd,sc.names.lookup n=some kd∧(kd=.local∨CF kd))∧(n==("__debug__":Str))=false∧(n==("__classdict__":Str))=false:=by
  have h1:=(and2 h).1
  have h2:=(and2 h).2
  have h3:=(and2 h2).1
  have h4:=(and2 h2).2
  refine ⟨Zm (Q:=λ o=>∃ kd,o=some kd∧(kd=.local∨CF kd)) h1 (λ q=>no q) λ k hk=>⟨k,rfl,?_⟩,(Bool.not_eq_true' _).mp h3,(Bool.not_eq_true' _).mp h4⟩
  exact ((Bool.or_eq_true_iff.mp hk).imp Z7u λ q=>(Bool.or_eq_true_iff.mp q).imp Z7u Z7u)
theorem Zc (h:ν n=some v):EvE j (.loc n) ν σ v σ:=.plain (λ h=>Y2 h λ zz zz zz zz zz=>rfl) λ {X x env own W A s E Q} hf c hq=>Y2 hf λ m p h2=>by
  have ho:=(and2 h2).1
  have hf:=(and2 h2).2
  obtain rfl:=(Z7u ho).symm
  obtain ⟨⟨kd,hk,hc⟩,hd,hn⟩:=Zxc hf
  exact c.frm.load c.inv h hk hc hd hn λ cv hv=>hq.mk c.inv hv
theorem Qi {op:Operator} (ha:EvE j a ν σ x σ1) (hb:EvE j b ν σ1 y σ2) (h:BinR σ2 op x y v):EvE j (.bin op a b) ν σ v σ2:=.plain (λ h=>Zaq h λ zz zz zz zz zz zz zz=>rfl) λ {X x env own W A s E Q} hf c hq=>Zaq hf λ l o r p h2=>by
  have ho:=(and2 h2).1
  have hf:=(and2 h2).2
  obtain rfl:=(Z7u ho).symm
  have hf1:=(and2 hf).1
  have hf2:=(and2 hf).2
  exact wpAny_BinOp (ha.val hf1 c λ W1 v s1 l1 I1 hv=>hb.val hf2 (c.to l1 I1) λ W2 u s2 l2 I2 hu=>Z43 h I2 (hv.mono l2) hu (hq.le (l1.trans l2)))
theorem Z6e (ha:EvE j a ν σ x σ1) (hb:EvE j b ν σ1 y σ2) (hx:LOf σ2 x xs) (hy:LOf σ2 y ys) (hl:xs.length+ys.length≤16000):EvE j (.cat a b) ν σ (.ref σ2.n) (σ2.new (.list (xs++ys))):=.plain (λ h=>Zaq h λ zz zz zz zz zz zz zz=>rfl) λ {X x env own W A s E Q} hf c hq=>Zaq hf λ l o r p h2=>by
  have ho:=(and2 h2).1
  have hf:=(and2 h2).2
  obtain rfl:=(Z7u ho).symm
  exact wpAny_BinOp (ha.val (and2 hf).1 c λ W1 v s1 l1 I1 hv=>hb.val (and2 hf).2 (c.to l1 I1) λ W2 u s2 l2 I2 hu=>Zw4 hx hy hl I2 (hv.mono l2) hu λ hr=>Pst.new_list (tk:=s2.toks) I2 (hq.le (l1.trans l2)) (λ zz zz e=>Z7n _ e) (Zx _) ⟨0,Z7o _ rfl⟩ hr)
theorem Za8 {op:CmpOp} {r:Expr} (h:Zgi r=true):behindInMarks op r=false:=by
  cases r <;> first | rfl | exact nomatch h
theorem Zo {op:CmpOp} {p:Bool} (ha:EvE j a ν σ x σ1) (hb:EvE j b ν σ1 y σ2) (h:CmpR σ2 op x y p):EvE j (.cmp op a b) ν σ (.bool p) σ2:=
  ⟨λ {X x env own W A s E Q} hf c hq=>Jb hf λ l os rs p h2=>by
    have ho:=(and2 h2).1
    have hf:=(and2 h2).2
    have hf1:=(and2 hf).1
    have hf:=(and2 hf).2
    refine Qr (Q:=λ os=>wpAny _ _ (eval (.Compare l os rs p) env) Q E s) ho λ o ho=>Qr (Q:=λ rs=>wpAny _ _ (eval (.Compare l [o] rs p) env) Q E s) hf λ r hf=>?_
    obtain rfl:=(Z7u ho).symm
    exact wpAny_Compare1 (ha.val hf1 c λ W1 v s1 l1 I1 hv=>hb.val (and2 hf).1 (c.to l1 I1) λ W2 u s2 l2 I2 hu=>Zjg h I2 (hv.mono l2) hu c.un (hq.le (l1.trans l2))) (Za8 (and2 hf).2),
  λ bb hbb {X x env own W A s E Q} hf c hq=>Jb hf λ l os rs p h2=>by
    injection hbb with hbb
    subst hbb
    have ho:=(and2 h2).1
    have hf:=(and2 h2).2
    have hf1:=(and2 hf).1
    have hf:=(and2 hf).2
    refine Qr (Q:=λ os=>wpAny _ _ (isTrue (.Compare l os rs p) env (eval (.Compare l os rs p) env)) Q E s) ho λ o ho=>Qr (Q:=λ rs=>wpAny _ _ (isTrue (.Compare l [o] rs p) env (eval (.Compare l [o] rs p) env)) Q E s) hf λ r hf=>?_
    obtain rfl:=(Z7u ho).symm
    exact wpAny_isTrue_Compare1 (ha.val hf1 c λ W1 v s1 l1 I1 hv=>hb.val (and2 hf).1 (c.to l1 I1) λ W2 u s2 l2 I2 hu=>Zjg h I2 (hv.mono l2) hu c.un λ W3 v s3 l3 I3 hc=>hc.bool_e (wpAny_truthy_bool (hq W3 s3 ((l1.trans l2).trans l3) I3))) (Za8 (and2 hf).2)⟩
theorem Z0a {o1 o2:CmpOp} {r1 r2:Expr} (h:Zgi r2=true):lastMarks [o1,o2] [r1,r2]=false:=Za8 h
theorem Zk9 {o1 o2:CmpOp} {p:Bool} (ha:EvE j a ν σ x σ1) (hb:EvE j b ν σ1 y σ2) (h:CmpR σ2 o1 x y true) (hc:EvE j c ν σ2 z σ3) (h2:CmpR σ3 o2 y z p):EvE j (.cmp2 a o1 b o2 c) ν σ (.bool p) σ3:=
  ⟨λ {X x env own W A s E Q} hf C hq=>Jb hf λ l os rs p hh=>by
    have ho:=(and2 hh).1
    have hf:=(and2 hh).2
    have hf1:=(and2 hf).1
    have hf:=(and2 hf).2
    refine Zct (Q:=λ os=>wpAny _ _ (eval (.Compare l os rs p) env) Q E s) ho λ p1 p2 ho=>Zct (Q:=λ rs=>wpAny _ _ (eval (.Compare l [p1,p2] rs p) env) Q E s) hf λ r t hf=>?_
    obtain rfl:=(Z7u (and2 ho).1).symm
    obtain rfl:=(Z7u (and2 ho).2).symm
    have hf2:=(and2 hf).1
    have hf:=(and2 hf).2
    exact PyProof.Rows.Compare_chain (ha.val hf1 C λ W1 v s1 l1 I1 hv=>PyProof.Rows.chain_link (hb.val hf2 (C.to l1 I1) λ W2 u s2 l2 I2 hu=>Zjg h I2 (hv.mono l2) hu C.un λ W3 v s3 l3 I3 hc3=>hc3.bool_e (wpAny_truthy_bool (PyProof.Rows.chain_last
      (hc.val (and2 hf).1 (C.to ((l1.trans l2).trans l3) I3) λ W4 w s4 l4 I4 hw=>Zjg h2 I4 ((hu.mono l3).mono l4) hw C.un (hq.le (((l1.trans l2).trans l3).trans l4))))))) (Z0a (and2 hf).2),
  λ bb hbb {X x env own W A s E Q} hf C hq=>Jb hf λ l os rs p hh=>by
    injection hbb with hbb
    subst hbb
    have ho:=(and2 hh).1
    have hf:=(and2 hh).2
    have hf1:=(and2 hf).1
    have hf:=(and2 hf).2
    refine Zct (Q:=λ os=>wpAny _ _ (isTrue (.Compare l os rs p) env (eval (.Compare l os rs p) env)) Q E s) ho λ p1 p2 ho=>Zct (Q:=λ rs=>wpAny _ _ (isTrue (.Compare l [p1,p2] rs p) env (eval (.Compare l [p1,p2] rs p) env)) Q E s) hf λ r t hf=>?_
    obtain rfl:=(Z7u (and2 ho).1).symm
    obtain rfl:=(Z7u (and2 ho).2).symm
    have hf2:=(and2 hf).1
    have hf:=(and2 hf).2
    exact PyProof.Rows.isTrue_chain (ha.val hf1 C λ W1 v s1 l1 I1 hv=>PyProof.Rows.test_link (hb.val hf2 (C.to l1 I1) λ W2 u s2 l2 I2 hu=>Zjg h I2 (hv.mono l2) hu C.un λ W3 v s3 l3 I3 hc3=>hc3.bool_e (wpAny_truthy_bool (PyProof.Rows.test_last
      (hc.val (and2 hf).1 (C.to ((l1.trans l2).trans l3) I3) λ W4 w s4 l4 I4 hw=>Zjg h2 I4 ((hu.mono l3).mono l4) hw C.un λ W5 v s5 l5 I5 hc5=>hc5.bool_e (wpAny_truthy_bool (hq W5 s5 ((((l1.trans l2).trans l3).trans l4).trans l5) I5))))))) (Z0a (and2 hf).2)⟩
end
end PL
end
section
open PySem PySem.W PyProof.Rows PySem.SeqAt
namespace PL
section
variable {sc:Scope} {x:Expr} {C:Expr→Prop} {a b c:PE}
@[elab_as_elim] theorem Zlh (h:PE.and a b sc x=true) (f:∀ l r p,a sc l=true→b sc r=true→C (.BoolOp .And [l,r] p)):C x:=Zbv h λ o vs p h=>
  Zct (Q:=λ vs=>C (.BoolOp o vs p)) (and2 h).2 λ l r hf=>(Z7u (and2 h).1).symm▸f l r p (and2 hf).1 (and2 hf).2
@[elab_as_elim] theorem Zp9 (h:PE.or a b sc x=true) (f:∀ l r p,a sc l=true→b sc r=true→C (.BoolOp .Or [l,r] p)):C x:=Zbv h λ o vs p h=>
  Zct (Q:=λ vs=>C (.BoolOp o vs p)) (and2 h).2 λ l r hf=>(Z7u (and2 h).1).symm▸f l r p (and2 hf).1 (and2 hf).2
@[elab_as_elim] theorem Zuj (h:PE.or3 a b c sc x=true) (f:∀ l r t p,a sc l=true→b sc r=true→c sc t=true→C (.BoolOp .Or [l,r,t] p)):C x:=Zbv h λ o vs p h=>
  Z1t (Q:=λ vs=>C (.BoolOp o vs p)) (and2 h).2 λ l r t hf=>(Z7u (and2 h).1).symm▸f l r t p (and2 hf).1 (and2 (and2 hf).2).1 (and2 (and2 hf).2).2
@[elab_as_elim] theorem Zuo (h:PE.not a sc x=true) (f:∀ y p,a sc y=true→C (.UnaryOp .Not y p)):C x:=Zeb h λ o y p h=>(Z7u (and2 h).1).symm▸f y p (and2 h).2
end
section
variable {j:Nat} {ν ν':Fm} {σ σ1 σ2 σ3 σ4:St} {x y z w v:AVal} {a b c e t o i l h s:PE} {es src ifs:List PE} {us vs ws xs ys:List AVal} {n m f q:String} {r:AVal} {id:Nat}
theorem EvT.congr {b b':Bool} (h:EvT j e ν σ b σ1) (hb:AVal.bool b=.bool b'):EvT j e ν σ b' σ1:=by injection hb with hb; exact hb▸h
theorem EvE.mkB {p:Bool} (h:EvV j e ν σ (.bool p) σ1) (ht:EvT j e ν σ p σ1):EvE j e ν σ (.bool p) σ1:=⟨h,λ zz hb=>ht.congr hb⟩
theorem EvE.te {p:Bool} (h:EvE j e ν σ (.bool p) σ1):EvT j e ν σ p σ1:=h.tst p rfl
theorem Zc0 (ha:EvE j a ν σ (.bool false) σ1):EvE j (.and a b) ν σ (.bool false) σ1:=.mkB
  (λ {X x env own W A s E Q} hf c hq=>Zlh hf λ l r p h1 h2=>PyProof.Rows.BoolOp_and (ha.val h1 c λ W1 v s1 l1 I1 hv=>hv.bool_e (wpAny_truthy_bool (Pst.mk_bool I1 (hq.le l1)))))
  (λ {X x env own W A s E Q} hf c hq=>Zlh hf λ l r p h1 h2=>PyProof.Rows.isTrue_and (ha.te h1 c hq))
theorem Jw {p:Bool} (ha:EvE j a ν σ (.bool true) σ1) (hb:EvE j b ν σ1 (.bool p) σ2):EvE j (.and a b) ν σ (.bool p) σ2:=.mkB
  (λ {X x env own W A s E Q} hf c hq=>Zlh hf λ l r p h1 h2=>PyProof.Rows.BoolOp_and (ha.val h1 c λ W1 v s1 l1 I1 hv=>hv.bool_e (wpAny_truthy_bool (PyProof.Rows.BoolOp_one (hb.val h2 (c.to l1 I1) (hq.le l1))))))
  (λ {X x env own W A s E Q} hf c hq=>Zlh hf λ l r ps h1 h2=>PyProof.Rows.isTrue_and (ha.te h1 c λ W1 s1 l1 I1=>PyProof.Rows.isTrue_and (hb.te h2 (c.to l1 I1) λ W2 s2 l2 I2=>by
    cases p
    · exact hq W2 s2 (l1.trans l2) I2
    · exact PyProof.Rows.isTrue_and_nil (hq W2 s2 (l1.trans l2) I2))))
theorem Z0i (ha:EvE j a ν σ (.bool true) σ1):EvE j (.or a b) ν σ (.bool true) σ1:=.mkB
  (λ {X x env own W A s E Q} hf c hq=>Zp9 hf λ l r p h1 h2=>PyProof.Rows.BoolOp_or (ha.val h1 c λ W1 v s1 l1 I1 hv=>hv.bool_e (wpAny_truthy_bool (Pst.mk_bool I1 (hq.le l1)))))
  (λ {X x env own W A s E Q} hf c hq=>Zp9 hf λ l r p h1 h2=>PyProof.Rows.isTrue_or (ha.te h1 c hq))
theorem J0 {p:Bool} (ha:EvE j a ν σ (.bool false) σ1) (hb:EvE j b ν σ1 (.bool p) σ2):EvE j (.or a b) ν σ (.bool p) σ2:=.mkB
  (λ {X x env own W A s E Q} hf c hq=>Zp9 hf λ l r p h1 h2=>PyProof.Rows.BoolOp_or (ha.val h1 c λ W1 v s1 l1 I1 hv=>hv.bool_e (wpAny_truthy_bool (PyProof.Rows.BoolOp_one (hb.val h2 (c.to l1 I1) (hq.le l1))))))
  (λ {X x env own W A s E Q} hf c hq=>Zp9 hf λ l r ps h1 h2=>PyProof.Rows.isTrue_or (ha.te h1 c λ W1 s1 l1 I1=>PyProof.Rows.isTrue_or (hb.te h2 (c.to l1 I1) λ W2 s2 l2 I2=>by
    cases p
    · exact PyProof.Rows.isTrue_or_nil (hq W2 s2 (l1.trans l2) I2)
    · exact hq W2 s2 (l1.trans l2) I2)))
theorem Zhj {p:Bool} (ha:EvE j a ν σ (.bool false) σ1) (hb:EvE j b ν σ1 (.bool false) σ2) (hc:EvE j c ν σ2 (.bool p) σ3):EvE j (.or3 a b c) ν σ (.bool p) σ3:=.mkB
  (λ {X x env own W A s E Q} hf C hq=>Zuj hf λ l r t p h1 h2 h3=>PyProof.Rows.BoolOp_or (ha.val h1 C λ W1 v s1 l1 I1 hv=>hv.bool_e (wpAny_truthy_bool (PyProof.Rows.BoolOp_or (hb.val h2 (C.to l1 I1) λ W2 v s2 l2 I2 hv=>hv.bool_e (wpAny_truthy_bool
    (PyProof.Rows.BoolOp_one (hc.val h3 (C.to (l1.trans l2) I2) (hq.le (l1.trans l2))))))))))
  (λ {X x env own W A s E Q} hf C hq=>Zuj hf λ l r t ps h1 h2 h3=>PyProof.Rows.isTrue_or (ha.te h1 C λ W1 s1 l1 I1=>PyProof.Rows.isTrue_or (hb.te h2 (C.to l1 I1) λ W2 s2 l2 I2=>PyProof.Rows.isTrue_or (hc.te h3 (C.to (l1.trans l2) I2) λ W3 s3 l3 I3=>by
    cases p
    · exact PyProof.Rows.isTrue_or_nil (hq W3 s3 ((l1.trans l2).trans l3) I3)
    · exact hq W3 s3 ((l1.trans l2).trans l3) I3))))
theorem Zhk {p:Bool} (ha:EvE j a ν σ (.bool p) σ1):EvE j (.not a) ν σ (.bool !p) σ1:=.mkB
  (λ {X x env own W A s E Q} hf c hq=>Zuo hf λ y p h1=>PyProof.Rows.UnaryOp_ (ha.val h1 c λ W1 v s1 l1 I1 hv=>hv.bool_e (PyProof.Rows.not_of (wpAny_truthy_bool (Pst.mk_bool I1 (hq.le l1))))))
  (λ {X x env own W A s E Q} hf c hq=>Zuo hf λ y p h1=>PyProof.Rows.isTrue_not (ha.te h1 c hq))
theorem Zd4 (ht:EvE j t ν σ (.bool true) σ1) (h:EvE j a ν σ1 v σ2):EvE j (.cond t a b) ν σ v σ2:=
  ⟨λ {X x env own W A s E Q} hf c hq=>Zap hf λ u l r p h2=>PyProof.Rows.IfExp_ (ht.te (and2 h2).1 c λ W1 s1 l1 I1=>h.val (and2 (and2 h2).2).1 (c.to l1 I1) (hq.le l1)),
  λ bb hb {X x env own W A s E Q} hf c hq=>Zap hf λ u l r p h2=>PyProof.Rows.isTrue_IfExp (ht.te (and2 h2).1 c λ W1 s1 l1 I1=>h.tst bb hb (and2 (and2 h2).2).1 (c.to l1 I1) (hq.le l1))⟩
theorem Zd5 (ht:EvE j t ν σ (.bool false) σ1) (h:EvE j b ν σ1 v σ2):EvE j (.cond t a b) ν σ v σ2:=
  ⟨λ {X x env own W A s E Q} hf c hq=>Zap hf λ u l r p h2=>PyProof.Rows.IfExp_ (ht.te (and2 h2).1 c λ W1 s1 l1 I1=>h.val (and2 (and2 h2).2).2 (c.to l1 I1) (hq.le l1)),
  λ bb hb {X x env own W A s E Q} hf c hq=>Zap hf λ u l r p h2=>PyProof.Rows.isTrue_IfExp (ht.te (and2 h2).1 c λ W1 s1 l1 I1=>h.tst bb hb (and2 (and2 h2).2).2 (c.to l1 I1) (hq.le l1))⟩
theorem Ys (ha:EvE j a ν σ x σ1) (hb:EvE j i ν σ1 y σ2) (h:IdxR σ2 x y v):EvE j (.idx a i) ν σ v σ2:=.plain (λ h=>Yw h λ zz zz zz zz zz zz=>rfl) λ {X x env own W A s E Q} hf c hq=>Yw hf λ u r p h2=>
  PyProof.Rows.Subscript_ (ha.val (and2 h2).1 c λ W1 v s1 l1 I1 hv=>hb.val (and2 (and2 h2).2).1 (c.to l1 I1) λ W2 u s2 l2 I2 hu=>
    have g:=Z4i (E:=E) (A:=A) h I2 (hv.mono l2) hu c.un (hq.le (l1.trans l2))
    Zto g.1 g.2)
theorem Zuk (h:EvE j e ν σ v σ1) {X:Cx} {oe:Option Expr} {env:Env} {own:List Addr} {W:Wd} {A:Around} {s:Shared} {E:Value→Shared→Prop} {Q:Value→Shared→Prop} (hf:PE.opt e env.scope oe=true) (hn:oe=none→v=.none∧σ1=σ) (c:Cfg X j W env own ν σ A s) (hq:Pst X W σ1 v Q):
    wpAny (model pp X.w) A (valueOrNone (evalOpt oe env)) Q E s:=by
  cases oe with
  | some y=>exact h.val hf c hq
  | none=>obtain ⟨rfl,rfl⟩:=hn rfl; exact Z7q (hq.mk c.inv (show VRel W .none .none from rfl))
structure OptE (j:Nat) (e:PE) (ν:Fm) (σ:St) (v:AVal) (σ':St):Prop where
  ev:EvE j e ν σ v σ'
  no:∀ sc,e sc (.Constant .none 0 default)=true→v=.none∧σ'=σ
theorem Zr2:3≤sizeLine+2:=by rw [sizeLine_eq]; exact Z6y rfl
theorem Zbp (ha:EvE j a ν σ x σ1) (hl:OptE j l ν σ1 y σ2) (hh:OptE j h ν σ2 z σ3) (hs:OptE j s ν σ3 w σ4) (hv:SlcR σ4 x y z w v):EvE j (.slc a l h s) ν σ v σ4:=.plain (λ h=>Yw h λ zz zz zz zz zz zz=>rfl) λ {X x env own W A st E Q} hf c hq=>Yw hf λ u sl p h2=>by
  have hf1:=(and2 h2).1
  have hf:=(and2 h2).2
  refine PyProof.Rows.Subscript_ (ha.val hf1 c λ W1 v s1 l1 I1 hv1=>?_)
  refine Zph hf λ lo up stp p2 h3=>?_
  have f1:=(and2 h3).1
  have h3:=(and2 h3).2
  have f2:=(and2 h3).1
  have f3:=(and2 h3).2
  rw [arm_eval_Slice]
  refine Z7p (Zuk hl.ev f1 (λ q=>hl.no _ (q▸f1)) (c.to l1 I1) λ W2 u2 s2 l2 I2 hu2=>?_)
  refine Z7p (wpAny_holding (Zuk hh.ev f2 (λ q=>hh.no _ (q▸f2)) (c.to (l1.trans l2) I2) λ W3 u3 s3 l3 I3 hu3=>?_))
  refine Z7p (wpAny_holding (Zuk hs.ev f3 (λ q=>hs.no _ (q▸f3)) (c.to ((l1.trans l2).trans l3) I3) λ W4 u4 s4 l4 I4 hu4=>?_))
  refine wpAny_newObj_type ?_ Zr2
  obtain ⟨I5,l5⟩:=I4.alloc (o:={ cls:=.type "slice",data:=.fields #[u2,u3,u4] }) (v:=none) s4.toks rfl trivial
  have g:=Z3c (E:=E) (A:=A) hv I5 ((((hv1.mono l2).mono l3).mono l4).mono l5) (((hu2.mono l3).mono l4).mono l5) ((hu3.mono l4).mono l5) (hu4.mono l5) (Heap.IsSliceOf.new s4.heap u2 u3 u4) (hq.le ((((l1.trans l2).trans l3).trans l4).trans l5))
  exact Zto g.1 g.2
theorem Qb:OptE j (.cst v) ν σ v σ:=⟨Ze,λ sc h=>by
  have h:Zwq v .none=true:=h
  cases Znm h; exact ⟨rfl,rfl⟩⟩
theorem Zde {o:Expr} {n:Str} {env:Env} {whole:Sem Value} (h:Zdf o=true):attributeBase o n env whole=whole:=by
  cases o with
  | Call f args kws pos=>
    cases f with
    | Name m p=>
      cases args with
      | nil=>
        cases kws with
        | nil=>exact nomatch h
        | cons=>rfl
      | cons=>rfl
    | _=>rfl
  | _=>rfl
theorem Z4x {cl:String} {k:Nat} {mm:Fm} (h:EvE j e ν σ (.ref id) σ1) (hf:σ1.f id=some (.inst cl k mm)) (hm:mm n=some v) (ht:Jk.contains (cl,n)=true):EvE j (.att e n) ν σ v σ1:=.plain (λ h=>Yx h λ zz zz zz zz zz zz=>rfl) λ {X x env own W A st E Q} hf' c hq=>Yx hf' λ u m p h2=>by
  have ho:=(and2 h2).1
  have h3:=(and2 h2).2
  obtain rfl:=(Z7u ho).symm
  rw [arm_eval_Attribute,Zde (and2 h3).1]
  refine Z7p (h.val (and2 h3).2 c λ W1 v s1 l1 I1 hv=>Z7p (wpAny_standAt (Z7p (wpAny_holding (Z49 hf hm ht I1 hv (λ W2 u s2 l2 I2 hu=>?_) _)))))
  exact Z7p (wpAny_letTemporaryGo (Z7q (hq W2 u s2 (l1.trans l2) I2 hu)))
end
end PL
end
section
open PySem PySem.W PyProof.Rows PySem.SeqAt
namespace PL
structure CallR (j:Nat) (q:String) (vs:List AVal) (σ:St) (r:AVal) (σ':St):Prop where
  run:∀ {X:Cx} {W:Wd} {s:Shared} {A:Around} {cvs:List Value} {f:Addr} {R:Result→Shared→Prop},fnA q=some f→AOK (2*j) A→Inv X W σ s→VRels W cvs vs→
  (∀ W' v s',Le W W'→Inv X W' σ' s'→VRel W' v r→R (.ok (.ret v)) s')→codeAny (model pp X.w) A (.call (.ref f) ⟨cvs,[]⟩) R s
section
variable {X:Cx} {W W':Wd} {σ σ':St} {s s':Shared} {A:Around} {E:Value→Shared→Prop} {Q:Value→Shared→Prop} {j:Nat} {ν:Fm} {es:List PE} {vs:List AVal} {env:Env} {own:List Addr}
theorem CallR.call {q:String} {r:AVal} {f:Addr} {cvs:List Value} (h:CallR j q vs σ r σ') (hf:fnA q=some f) (hA:AOK (2*j) A) (I:Inv X W σ s) (hv:VRels W cvs vs) (hq:Pst X W σ' r Q):wpAny (model pp X.w) A (PySem.call (.ref f) cvs) Q E s:=
  wpAny_call (h.run hf hA I hv λ W' v s' l I' hv'=>hq W' v s' l I' hv')
theorem Q4 {x:Expr} {xs:List Expr} {pos:Pos} (h:Jh x=true):backTo pos (starEach (x::xs) env)=(false,eval x env)::backTo pos (starEach xs env):=by
  cases x <;> first | rfl | exact nomatch h
theorem Zbh {sc:Scope}:∀ {es:List PE} {xs:List Expr},Jj sc es xs=true→es.length=xs.length
  | [],xs,h=>by rw [Z5 h]; rfl
  | e::es,xs,h=>Z7 (Q:=λ xs=>(e::es).length=xs.length) h λ x r h=>Z7r Nat.succ (Zbh (and2 (and2 h).2).2)
theorem Z6 {sc:Scope}:∀ {es:List PE} {xs:List Expr},Jj sc es xs=true→∀ x∈xs,Jh x=true
  | [],xs,h,x,hx=>by rw [Z5 h] at hx; exact nomatch hx
  | e::es,xs,h,x,hx=>Z7 (Q:=λ xs=>x∈xs→Jh x=true) h (λ y r h hx=>(Z7a.mp hx).elim (λ q=>q▸(and2 h).1) (Z6 (and2 (and2 h).2).2 x)) hx
theorem EvEs.len (h:EvEs j ν es σ vs σ'):es.length=vs.length:=by
  induction h with
  | nil=>rfl
  | cons _ _ ih=>exact Z7r Nat.succ ih
theorem Za1 (h:EvEs j ν es σ vs σ'):∀ {xs:List Expr} {W:Wd} {s:Shared} {pos:Pos} {Q:List Value→Shared→Prop},Jj env.scope es xs=true→Cfg X j W env own ν σ A s→(∀ W' cvs s',Le W W'→Inv X W' σ' s'→VRels W' cvs vs→Q cvs s')→wpAny (model pp X.w) A (spliced (backTo pos (starEach xs env))) Q E s:=by
  induction h with
  | nil=>intro xs W s pos Q hf c hq; rw [Z5 hf]; exact Calls.spliced_nil (hq W [] s (LeX.refl [] W) c.inv trivial)
  | @cons e es σ σ1 σ2 v vs he _ ih=>
    intro xs W s pos Q hf c hq
    refine Z7 (Q:=λ xs=>wpAny _ _ (spliced (backTo pos (starEach xs env))) Q E s) hf λ x r hf=>?_
    have hn:=(and2 hf).1
    have hf:=(and2 hf).2
    rw [Q4 hn]
    exact Calls.spliced_cons (he.val (and2 hf).1 c λ W1 v s1 l1 I1 hv=>ih (and2 hf).2 (c.to l1 I1) λ W2 vs s2 l2 I2 hvs=>hq W2 _ s2 (l1.trans l2) I2 ⟨hv.mono l2,hvs⟩)
theorem Zfz {n:Nat} {cvs:List Value} (hv:VRels W cvs vs) (h:n=vs.length) (hb:Nat.blt n 100=true):cvs.length≤sizeLine:=by
  rw [hv.length,← h]; exact Z4 (Z6p (Z6y hb |> Z61) (by decide))
theorem Zom {cvs:List Value} (I:Inv X W σ s) (hr:VRels W cvs vs) (hsz:cvs.length≤sizeLine) (h:Pst X W σ (.tup vs) Q):wpAny (model pp X.w) A (newTuple cvs) Q E s:=
  wpAny_newObj_type (Pst.push_tuple (vs:=cvs.toArray) I h hr) hsz
theorem Zsc {cvs:List Value} (I:Inv X W σ s) (hr:VRels W cvs vs) (hsz:cvs.length≤sizeLine) (h:Pst X W σ (.lst vs) Q):wpAny (model pp X.w) A (newList cvs) Q E s:=
  wpAny_newObj_type (Pst.push_list (vs:=cvs.toArray) I h hr) hsz
theorem Zut {cvs:List Value} (I:Inv X W σ s) (hr:VRels W cvs vs) (hsz:cvs.length≤sizeLine) (h:Pst X W (σ.new (.list vs)) (.ref σ.n) Q):wpAny (model pp X.w) A (newList cvs) Q E s:=
  wpAny_newObj_type (Pst.new_list (vs:=cvs.toArray) (tk:=s.toks) I h (λ zz zz e=>Z7n _ e) (Zx _) ⟨0,Z7o _ rfl⟩ hr) hsz
theorem Zkl {n:Str} (h:isGl env.scope n=true):env.scope.names.lookup n=some .globalImplicit∧(n==("__debug__":Str))=false:=
  ⟨Zm (Q:=λ o=>o=some .globalImplicit) (and2 h).1 (λ q=>no q) λ k hk=>Z7r some (Z7u hk),(Bool.not_eq_true' _).mp (and2 h).2⟩
theorem Z33 {n:Str} {fv:Value} {p:Pos} (F:Frm X W env own ν) (I:Inv X W σ s) (hg:isGl env.scope n=true) (hb:X.mg n=some fv) (h:Q fv s):wpAny (model pp X.w) A (eval (.Name n p) env) Q E s:=
  Calls.Name_function_global F.kind (Zkl hg).1 (Calls.loadGlobal_global (by rw [F.glob]; exact I.ns X.ok.gns) hb h) (Zkl hg).2
theorem Zqe {f:String} {fv:Value} {p:Pos} (F:Frm X W env own ν) (I:Inv X W σ s) (hg:isGl env.scope (Str.ofString f)=true) (b:BN f fv) (h:Q fv s):wpAny (model pp X.w) A (eval (.Name (Str.ofString f) p) env) Q E s:=
  have hb:=X.ok.bl b.has b.is λ q=>nomatch b.ne.symm.trans (beq_iff_eq.mpr q)
  Calls.Name_function_global F.kind (Zkl hg).1 (Calls.loadGlobal_builtin (by rw [F.glob]; exact I.ns X.ok.gns) hb.1 (by rw [F.blt]; exact I.ns X.ok.bns) hb.2 h) (Zkl hg).2
theorem Jx {pos:Pos}:∀ {xs:List Expr},(∀ x∈xs,Jh x=true)→(backTo pos (starEach xs env)).any (·.1)=false
  | [],_=>rfl
  | x::xs,h=>by rw [Q4 (h x Z66),List.any_cons,Jx λ y hy=>h y (Z67 _ hy)]; rfl
def Zxa (K:Frag) (f:Value):Prop:=((∃ id,f=.builtin id)∨∃ T,f=.type T)∨∃ a,f=.ref a∧keepIn K (.ref a)=true
theorem Zam {M:Model} {args:List Expr} {bpos:Pos} (hn:∀ x∈args,Jh x=true) {g:Value} {Q':Args→Shared→Prop} (hq:wpAny M A (spliced (backTo bpos (starEach args env))) (λ vs s'=>Q' ⟨vs,[]⟩ s') E s):wpAny M A (evalArgs g true (backTo bpos (starEach args env)) []) Q' E s:=by
  cases args with
  | nil=>
    unfold evalArgs
    show wpAny M A (spliced [] >>= _) Q' E s
    refine Z7p (wpAny_mono hq (λ vs s' h'=>?_) λ zz zz x=>x)
    exact Z7p (Z7q (wpAny_holding (Z7p (Z7q (Z7p (Z7q (Z7q h')))))))
  | cons x xs=>
    rw [Q4 (hn x Z66)] at hq ⊢
    exact Calls.evalArgs_plain hq
theorem Znp {M:Model} {K:Frag} {f:Value} (hf:Zxa K f) {first:List Value} {args:List Expr} {pos bpos:Pos} (hn:∀ x∈args,Jh x=true)
    (h:wpAny M A (spliced (backTo bpos (starEach args env))) (λ vs s₁=>K.In s₁.heap∧wpAny M A (PySem.call f (first++vs)) Q E s₁) E s):wpAny M A (callWith pos f first (backTo bpos (starEach args env)) []) Q E s:=by
  have hp2:(backTo bpos (starEach args env)).any (·.1)=false:=Jx hn
  rcases hf with (⟨id,rfl⟩ | ⟨T,rfl⟩) | ⟨a,rfl,hk⟩
  · exact Calls.callWith_builtin hp2 (Zam hn (wpAny_mono h (λ vs s' h'=>h'.2) λ zz zz x=>x))
  · exact PySem.callWith_type hp2 (Zam hn (wpAny_mono h (λ vs s' h'=>h'.2) λ zz zz x=>x))
  · exact callWith_of (P:=λ h=>K.In h) (by rw [hp2]; rfl) (keeps_K hk) (Zam hn h)
theorem Ziv {M:Model} {o:Expr} {name:Str} {apos pos:Pos} {args:List Expr} (hn:∀ x∈args,Jh x=true) (hlen:args.length < 29) (hline:(apos.endLine==pos.line)=true) {ov:Value}
    (h:wpAny M A (getMethod ov name (do return (← importBound o env).getD true)) (λ r s₂=>wpAny M A (callWith pos r.1 r.2 (backTo pos (starEach args env)) []) Q E s₂) E s):
    wpAny M A (methodCall o name apos pos env ov (args.length+([]:List Keyword).length) (backTo pos (starEach args env)) (backToKw pos (keywordEach [] env))) Q E s:=by
  have hform:methodCallForm (args.length+([]:List Keyword).length) (backTo pos (starEach args env)) (backToKw pos (keywordEach [] env))=true:=by
    unfold methodCallForm
    rw [show (backTo pos (starEach args env)).all (λ x=>!x.1)=true by rw [List.all_eq_not_any_not]; simpa using Jx (env:=env) (pos:=pos) hn]
    exact Z7s (Nat.lt_succ_of_lt hlen)
  have hpos:methodCallPos true o env apos pos=pure pos:=by unfold methodCallPos; simp [hline]
  unfold methodCall
  rw [hform]
  exact Z7p (wpAny_holding (wpAny_mono h (λ r s₂ h₂=>Z7p (wpAny_of_eq hpos h₂)) λ zz zz e=>e))
theorem Zjk {M:Model} {o:Expr} {name:Str} {apos pos:Pos} {args:List Expr} (hs:Zdf o=true) (hn:∀ x∈args,Jh x=true) (hlen:args.length < 29) (hline:(apos.endLine==pos.line)=true)
    (h:wpAny M A (eval o env) (λ ov s₁=>wpAny M A (getMethod ov name (do return (← importBound o env).getD true)) (λ r s₂=>wpAny M A (callWith pos r.1 r.2 (backTo pos (starEach args env)) []) Q E s₂) E s₁) E s):
    wpAny M A (eval (.Call (.Attribute o name apos) args [] pos) env) Q E s:=by
  rw [arm_eval_Call,Zde hs]
  exact Z7p (wpAny_mono h (λ ov s₁ h₁=>Z7p (wpAny_standAt (Ziv hn hlen hline h₁))) λ zz zz e=>e)
@[elab_as_elim] theorem Zc3 {sc:Scope} {x:Expr} {C:Expr→Prop} {f:String} {es:List PE} (h:PE.byN f es sc x=true) (k:∀ p xs ps,isGl sc (Str.ofString f)=true→Jj sc es xs=true→C (.Call (.Name (Str.ofString f) p) xs [] ps)):C x:=Zb8 h λ g xs kw ps h=>by
  have h1:=(and2 h).1
  have h2:=(and2 h).2
  have h3:=(and2 h2).1
  have h4:=(and2 h2).2
  rw [Z5 h3]
  refine Y2 h1 λ n p h1=>?_
  have h5:=(and2 h1).1
  have h6:=(and2 h1).2
  rw [Z7u h5] at h6 ⊢
  exact k p xs ps h6 h4
theorem Zd8 {sc:Scope} {x:Expr} {f:String} {es:List PE} (h:PE.byN f es sc x=true):Zw9 x:=Zc3 h λ zz zz zz zz zz zz zz=>rfl
end
section
variable {j:Nat} {ν ν':Fm} {σ σ1 σ2 σ3 σ4:St} {x y z w v:AVal} {a b c e t o i l h s:PE} {es src ifs:List PE} {us vs ws xs ys:List AVal} {n m f q:String} {r:AVal} {id:Nat}
theorem Yq (h:EvEs j ν es σ vs σ1):EvE j (.tup es) ν σ (.tup vs) σ1:=.plain (λ h=>Jl h λ zz zz zz zz zz zz=>rfl) λ {X x env own W A st E Q} hf c hq=>Jl hf λ xs k p h2=>
  PyProof.Rows.Tuple_ (Za1 h (and2 h2).1 c λ W1 cvs s1 l1 I1 hv=>Zom I1 hv (Zfz hv h.len (and2 h2).2) (hq.le l1))
theorem Zan (h:EvEs j ν es σ vs σ1):EvE j (.lst es) ν σ (.lst vs) σ1:=.plain (λ h=>Zb4 h λ zz zz zz zz zz=>rfl) λ {X x env own W A st E Q} hf c hq=>Zb4 hf λ xs p h2=>
  PyProof.Rows.List_ (Za1 h (and2 h2).1 c λ W1 cvs s1 l1 I1 hv=>Zsc I1 hv (Zfz hv h.len (and2 h2).2) (hq.le l1))
theorem Zwg (h:EvEs j ν es σ vs σ1):EvE j (.new es) ν σ (.ref σ1.n) (σ1.new (.list vs)):=.plain (λ h=>Zb4 h λ zz zz zz zz zz=>rfl) λ {X x env own W A st E Q} hf c hq=>Zb4 hf λ xs p h2=>
  PyProof.Rows.List_ (Za1 h (and2 h2).1 c λ W1 cvs s1 l1 I1 hv=>Zut I1 hv (Zfz hv h.len (and2 h2).2) (hq.le l1))
theorem BN.call {f:String} {fv:Value} (b:BN f fv) {K:Frag}:Zxa K fv:=.inl b.callee
theorem Yl {fv:Value} (h:EvEs j ν es σ vs σ1) (hb:BltR σ1 f fv vs v):EvE j (.blt f es) ν σ v σ1:=.plain (λ h=>Zd8 h) λ {X x env own W A st E Q} hf c hq=>Zc3 hf λ p xs ps hg h2=>
  PyProof.Rows.Call_Name rfl (Zqe c.frm c.inv hg hb.name (Znp (K:=X.K) hb.name.call (Z6 h2) (Za1 h h2 c λ W1 cvs s1 l1 I1 hv=>⟨I1.kin,Z42 c.room.hh hb I1 hv (hq.le l1)⟩)))
theorem e_fn (h:EvEs j ν es σ vs σ1) (hc:CallR j f vs σ1 v σ2) (hg:Zkr.contains f=true:=by kernel_rfl):EvE j (.fn f es) ν σ v σ2:=.plain (λ h=>Zd8 h) λ {X x env own W A st E Q} hf c hq=>Zc3 hf λ p xs ps hgl h2=>by
  obtain ⟨a,ha,hm⟩:=X.ok.gf hg
  obtain ⟨F,hF⟩:=Z0g ha
  exact PyProof.Rows.Call_Name rfl (Z33 c.frm c.inv hgl hm (Znp (K:=X.K) (.inr ⟨a,rfl,(X.ok.fnK hF).keep⟩) (Z6 h2) (Za1 h h2 c λ W1 cvs s1 l1 I1 hv=>⟨I1.kin,hc.call ha (c.room.mono (Nat.le_succ _)) I1 hv (hq.le l1)⟩)))
@[elab_as_elim] theorem Zop {sc:Scope} {x:Expr} {C:Expr→Prop} {o:PE} {m:String} {es:List PE} (h:PE.mth o m es sc x=true) (k:∀ u xs ap p,Zdf u=true→(ap.endLine==p.line)=true→o sc u=true→Jj sc es xs=true→xs.length < 29→C (.Call (.Attribute u (Str.ofString m) ap) xs [] p)):C x:=Zb8 h λ g xs kw p h=>by
  have h1:=(and2 h).1
  have h2:=(and2 h).2
  have h3:=(and2 h2).1
  have h4:=(and2 h2).2
  have h5:=(and2 h4).1
  have h6:=(and2 h4).2
  rw [Z5 h3]
  refine Yx h1 λ u n ap h1=>?_
  have h7:=(and2 h1).1
  have h8:=(and2 h1).2
  have h9:=(and2 h8).1
  have h10:=(and2 h8).2
  rw [Z7u h7]
  exact k u xs ap p h9 (and2 h10).1 (and2 h10).2 h5 (by rw [← Zbh h5]; exact Z6t (Z6y h6) (by decide))
theorem Zmh {sc:Scope} {x:Expr} {o:PE} {m:String} {es:List PE} (h:PE.mth o m es sc x=true):Zw9 x:=Zop h λ zz zz zz zz zz zz zz zz zz zz zz=>rfl
theorem MV.callee {fv:Value} (h:MV σ x m fv) {X:Cx}:Zxa X.K fv:=by
  cases h with
  | own _ _ _ hf=>exact (Z0g hf).elim λ F hF=>.inr ⟨_,rfl,(X.ok.fnK hF).keep⟩
  | _=>exact .inl (.inl ⟨_,rfl⟩)
theorem Qt {fv:Value} (ho:EvE j o ν σ x σ1) (hm:MV σ1 x m fv) (hes:EvEs j ν es σ1 vs σ2) (hc:MC σ2 x fv vs v σ3):EvE j (.mth o m es) ν σ v σ3:=.plain (λ h=>Zmh h) λ {X x env own W A st E Q} hf c hq=>Zop hf λ u xs ap p hs hline hfo h2 hlen=>
  Zjk hs (Z6 h2) hlen hline (ho.val hfo c λ W1 v1 s1 l1 I1 hv=>Z37 hm I1 hv (Znp (K:=X.K) hm.callee (Z6 h2) (Za1 hes h2 (c.to l1 I1) λ W2 cvs s2 l2 I2 hvs=>⟨I2.kin,Z52 hc c.un I2 (hv.mono l2) hvs (hq.le (l1.trans l2))⟩)))
theorem Zwh {cl:String} {k:Nat} {mm:Fm} (ho:EvE j o ν σ (.ref id) σ1) (hf:σ1.f id=some (.inst cl k mm)) (hm:mm m=none) (hq:Zcs.lookup (cl,m)=some q) (hes:EvEs j ν es σ1 vs σ2) (hc:CallR j q (.ref id::vs) σ2 v σ3) (hfa:(fnA q).isSome=true:=by kernel_rfl):EvE j (.mth o m es) ν σ v σ3:=.plain (λ h=>Zmh h) λ {X x env own W A st E Q} hf' c hQ=>Zop hf' λ u xs ap p hs hline hfo h2 hlen=>
  (Option.isSome_iff_exists.mp hfa).elim λ f hfa=>Zjk hs (Z6 h2) hlen hline (ho.val hfo c λ W1 v1 s1 l1 I1 hv=>Z37 (.own hf hm hq hfa) I1 hv (Znp (K:=X.K) (MV.own hf hm hq hfa).callee (Z6 h2) (Za1 hes h2 (c.to l1 I1) λ W2 cvs s2 l2 I2 hvs=>⟨I2.kin,hc.call hfa (c.room.mono (Nat.le_succ _)) I2 ⟨hv.mono l2,hvs⟩ (hQ.le (l1.trans l2))⟩)))
end
end PL
end
section
open PySem PySem.W PyProof.Rows PySem.SeqAt
namespace PL
section
variable {X:Cx} {W W':Wd} {σ σ':St} {s s':Shared} {A:Around} {E:Value→Shared→Prop} {Q:Value→Shared→Prop} {j:Nat} {ν:Fm} {es:List PE} {vs:List AVal} {env:Env} {own:List Addr}
noncomputable def J6 (σ:St) (c:String):St:=σ.new (.inst c 0 λ zz=>none)
theorem Inv.newInst (I:Inv X W σ s) (c:String):
    Inv X (setW (setW W s.heap.objs.size (.dic σ.n)) (s.heap.objs.size+1) (.own σ.n)) (J6 σ c) { s with heap:=(s.heap.push emptyDict).push (instObj (clsA c) s.heap.objs.size) }∧
    Le W (setW (setW W s.heap.objs.size (.dic σ.n)) (s.heap.objs.size+1) (.own σ.n)):=by
  have hf1:=I.free (a:=s.heap.objs.size) (Z6q _)
  have hf2:=I.free (a:=s.heap.objs.size+1) (Nat.le_succ _)
  have l1:Le W (setW W s.heap.objs.size (.dic σ.n)):=Y9 hf1
  have l2:=l1.trans (Y9 (t:=.own σ.n) ((Qh (Nat.succ_ne_self _)).trans hf2))
  have k:∀ b o,s.heap.get? b=some o→((s.heap.push emptyDict).push (instObj (clsA c) s.heap.objs.size)).get? b=some o:=λ b o e=>Z7n _ (Z7n _ e)
  have hd:((s.heap.push emptyDict).push (instObj (clsA c) s.heap.objs.size)).get? s.heap.objs.size=some emptyDict:=Z7n _ (Z7o _ rfl)
  have ha:((s.heap.push emptyDict).push (instObj (clsA c) s.heap.objs.size)).get? (s.heap.objs.size+1)=some (instObj (clsA c) s.heap.objs.size):=by
    have:=Z7o (s.heap.push emptyDict) (o:=instObj (clsA c) s.heap.objs.size) rfl
    rwa [Heap.size_push] at this
  have key:∀ W2,Le W W2→W2 s.heap.objs.size=.dic σ.n→∀ a,TOK X W2 (J6 σ c) ((s.heap.push emptyDict).push (instObj (clsA c) s.heap.objs.size)) a (setW (setW W s.heap.objs.size (.dic σ.n)) (s.heap.objs.size+1) (.own σ.n) a):=λ W2 l2 e=>
    Qw (P:=TOK X W2 (J6 σ c) ((s.heap.push emptyDict).push (instObj (clsA c) s.heap.objs.size))) (t:=.own σ.n) ⟨.inst c 0 λ zz=>none,Yz σ _,s.heap.objs.size,ha,e,⟨λ zz=>none,(Heap.Ns.new s.heap (.type "dict")).push _,λ x=>rfl⟩,⟨_,hd,⟨rfl,rfl,rfl⟩,#[],0,rfl,Z6q _⟩⟩ λ b zz=>
      Qw (P:=TOK X W2 (J6 σ c) ((s.heap.push emptyDict).push (instObj (clsA c) s.heap.objs.size))) (t:=.dic σ.n) ⟨Z6z _,_,hd⟩ (λ b zz=>(I.tag b).keepX l2 NoVal.nil (k b) (λ zz zz d zz=>k d) (λ i hi o h=>(Zus (I.nid hi)).trans h) (Nat.le_succ _)) b
  exact ⟨{ base:=I.reb _ s.toks,keep:=I.keepW l2,fid:=I.newFid _,tag:=key _ l2 ((Qh (Nat.ne_of_lt (Z6z _))).trans (Zh ..))
           uq:=Uq.set (t:=.own σ.n) (I.uq.set (t:=.dic σ.n) λ k e b zz=>Z7g e▸I.nkey b) λ k e b hb=>Z7g e▸Qw (t:=.dic σ.n) (P:=λ zz t=>t.key≠some (true,σ.n)) (λ q=>Bool.noConfusion (Z7r Prod.fst (Z7g q))) (λ b zz=>I.nkey b) b },l2⟩
theorem Znx {C:Addr} {rest:List Value} {kw}:Code.weight (.builtin "type.__call__" ⟨.ref C::rest,kw⟩)=1:=by rfl
theorem Zrl {C:Addr} {rest:List Value} {kw}:Code.cUnits (.builtin "type.__call__" ⟨.ref C::rest,kw⟩)=1:=by rfl
theorem AOK.type {k:Nat} {C:Addr} {rest:List Value} {kw} (h:AOK (k+1) A):AOK k (A.under (.builtin "type.__call__" ⟨.ref C::rest,kw⟩)):=by
  refine ⟨h.hh,?_,?_⟩
  · have:=h.dp; show A.depth+Code.weight _+3*k+3 < _; rw [Znx]; lia
  · have:=h.un; show A.units+Code.cUnits _+10*k+100 < _; rw [Zrl]; lia
theorem Z4z {c q:String} (hi:Zgn.lookup c=some (some q)) (h:CallR j q (.ref σ.n::vs) (J6 σ c) .none σ') (hA:AOK (2*j+1) A) (I:Inv X W σ s) {cvs:List Value} (hv:VRels W cvs vs) (hq:Pst X W σ' (.ref σ.n) Q):wpAny (model pp X.w) A (call (.ref (clsA c)) cvs) Q E s:=by
  obtain ⟨a,f,hCa,hf,mk⟩:=X.ok.init hi
  obtain ⟨ck,hg⟩:=X.ok.cls hCa
  rw [← Zew hCa] at mk ck
  obtain ⟨I2,l2⟩:=I.newInst c
  have KX:=I.kin
  obtain ⟨hh,g,d,t,os⟩:=s
  refine wpAny_call (make_core (makes_of KX ck.makes) (looks_findIn KX mk.find) (λ self=>bind_fn KX self mk.ty) (.inl rfl) ?_)
  refine h.run hf (AOK.type hA) I2 ⟨.refs (Zh ..),hv.mono l2⟩ λ W' v s' l I' hv'=>?_
  rw [hv'.none]
  exact ⟨rfl,hq W' _ s' (l2.trans l) I' (.refs ((l _ List.not_mem_nil (Zz4 (Zh ..))).trans (Zh ..)))⟩
end
section
variable {j:Nat} {ν ν':Fm} {σ σ1 σ2 σ3 σ4:St} {x y z w v:AVal} {a b c e t o i l h s:PE} {es src ifs:List PE} {us vs ws xs ys:List AVal} {n m f q:String} {r:AVal} {id:Nat}
theorem Z15 {cl:String} (hi:Zgn.lookup cl=some (some q)) (h:EvEs j ν es σ vs σ1) (hc:CallR j q (.ref σ1.n::vs) (J6 σ1 cl) .none σ2):EvE j (.cls cl es) ν σ (.ref σ1.n) σ2:=.plain (λ h=>Zd8 h) λ {X x env own W A st E Q} hf c hq=>Zc3 hf λ p xs ps hgl h2=>by
  obtain ⟨a,f,hCa,zz,zz⟩:=X.ok.init hi
  obtain ⟨ck,hm⟩:=X.ok.cls hCa
  have e:=Zew hCa
  rw [← e] at ck hm
  exact PyProof.Rows.Call_Name rfl (Z33 c.frm c.inv hgl hm (Znp (K:=X.K) (.inr ⟨_,rfl,ck.keep⟩) (Z6 h2) (Za1 h h2 c λ W1 cvs s1 l1 I1 hv=>⟨I1.kin,Z4z hi hc c.room I1 hv (hq.le l1)⟩)))
inductive FpR:AVal→CS→Prop
  | str (t:CS) (h:t.length≤16000):FpR (.str t) t
  | int {n:Nat} (h:n < 1000000000):FpR (.int n) (decI n)
theorem Z4p {X:Cx} {W:Wd} {A:Around} {st:Shared} {E:Value→Shared→Prop} {Q:Value→Shared→Prop} {t:CS} (e:FpR x t) (I:Inv X W σ st) {u:Value} (hv:VRel W u x) (hq:Pst X W σ (.str t) Q):wpAny (model pp X.w) A (formatField u Str.empty) Q E st:=by
  cases e with
  | str t hl=>exact hv.str_e λ tk=>wpAny_formatField_str (Pst.mk_str (tk:=st.toks) I hq) (Pst.mk_str I hq) (by rw [Yn]; exact Z4 hl)
  | int hn=>exact hv.int_e λ tk=>wpAny_formatField_int (Zim hn) (by rw [show (Str.ofString (toString _):Str)=_ from Zd7 _]; exact Pst.mk_str I hq)
inductive FsR (j:Nat) (ν:Fm):List PE→St→CS→St→Prop
  | nil (σ:St):FsR j ν [] σ [] σ
  | txt {es:List PE} {σ σ1:St} {p ps:CS} (hs:FsR j ν es σ ps σ1):FsR j ν (.cst (.str p)::es) σ (p++ps) σ1
  | fld {e:PE} {es:List PE} {σ σ1 σ2:St} {v:AVal} {p ps:CS} (h:EvE j e ν σ v σ1) (hp:FpR v p) (hs:FsR j ν es σ1 ps σ2):FsR j ν (.fld e::es) σ (p++ps) σ2
theorem Zug {X:Cx} {env:Env} {A:Around} {E:Value→Shared→Prop} {Q:Value→Shared→Prop} {out p:CS} {st:Shared} {xs:List Expr} (hl:out.length+p.length≤16000) (h:wpAny (model pp X.w) A (joinParts (PL.st (out++p)) (evalEach xs env)) Q E st):
    (PL.st out++PL.st p).length≤sizeLine∧wpAny (model pp X.w) A (joinParts (PL.st out++PL.st p) (evalEach xs env)) Q E st:=by
  rw [Zlx,Yn,Z69]
  exact ⟨Z4 hl,h⟩
theorem Zya {m':CS} (h:FsR j ν es σ m' σ1) {X:Cx} {env:Env} {own:List Addr} {A:Around} {E:Value→Shared→Prop} {Q:Value→Shared→Prop}:∀ {xs:List Expr} {out:CS} {W:Wd} {st:Shared},PE.fitFs env.scope es xs=true→Cfg X j W env own ν σ A st→out.length+m'.length≤16000→
    Pst X W σ1 (.str (out++m')) Q→wpAny (model pp X.w) A (joinParts (PL.st out) (evalEach xs env)) Q E st:=by
  induction h with
  | nil σ=>
    intro xs out W st hf c hl hq
    rw [List.append_nil] at hq
    rw [Z5 hf]
    exact PyProof.Rows.joinParts_nil (Pst.mk_str c.inv hq) (by rw [Yn]; exact Z4 hl)
  | txt _ ih=>
    intro xs out W st hf c hl hq
    rw [Z69,← Z60] at hl
    rw [← Z7d] at hq
    exact Z7 (Q:=λ xs=>wpAny _ _ (joinParts (PL.st out) (evalEach xs env)) Q E st) hf λ x r hf=>PyProof.Rows.joinParts_cons (Ze.val (and2 hf).1 c λ W1 u s1 l1 I1 hv=>by
      obtain ⟨t,rfl⟩:=hv
      exact Zug (Z6p (Z6r ..) hl) (ih (and2 hf).2 (c.to l1 I1) (by rw [Z69]; exact hl) (hq.le l1)))
  | fld h hp _ ih=>
    intro xs out W st hf c hl hq
    rw [Z69,← Z60] at hl
    rw [← Z7d] at hq
    refine Z7 (Q:=λ xs=>wpAny _ _ (joinParts (PL.st out) (evalEach xs env)) Q E st) hf λ x r hf=>PyProof.Rows.joinParts_cons ?_
    refine Zcb (and2 hf).1 λ y cv o p h2=>?_
    have h3:=(and2 h2).1
    have h2:=(and2 h2).2
    have h4:=(and2 h2).1
    have h5:=(and2 h2).2
    rw [Z7u h3,show o=none from Zm (Q:=λ o=>o=none) h4 (λ zz=>rfl) λ zz q=>no q]
    exact PyProof.Rows.FormattedValue_plain (h.val h5 c λ W1 u s1 l1 I1 hv=>Z4p hp I1 hv λ W2 u2 s2 l2 I2 hv2=>by
      obtain ⟨t,rfl⟩:=hv2
      exact Zug (Z6p (Z6r ..) hl) (ih (and2 hf).2 (c.to (l1.trans l2) I2) (by rw [Z69]; exact hl) (hq.le (l1.trans l2))))
theorem Zm9 {sc:Scope}:∀ {es:List PE} {xs:List Expr},PE.fitFs sc es xs=true→es.length=xs.length
  | [],xs,h=>by rw [Z5 h]; rfl
  | e::es,xs,h=>Z7 (Q:=λ xs=>(e::es).length=xs.length) h λ x r h=>Z7r Nat.succ (Zm9 (and2 h).2)
theorem Z2z {α:Type}:∀ {xs:List α},2≤xs.length→∃ a b c,xs=a::b::c
  | a::b::c,_=>⟨a,b,c,rfl⟩
  | [],h=>nomatch h
  | [_],h=>absurd h (Nat.not_succ_le_self 1)
theorem Z6c {t:CS} (h:FsR j ν es σ t σ1) (hl:t.length≤16000):EvE j (.fst es) ν σ (.str t) σ1:=.plain (λ h=>Zbu h λ zz zz zz zz zz=>rfl) λ {X x env own W A st E Q} hf c hq=>Zbu hf λ xs p h2=>by
  have hf1:=(and2 h2).1
  have hb:=(and2 h2).2
  obtain ⟨x1,x2,xr,rfl⟩:=Z2z (xs:=xs) (by rw [← Zm9 hf1]; exact Z6y hb)
  exact PyProof.Rows.JoinedStr_many (Zya h (out:=[]) hf1 c (by rw [List.length_nil,Nat.zero_add]; exact hl) hq)
end
end PL
end
section
open PySem PySem.W PyProof.Rows PySem.SeqAt
namespace PL
open PE (Zvx)
theorem Ziw:∀ (kvs acc:List (AVal×Value)),((acc++kvs).map (·.1)).Nodup→merged acc kvs=acc++kvs
  | [],acc,_=>(List.append_nil acc).symm
  | (k,v)::r,acc,h=>by
    have hk:(acc.any λ kv=>decide (kv.1=k))=false:=List.any_eq_false.mpr λ p hp e=>by
      rw [List.map_append,List.nodup_append] at h
      exact h.2.2 p.1 (List.mem_map_of_mem hp) k Z66 (of_decide_eq_true e)
    have hs:stored acc k v=acc++[(k,v)]:=by unfold stored; rw [hk]; rfl
    show merged (stored acc k v) r=_
    rw [hs,Ziw r _ (by rw [Z7d]; exact h),Z7d]; rfl
theorem RF.zip {W:Wd} {cvs:List Value} {us:List AVal} (h:VRels W cvs us):∀ ks:List AVal,F2 (RF W) (ks.zip cvs) (ks.zip us):=
  F2.ind (P:=λ cvs us=>∀ ks:List AVal,F2 (RF W) (ks.zip cvs) (ks.zip us)) (λ ks=>by rw [List.zip_nil_right,List.zip_nil_right]; trivial) (λ c cs u us r zz ih ks=>@List.casesOn AVal (λ ks=>F2 (RF W) (ks.zip (c::cs)) (ks.zip (u::us))) ks trivial λ k ks=>⟨⟨rfl,r⟩,ih ks⟩) h
theorem Zi4:∀ {ks:List AVal} {keys:List (Option Expr)},Zvx ks keys=true→keys.all (·.isSome)=true∧keys.length=ks.length
  | [],keys,h=>by rw [Z5 h]; exact ⟨rfl,rfl⟩
  | v::vs,keys,h=>Z7 (Q:=λ keys=>keys.all (·.isSome)=true∧keys.length=(v::vs).length) h λ o os h=>
    have ih:=Zi4 (and2 h).2
    ⟨by rw [List.all_cons,ih.1,Zm (Q:=λ o=>o.isSome=true) (and2 h).1 (λ q=>no q) λ zz zz=>rfl]; rfl,Z7r Nat.succ ih.2⟩
section
variable {j:Nat} {ν ν':Fm} {σ σ1 σ2 σ3 σ4:St} {x y z w v:AVal} {es src ifs:List PE} {us vs ws xs ys:List AVal} {X:Cx} {env:Env} {own:List Addr} {W:Wd} {A:Around} {st:Shared} {E:Value→Shared→Prop}
theorem Zyb {pos:Pos} (h:EvEs j ν es σ us σ1):∀ {ks:List AVal} {keys:List (Option Expr)} {xs:List Expr} {W:Wd} {st:Shared} {Q:List (Value×Value)→Shared→Prop},Zvx ks keys=true→Jj env.scope es xs=true→es.length=ks.length→Cfg X j W env own ν σ A st→
    (∀ W' prs cvs s',Le W W'→Inv X W' σ1 s'→VRels W' cvs us→Carries (flK X) prs (ks.zip cvs)→Q prs s')→wpAny (model pp X.w) A (evalPairs (pairTrees keys xs env pos)) Q E st:=by
  induction h with
  | nil σ=>
    intro ks keys xs W st Q hk hf hl c hq
    rw [List.eq_nil_of_length_eq_zero hl.symm] at hk hq
    rw [Z5 hk,Z5 hf]
    exact pairTrees_nil_walk (prog:=pp) (w:=X.w) (hq W [] [] st (LeX.refl [] W) c.inv trivial trivial)
  | @cons e es σ σ1 σ2 v vs he _ ih=>
    intro ks keys xs W st Q hk hf hl c hq
    cases ks with
    | nil=>exact nomatch hl
    | cons kv ks=>
      refine Z7 (Q:=λ keys=>wpAny _ _ (evalPairs (pairTrees keys xs env pos)) Q E st) hk λ o os hk=>Z7 (Q:=λ xs=>wpAny _ _ (evalPairs (pairTrees (o::os) xs env pos)) Q E st) hf λ x r hf=>?_
      have hk1:=(and2 hk).1
      have hk2:=(and2 hk).2
      have hn:=(and2 hf).1
      have hf:=(and2 hf).2
      refine Zm (Q:=λ o=>wpAny _ _ (evalPairs (pairTrees (o::os) (x::r) env pos)) Q E st) hk1 (λ q=>no q) λ y hy=>?_
      refine J1 hy λ k kk p hk=>?_
      have hfl:=(and2 hk).1
      have hk:=(and2 hk).2
      exact pairTrees_cons_walk (prog:=pp) (w:=X.w) ((Ze (v:=kv)).val (x:=.Constant k kk p) hk c λ W1 u s1 l1 I1 hv=>he.val (and2 hf).1 (c.to l1 I1) λ W2 cv s2 l2 I2 hcv=>
        ih hk2 (and2 hf).2 (Nat.succ.inj hl) (c.to (l1.trans l2) I2) λ W3 prs cvs s3 l3 I3 hcvs hcar=>hq W3 _ (cv::cvs) s3 ((l1.trans l2).trans l3) I3 ⟨hcv.mono l3,hcvs⟩ ⟨Y5 ((hv.mono l2).mono l3) hfl,rfl,hcar⟩)
theorem Inv.nsys {s:Shared} (I:Inv X W σ s):s.heap.objs.size≠sysModules:=λ h=>by
  obtain ⟨a,o,hle,ho⟩:=X.ok.sys
  have h1:=Heap.lt_size (I.old _ _ ho)
  rw [h] at h1
  exact Nat.lt_irrefl _ (Z6t h1 hle)
theorem Z4v:EvE j (.dct [] []) ν σ (.ref σ.n) (σ.new (.dict [])):=.plain (λ h=>Zb6 h λ zz zz zz zz zz zz=>rfl) λ {X x env own W A st E Q} hf c hq=>Zb6 hf λ keys vals p h2=>by
  rw [Z5 (and2 h2).1,Z5 (and2 (and2 h2).2).1]
  have hfree:=c.inv.free (a:=st.heap.objs.size) (Z6q _)
  exact wpAny_Dict_empty (hq _ _ _ (Y9 hfree) ((c.inv.keeps (h':=st.heap.push { cls:=.type "dict",data:=.dict #[] }) (tk:=st.toks) λ zz zz e=>Z7n _ e).newObj (o:=.dict []) hfree (ofF (kvs:=[]) (Heap.DictOf.new (knd:=flK X) st.heap) trivial c.inv.nsys)) (.refs (Zh ..)))
theorem Z6d {k0:AVal} {ks:List AVal} {vs:List PE} (h:EvEs j ν vs σ us σ1) (hl:us.length=(k0::ks).length) (hnd:(k0::ks).Nodup):EvE j (.dct (k0::ks) vs) ν σ (.ref σ1.n) (σ1.new (.dict ((k0::ks).zip us))):=.plain (λ h=>Zb6 h λ zz zz zz zz zz zz=>rfl) λ {X x env own W A st E Q} hf c hq=>Zb6 hf λ keys vals p h2=>by
  have hk:=(and2 h2).1
  have hf:=(and2 h2).2
  have hf1:=(and2 hf).1
  have hlen:=(and2 hf).2
  obtain ⟨hall,hkl⟩:=Zi4 hk
  have hvl:keys.length=vals.length:=by rw [hkl,← hl,← h.len,Zbh hf1]
  have I:=c.inv
  have hfree:=I.free (a:=st.heap.objs.size) (Z6q _)
  have hold:=I.s1free hfree
  refine wpAny_Dict_walk (knd:=flK X) hall hvl (λ q=>by rw [q] at hkl; exact nomatch hkl) (by rw [hvl,← Zbh hf1]; exact Z64 (Z6y hlen)) ?_
  obtain ⟨I1,l1⟩:=I.alloc (o:={ cls:=.type "dict",data:=.dict #[] }) (v:=none) st.toks rfl trivial
  refine Zyb h hk hf1 (h.len.trans hl) (c.to l1 I1) λ W2 prs cvs s2 l2 I2 hcvs hcar=>?_
  have hD:W2 st.heap.objs.size=.imm { cls:=.type "dict",data:=.dict #[] } none:=Qe (Zh ..) l2
  refine ⟨_,hcar,⟨_,#[],0,(I2.imm hD).1,⟨rfl,rfl,rfl⟩,rfl,λ e he=>(nomatch he),Pairs.nil,List.Pairwise.nil⟩,λ h' hd hsb=>?_⟩
  have I3:=I2.forget (tk:=s2.toks+prs.length) hD hold hsb
  rw [Ziw ((k0::ks).zip cvs) [] (by rw [List.nil_append,List.map_fst_zip (Z62 (hl.symm.trans hcvs.length.symm))]; exact hnd),List.nil_append] at hd
  have l23:LeX [st.heap.objs.size] W2 (setW W2 st.heap.objs.size .free):=Zy
  have hf3:setW W2 st.heap.objs.size .free st.heap.objs.size=.free:=Zh ..
  exact hq _ _ _ (((Le.X (l1.trans l2)).trans (l23.trans (Y9 hf3).X)).le (mem1 hfree)) (I3.newObj (o:=.dict ((k0::ks).zip us)) hf3 (ofF hd (RF.zip (hcvs.monoX l23 (NoVal.one hD)) _) I.nsys)) (.refs (Zh ..))
end
end PL
end
section
open PySem PySem.W PyProof.Rows PySem.SeqAt
namespace PL
variable {X:Cx} {W W':Wd} {σ σ':St} {s s':Shared} {A:Around} {E:Value→Shared→Prop} {Q:Value→Shared→Prop} {j:Nat} {ν ν':Fm} {env:Env} {own:List Addr} {M:Model}
theorem Zd9:∀ {xs:List String} {vs:List AVal} {ν ν':Fm},Z3 xs vs ν=some ν'→∀ (μ:Fm),∃ μ',Z3 xs vs μ=some μ'∧∀ y,(y∈xs→ν' y=μ' y)∧(y ∉ xs→ν' y=ν y∧μ' y=μ y)
  | [],[],ν,ν',h,μ=>⟨μ,rfl,λ y=>⟨λ h=>(nomatch h),λ zz=>⟨by rw [Z7g h],rfl⟩⟩⟩
  | x::xs,v::vs,ν,ν',h,μ=>by
    obtain ⟨μ',h1,h2⟩:=Zd9 (xs:=xs) h (upd μ x v)
    refine ⟨μ',h1,λ y=>⟨λ hy=>?_,λ hy=>?_⟩⟩
    · by_cases hm:y∈xs
      · exact (h2 y).1 hm
      · obtain ⟨a,b⟩:=(h2 y).2 hm
        rw [a,b,(Z7a.mp hy).resolve_right hm,Zi,Zi]
    · obtain ⟨a,b⟩:=(h2 y).2 λ q=>hy (Z67 _ q)
      have hx:y≠x:=λ q=>hy (q▸Z66)
      rw [a,b,Zez hx,Zez hx]; exact ⟨rfl,rfl⟩
  | [],_::_,_,_,h,_=>nomatch h
  | _::_,[],_,_,h,_=>nomatch h
theorem Zad:∀ {xs:List String} {vs:List AVal} {ν ν':Fm},Z3 xs vs ν=some ν'→xs.length=vs.length
  | [],[],_,_,_=>rfl
  | x::xs,v::vs,_,_,h=>Z7r Nat.succ (Zad (xs:=xs) h)
  | [],_::_,_,_,h=>nomatch h
  | _::_,[],_,_,h=>nomatch h
theorem Zak:∀ {xs:List String} {es:List Expr},Zo5 xs es=true→∃ ps:List Pos,ps.length=xs.length∧es=(xs.zip ps).map λ p=>Expr.Name (Str.ofString p.1) p.2
  | [],es,h=>⟨[],rfl,Z5 h⟩
  | x::xs,es,h=>Z7 (Q:=λ es=>∃ ps:List Pos,ps.length=(x::xs).length∧es=((x::xs).zip ps).map λ p=>Expr.Name (Str.ofString p.1) p.2) h λ e r h=>by
    obtain ⟨ps,h1,h2⟩:=Zak (and2 h).2
    obtain ⟨p,rfl⟩:∃ p,e=.Name (Str.ofString x) p:=Y2 (and2 h).1 λ n p hn=>⟨p,by rw [Z7u hn]⟩
    exact ⟨p::ps,Z7r Nat.succ h1,by rw [h2]; rfl⟩
theorem Q1:∀ (l:List (String×Pos)),assignEach (l.map λ p=>Expr.Name (Str.ofString p.1) p.2) env=l.map λ p=>(false,assign (.Name (Str.ofString p.1) p.2) env)
  | []=>rfl
  | p::l=>by
    show (false,assign (.Name (Str.ofString p.1) p.2) env)::assignEach (l.map _) env=_
    rw [Q1 l]; rfl
theorem Zpg {n:Str} {p:Pos} {v:Value} {QU:Unit→Shared→Prop} (h:wpAny M A (storeName env n v) QU E s):wpAny M A (assign (.Name n p) env v) QU E s:=by
  show wpAny M A (do standAt p; bindName env n v) QU E s
  exact Z7p (wpAny_standAt (wpAny_bindName h))
structure FRel (X:Cx) (env:Env) (A:Around) (σ:St) (xs₀:List String) (FR:Wd→Fm→Prop) (J:List Addr):Prop where
  pin:∀ {W ν},FR W ν→NoVal W J
  st:∀ {W ν s E} {x:String} {v:AVal} {cv:Value} {QU:Unit→Shared→Prop},FR W ν→Inv X W σ s→VRel W cv v→x∈xs₀→(∀ W' s',LeX J W W'→Inv X W' σ s'→FR W' (upd ν x v)→QU () s')→wpAny (model pp X.w) A (storeName env (Str.ofString x) cv) QU E s
theorem Zww {xs₀:List String} {FR:Wd→Fm→Prop} {J:List Addr} (R:FRel X env A σ xs₀ FR J):∀ {xs:List String} {ps:List Pos} {vs:List AVal} {cvs:List Value} {W:Wd} {ν ν':Fm} {s:Shared} {QU:Unit→Shared→Prop},(∀ x∈xs,x∈xs₀)→ps.length=xs.length→Z3 xs vs ν=some ν'→VRels W cvs vs→FR W ν→Inv X W σ s→
      (∀ W' s',LeX J W W'→Inv X W' σ s'→FR W' ν'→QU () s')→wpAny (model pp X.w) A (assignInOrder ((xs.zip ps).map λ p=>assign (.Name (Str.ofString p.1) p.2) env) cvs) QU E s
  | [],ps,[],cvs,W,ν,ν',s,QU,_,_,hb,hv,hF,I,h=>by
    rw [F2.nil_right hv]
    exact Z7q (h W s (LeX.refl _ _) I (Z7g hb▸hF))
  | x::xs,p::ps,v::vs,cvs,W,ν,ν',s,QU,hx,hl,hb,hv,hF,I,h=>by
    obtain ⟨c,cs,rfl,h1,h2⟩:=F2.cons_right hv
    rw [List.zip_cons_cons,Z7e]
    exact Z7p (wpAny_holding (Zpg (R.st hF I h1 (hx x Z66) λ W1 s1 l1 I1 F1=>
      Zww R (λ y hy=>hx y (Z67 _ hy)) (Nat.succ.inj hl) hb (VRels.monoX h2 l1 (R.pin hF)) F1 I1 λ W2 s2 l2 I2 F2=>h W2 s2 (l1.trans l2) I2 F2)))
  | [],_,_::_,_,_,_,_,_,_,_,_,hb,_,_,_,_=>nomatch hb
  | _::_,_,[],_,_,_,_,_,_,_,_,hb,_,_,_,_=>nomatch hb
  | _::_,[],_,_,_,_,_,_,_,_,hl,_,_,_,_,_=>nomatch hl
theorem Zgz {xs:List String} {k:Nat} {tg:Expr} (h:Zk1 xs k tg=true):((k=0∨k=2)∧Z9 tg=false∧∃ x p,xs=[x]∧tg=.Name (Str.ofString x) p)∨((k=1∨(k=3∨k=4))∧Z9 tg=true∧∃ es kk p,tg=.Tuple es kk p∧Zo5 xs es=true∧2≤xs.length):=by
  rcases Bool.or_eq_true_iff.mp h with h | h
  · refine .inl ⟨(Bool.or_eq_true_iff.mp (and2 h).1).imp Z7u Z7u,?_⟩
    refine Qr (Q:=λ xs=>Z9 tg=false∧∃ x p,xs=[x]∧tg=.Name (Str.ofString x) p) (and2 h).2 λ x hx=>?_
    obtain ⟨p,rfl⟩:∃ p,tg=.Name (Str.ofString x) p:=Y2 hx λ n p hn=>⟨p,by rw [Z7u hn]⟩
    exact ⟨rfl,x,p,rfl,rfl⟩
  · refine .inr ⟨(Bool.or_eq_true_iff.mp (and2 h).1).imp Z7u λ q=>(Bool.or_eq_true_iff.mp q).imp Z7u Z7u,?_⟩
    obtain ⟨es,kk,p,rfl,hf⟩:∃ es kk p,tg=.Tuple es kk p∧(Zo5 xs es&&Nat.ble 2 xs.length)=true:=Jl (and2 h).2 λ es kk p h=>⟨es,kk,p,rfl,h⟩
    exact ⟨rfl,es,kk,p,rfl,(and2 hf).1,Z6y (and2 hf).2⟩
theorem Z5a {FR:Wd→Fm→Prop} {J:List Addr} {xs:List String} (R:FRel X env A σ xs FR J) (hh:A.handled=none) {k:Nat} {tg:Expr} (hf:Zk1 xs k tg=true) {v:Value} {x:List AVal} (hv:TurnV (Z9 tg) W v x) (hb:Z3 xs x ν=some ν') (hF:FR W ν) (I:Inv X W σ s) {QU:Unit→Shared→Prop}
    (h:∀ W' s',LeX J W W'→Inv X W' σ s'→FR W' ν'→QU () s'):wpAny (model pp X.w) A (assign tg env v) QU E s:=by
  rcases Zgz hf with ⟨zz,zz,y,p,rfl,rfl⟩ | ⟨zz,zz,es,kk,p,rfl,hfx,hlen⟩
  · obtain ⟨a,rfl,hva⟩:=hv
    exact Zpg (R.st hF I hva (Z7c.mpr rfl) λ W' s' l I' F'=>h W' s' l I' (Z7g hb▸F'))
  · obtain ⟨a,rfl,vs,hl,hr⟩:=I.tup (show VRel W v (.tup x) from hv)
    obtain ⟨ps,h1,rfl⟩:=Zak hfx
    have hzl:(xs.zip ps).length=xs.length:=by rw [List.length_zip,h1,Nat.min_self]
    have e:=Q1 (env:=env) (xs.zip ps)
    refine wpAny_assign_Tuple hh hl.isTuple (by rw [e,Z68,hzl,hr.size,← Zad hb]) (by rw [e]; simp [List.findIdx?_eq_none_iff]) λ h' he=>?_
    rw [e,List.map_map]
    exact Zww R (λ y hy=>hy) h1 hb hr hF (I.grow (tk:=s.toks) λ b o hb e=>he b o (λ q=>Nat.lt_irrefl _ (q▸Heap.lt_size e)) e) h
noncomputable def relK (sc:Scope) (n:Str) (k:NameKind):NameKind:=if (k==NameKind.free&&sc.kind==.function&&sc.names.lookup n==some .cell) then NameKind.cell else k
theorem Zgk {sc:Scope}:∀ {names:List (Str×NameKind)} {n:Str},(names.map λ (n,k)=>if (k==NameKind.free&&sc.kind==.function&&sc.names.lookup n==some .cell) then (n,NameKind.cell) else (n,k)).lookup n=(names.lookup n).map (relK sc n)
  | [],n=>rfl
  | (m,k)::r,n=>by
    have ih:=@Zgk sc r n
    rw [Z7e]
    have e:(if (k==NameKind.free&&sc.kind==.function&&sc.names.lookup m==some .cell)=true then (m,NameKind.cell) else (m,k))=(m,relK sc m k):=by unfold relK; split <;> rfl
    rw [show (match (m,k) with | (n,k)=>if (k==NameKind.free&&sc.kind==.function&&sc.names.lookup n==some .cell)=true then (n,NameKind.cell) else (n,k))=(m,relK sc m k) from e,List.lookup_cons,List.lookup_cons]
    by_cases h:n=m
    · rw [h,Z7x]; rfl
    · rw [Z7v.mpr h]; exact ih
theorem Zs2 {scope:Scope} (h:∀ y∈scope.names,y.2=.free→(env.cells.lookup y.1).isSome=true):
    ∃ cl,closureFor scope env=pure cl∧(∀ n,(n,NameKind.free)∈scope.names→cl.lookup n=env.cells.lookup n)∧∀ p∈cl,env.cells.lookup p.1=some p.2∧(p.1,NameKind.free)∈scope.names:=by
  have key:∀ (names:List (Str×NameKind)) (acc:List (Str×Addr)),(∀ y∈names,y.2=.free→(env.cells.lookup y.1).isSome=true)→(∀ p∈acc,env.cells.lookup p.1=some p.2)→
      ∃ cl,(forIn names acc λ (x:Str×NameKind) (cs:List (Str×Addr))=>(if x.2==.free then do let c ← cellOf env x.1; pure (ForInStep.yield ((x.1,c)::cs)) else pure (ForInStep.yield cs):Sem _))=pure cl∧
        (∀ n,(n,NameKind.free)∈names→cl.lookup n=env.cells.lookup n)∧(∀ n,(∃ c,acc.lookup n=some c)→cl.lookup n=env.cells.lookup n)∧∀ p∈cl,env.cells.lookup p.1=some p.2∧((p.1,NameKind.free)∈names∨p∈acc):=by
    intro names
    induction names with
    | nil=>intro acc zz ha; exact ⟨acc,rfl,λ n hn=>(nomatch hn),λ n ⟨c,hc⟩=>by rw [hc]; exact (ha _ (mem_of_lookup hc)).symm,λ p hp=>⟨ha p hp,.inr hp⟩⟩
    | cons x names ih=>
      intro acc hx ha
      obtain ⟨n,k⟩:=x
      by_cases hk:k=.free
      · subst hk
        obtain ⟨c,hc⟩:=Option.isSome_iff_exists.mp (hx (n,.free) Z66 rfl)
        have hself:((n,c)::acc).lookup n=some c:=by rw [List.lookup_cons,Z7x]
        obtain ⟨cl,h1,h2,h3,h4⟩:=ih ((n,c)::acc) (λ y hy=>hx y (Z67 _ hy)) λ p hp=>(Z7a.mp hp).elim (λ q=>q▸hc) (ha p)
        refine ⟨cl,?_,λ m hm=>?_,λ m ⟨d,hd⟩=>?_,λ p hp=>⟨(h4 p hp).1,?_⟩⟩
        · have:cellOf env n=pure c:=by unfold cellOf; rw [hc]
          rw [List.forIn_cons]
          simp only [Z7x,if_true,this,pure_bind]
          exact h1
        · exact (Z7a.mp hm).elim (λ q=>by injection q with q; rw [q]; exact h3 n ⟨c,hself⟩) (h2 m)
        · by_cases hmn:m=n
          · rw [hmn]; exact h3 n ⟨c,hself⟩
          · exact h3 m ⟨d,by rw [List.lookup_cons,Z7v.mpr hmn]; exact hd⟩
        · exact (h4 p hp).2.elim (λ q=>.inl (Z67 _ q)) λ q=>(Z7a.mp q).elim (λ q=>.inl (q▸Z66)) .inr
      · obtain ⟨cl,h1,h2,h3,h4⟩:=ih acc (λ y hy=>hx y (Z67 _ hy)) ha
        refine ⟨cl,?_,λ m hm=>(Z7a.mp hm).elim (λ q=>absurd (Z7r Prod.snd q).symm hk) (h2 m),h3,λ p hp=>⟨(h4 p hp).1,(h4 p hp).2.imp (Z67 _) id⟩⟩
        rw [List.forIn_cons]
        simp only [show (k==NameKind.free)=false from Z7v.mpr hk,Bool.false_eq_true,if_false,pure_bind]
        exact h1
  obtain ⟨cl,h1,h2,zz,h4⟩:=key scope.names [] h (λ p hp=>nomatch hp)
  refine ⟨cl,?_,h2,λ p hp=>⟨(h4 p hp).1,(h4 p hp).2.resolve_right λ q=>nomatch q⟩⟩
  unfold closureFor
  simp only
  rw [show (forIn scope.names ([]:List (Str×Addr)) λ x r=>_)=_ from h1]
  rfl
noncomputable def Zgd (sc:Scope) (ν:Fm):Fm:=λ y=>if sc.names.lookup (Str.ofString y)=some .local then none else ν y
structure Zfl (xs:List String) (scope sc:Scope):Prop where
  kind:scope.kind=.function
  nocell:∀ y∈scope.names,y.2≠.cell
  loc:∀ y∈scope.names,y.2=.local→scope.names.lookup y.1=some .local
  free:∀ y∈scope.names,y.2=.free→∃ k,sc.names.lookup y.1=some k∧CF k
  sub:∀ y∈scope.names,y.2=.local→y.1=Str.ofString ".0"∨∃ x∈xs,y.1=Str.ofString x
  xs:∀ x∈xs,scope.names.lookup (Str.ofString x)=some .local
theorem Zvk {k k':NameKind} {b:Bool} (h:(k != k' || b)=true) (hk:k=k'):b=true:=(Bool.or_eq_true_iff.mp h).resolve_left λ q=>bne_iff_ne.mp q hk
theorem Zum {xs:List String} {scope sc:Scope} (h:Zqa xs scope sc=true):Zfl xs scope sc:=
  have ⟨h1,h⟩:=and2 h
  have ⟨h2,h⟩:=and2 h
  have ⟨h3,h⟩:=and2 h
  have ⟨h4,h⟩:=and2 h
  have ⟨h5,h6⟩:=and2 h
  ⟨Z7u h1,λ y hy=>bne_iff_ne.mp (Y8 h2 hy),λ y hy hl=>Z7u (Zvk (Y8 h3 hy) hl),λ y hy hl=>(Bool.or_eq_true_iff.mp (Zvk (Y8 h4 hy) hl)).elim (λ q=>⟨_,Z7u q,.inl rfl⟩) λ q=>⟨_,Z7u q,.inr rfl⟩,
    λ y hy hl=>(Bool.or_eq_true_iff.mp (Zvk (Y8 h5 hy) hl)).imp Z7u λ q=>(List.any_eq_true.mp q).elim λ x q=>⟨x,q.1,Z7u q.2⟩,λ x hx=>Z7u (Y8 h6 hx)⟩
section
variable {xs:List String} {scope:Scope} {cl:List (Str×Addr)} {C:Addr}
theorem Zho {n:Str}:(compEnvC scope cl C env).kindOf n=(scope.names.lookup n).map (relK env.scope n):=Zgk (sc:=env.scope)
theorem Zr5 {n:Str} {k:NameKind} (h:relK env.scope n k=.local):k=.local:=by
  unfold relK at h
  split at h
  · exact nomatch h
  · exact h
theorem Z05 {n:Str} {k:NameKind} (h:CF (relK env.scope n k)) (hk:k≠.cell):k=.free:=by
  unfold relK at h
  split at h
  · rename_i q; exact Z7u (and2 (and2 q).1).1
  · exact h.resolve_left hk
theorem Zno (ok:Zfl xs scope env.scope) {n:Str} {k:NameKind} (hk:(compEnvC scope cl C env).kindOf n=some k) (hc:CF k):(n,NameKind.free)∈scope.names∧∃ k,env.kindOf n=some k∧CF k:=by
  rw [Zho] at hk
  obtain ⟨k',h1,h2⟩:=Z7h.mp hk
  have hm:=mem_of_lookup h1
  have q:k'=.free:=Z05 (h2▸hc) (ok.nocell _ hm)
  rw [q] at hm
  exact ⟨hm,ok.free _ hm rfl⟩
theorem Frm.comp (F:Frm X W env own ν) (ok:Zfl xs scope env.scope) (hcl:∀ n,(n,NameKind.free)∈scope.names→cl.lookup n=env.cells.lookup n) {o:Obj} {m:Str→Option Value} (hC:W C=.imm o none) (hn:NsO o m) (hold:X.s1.heap.get? C=none):Frm X W (compEnvC scope cl C env) [C] (Zgd scope ν) where
  kind:=ok.kind
  glob:=F.glob
  blt:=F.blt
  pin:=mem1 ⟨o,hC⟩
  old:=mem1 hold
  ownL:=Z7c.mpr rfl
  loc:=⟨o,m,hC,hn,λ x v hk hv=>by
    rw [Zho] at hk
    obtain ⟨k,h1,h2⟩:=Z7h.mp hk
    rw [Zr5 h2] at h1
    unfold Zgd at hv
    rw [if_pos h1] at hv; exact nomatch hv⟩
  cell n k hk hc:=by
    obtain ⟨hm,k2,q1,q2⟩:=Zno ok hk hc
    obtain ⟨cv,c,oc,a1,a2⟩:=F.cell n k2 q1 q2
    exact ⟨cv,c,oc,(hcl n hm).trans a1,a2⟩
  val x v k hk hc hv:=by
    obtain ⟨hm,k2,q1,q2⟩:=Zno ok hk hc
    have hv':ν x=some v:=by
      unfold Zgd at hv
      split at hv
      · exact nomatch hv
      · exact hv
    obtain ⟨cv,⟨c,oc,a1,a2⟩,a4⟩:=F.val x v k2 q1 q2 hv'
    exact ⟨cv,⟨c,oc,(hcl _ hm).trans a1,a2⟩,a4⟩
theorem Frm.compBound {x:List AVal} (ok:Zfl xs scope env.scope) {ν₁ ν₂:Fm} (h1:Z3 xs x (Zgd scope ν)=some ν₁) (h2:Z3 xs x (hide ν)=some ν₂) (F:Frm X W (compEnvC scope cl C env) [C] ν₁):Frm X W (compEnvC scope cl C env) [C] ν₂:=by
  obtain ⟨μ,e,hμ⟩:=Zd9 h2 (Zgd scope ν)
  rw [← Z7g (h1.symm.trans e)] at hμ
  refine F.sub λ y k v hk hv=>?_
  by_cases hy:y∈xs
  · rw [← (hμ y).1 hy]; exact hv
  · obtain ⟨a,b⟩:=(hμ y).2 hy
    rw [a] at hv
    rw [b]
    unfold hide at hv
    split at hv
    · exact nomatch hv
    · rename_i h0
      unfold Zgd
      rw [if_neg λ hl:scope.names.lookup (Str.ofString y)=some .local=>(ok.sub _ (mem_of_lookup hl) rfl).elim (λ e=>h0 (Yj e)) λ ⟨z,hz,e⟩=>hy (Yj e▸hz)]
      exact hv
theorem Frm.compAgain {x:List AVal} (ok:Zfl xs scope env.scope) {ν₁:Fm} (h1:Z3 xs x (Zgd scope ν)=some ν₁) (F:Frm X W (compEnvC scope cl C env) [C] ν₁):Frm X W (compEnvC scope cl C env) [C] (Zgd scope ν):=by
  obtain ⟨μ,e,hμ⟩:=Zd9 h1 ν
  refine F.sub λ y k v hk hv=>?_
  by_cases hy:y∈xs
  · unfold Zgd at hv
    rw [if_pos (ok.xs y hy)] at hv; exact nomatch hv
  · rw [((hμ y).2 hy).1]; exact hv
end
end PL
end
section
open PySem PySem.W PyProof.Rows PySem.SeqAt
namespace PL
variable {X:Cx} {W W':Wd} {σ σ' σ1 σ2:St} {s s':Shared} {A:Around} {E:Value→Shared→Prop} {Q:Value→Shared→Prop} {j:Nat} {ν ν':Fm} {env:Env} {own:List Addr} {M:Model}
inductive IfsE (j:Nat) (ν:Fm):List PE→St→Bool→St→Prop
  | nil (σ:St):IfsE j ν [] σ true σ
  | yes {e:PE} {es:List PE} {σ σ1 σ2:St} {b:Bool} (h:EvE j e ν σ (.bool true) σ1) (hs:IfsE j ν es σ1 b σ2):IfsE j ν (e::es) σ b σ2
  | no {e:PE} {es:List PE} {σ σ1:St} (h:EvE j e ν σ (.bool false) σ1):IfsE j ν (e::es) σ false σ1
inductive LcR (j:Nat) (g:Option (Nat×List AVal)) (names:List String) (ifs:List PE) (e:PE) (ν:Fm):List (List AVal)→List AVal→St→List AVal→St→Prop
  | nil {acc:List AVal} {σ:St} (hst:Jy g σ):LcR j g names ifs e ν [] acc σ acc σ
  | keep {v:List AVal} {r:List (List AVal)} {acc ys:List AVal} {ν':Fm} {y:AVal} {σ σ1 σ2 σ3:St} (hst:Jy g σ) (hb:Z3 names v (hide ν)=some ν') (hi:IfsE j ν' ifs σ true σ1) (he:EvE j e ν' σ1 y σ2) (hl:acc.length < 16000) (hr:LcR j g names ifs e ν r (acc++[y]) σ2 ys σ3):LcR j g names ifs e ν (v::r) acc σ ys σ3
  | skip {v:List AVal} {r:List (List AVal)} {acc ys:List AVal} {ν':Fm} {σ σ1 σ3:St} (hst:Jy g σ) (hb:Z3 names v (hide ν)=some ν') (hi:IfsE j ν' ifs σ false σ1) (hr:LcR j g names ifs e ν r acc σ1 ys σ3):LcR j g names ifs e ν (v::r) acc σ ys σ3
theorem Zih {Q:Bool→Shared→Prop} (h:Q false s):∀ cs:List Expr,wpAny (model pp X.w) A (forIn cs false λ c r=>if r=true then do let ok ← isTrue c env (eval c env); pure (ForInStep.yield ok) else pure (ForInStep.yield r)) Q E s
  | []=>Z7q h
  | c::cs=>by rw [List.forIn_cons]; exact Z7p (Z7q (Zih h cs))
theorem Z0f {ifs:List PE} {b:Bool} (h:IfsE j ν ifs σ b σ'):∀ {cs:List Expr} {W:Wd} {s:Shared} {Q:Bool→Shared→Prop},Jj env.scope ifs cs=true→Cfg X j W env own ν σ A s→PsT X W σ' b Q→
    wpAny (model pp X.w) A (forIn cs true λ c r=>if r=true then do let ok ← isTrue c env (eval c env); pure (ForInStep.yield ok) else pure (ForInStep.yield r)) Q E s:=by
  induction h with
  | nil σ=>intro cs W s Q hf c hq; rw [Z5 hf]; exact Z7q (hq W s (LeX.refl [] W) c.inv)
  | @yes e es σ σ1 σ2 b h _ ih=>
    intro cs W s Q hf c hq
    refine Z7 (Q:=λ cs=>wpAny _ _ (forIn cs true _) Q E s) hf λ x r hf=>?_
    rw [List.forIn_cons]
    refine Z7p ?_
    show wpAny _ _ (isTrue x env (eval x env) >>= _) _ _ _
    exact Z7p (h.te (and2 (and2 hf).2).1 c λ W1 s1 l1 I1=>Z7q (ih (and2 (and2 hf).2).2 (c.to l1 I1) (hq.le l1)))
  | no h=>
    intro cs W s Q hf c hq
    refine Z7 (Q:=λ cs=>wpAny _ _ (forIn cs true _) Q E s) hf λ x r hf=>?_
    rw [List.forIn_cons]
    refine Z7p ?_
    show wpAny _ _ (isTrue x env (eval x env) >>= _) _ _ _
    exact Z7p (h.te (and2 (and2 hf).2).1 c λ W1 s1 l1 I1=>Z7q (Zih (hq W1 s1 l1 I1) r))
structure CompC (X:Cx) (W:Wd) (env:Env) (xs:List String) (k:Nat) (tg:Expr) (scope:Scope) (cl:List (Str×Addr)) (C D:Addr) (J:List Addr) (j:Nat) (A:Around):Prop where
  ok:Zfl xs scope env.scope
  fit:Zk1 xs k tg=true
  room:AOK (2*j+1) A
  oD:X.s1.heap.get? D=none
  fC:W C=.free
  fD:W D=.free
  fJ:∀ a∈J,W a=.free
  CD:C≠D
  CJ:C ∉ J
  DJ:D ∉ J
  lc:∀ p∈cl,∃ o,W p.2=.imm o none
structure CompI (X:Cx) (W:Wd) (env:Env) (ν:Fm) (scope:Scope) (cl:List (Str×Addr)) (C D:Addr) (At:Wd→Prop) (W1:Wd) (σ1:St) (ys:List AVal) (s1:Shared):Prop where
  le:Le W W1
  inv:Inv X W1 σ1 s1
  here:At W1
  frm:Frm X W1 (compEnvC scope cl C env) [C] (Zgd scope ν)
  acc:∃ vs n,W1 D=.imm (Zba vs n) none∧VRels W1 vs.toList ys
section
variable {xs:List String} {k:Nat} {tg iter elt:Expr} {ifsX:List Expr} {ifs:List PE} {e:PE} {scope:Scope} {pos:Pos} {cl:List (Str×Addr)} {C D:Addr} {J:List Addr} {g:Option (Nat×List AVal)} {turns:List (List AVal)} {it:Value}
theorem CompC.offJ (c:CompC X W env xs k tg scope cl C D J j A):Off (compEnvC scope cl C env) [C] J:=λ a ha=>⟨λ hm=>c.CJ (Z7c.mp hm▸ha),λ p hp e=>(c.lc p hp).elim λ o ho=>by rw [e,c.fJ a ha] at ho; exact nomatch ho⟩
theorem CompC.offD (c:CompC X W env xs k tg scope cl C D J j A):Off (compEnvC scope cl C env) [C] [D]:=mem1 ⟨Z1f c.CD.symm,λ p hp e=>(c.lc p hp).elim λ o ho=>by rw [e,c.fD] at ho; exact nomatch ho⟩
theorem Zs0 (c:CompC X W env xs k tg scope cl C D J j A):FRel X (compEnvC scope cl C env) A σ xs (λ W ν=>Frm X W (compEnvC scope cl C env) [C] ν) [C]:=
  ⟨λ F=>F.noVal,λ F I hv hx h=>F.storeL I hv (by rw [Zho,c.ok.xs _ hx]; rfl) h⟩
theorem Zd6 {α:Type} {l:List α} {i:Nat} {x:α} {r:List α} (h:l.drop i=x::r):l[i]? = some x∧l.drop (i+1)=r:=by
  have e:l[i]? = some x:=by rw [← List.head?_drop,h]; rfl
  exact ⟨e,by rw [← List.tail_drop,h]; rfl⟩
theorem drop_nil {α:Type} {l:List α} {i:Nat} (h:l.drop i=[]) (hi:i≤l.length):i=l.length:=Nat.le_antisymm hi (List.drop_eq_nil_iff.mp h)
theorem Znn (c:CompC X W env xs k tg scope cl C D J j A) (S:Src X tg g it J turns) {i:Nat} {v:List AVal} {W1:Wd} {σ1:St} {ys:List AVal} {s1:Shared} {ν':Fm} (I:CompI X W env ν scope cl C D (S.At i) W1 σ1 ys s1) (hv:turns[i]? = some v) (hst:Jy g σ1) (hb:Z3 xs v (hide ν)=some ν') {Q:PySem.Fin→Shared→Prop}
    {f:Option Value→Sem PySem.Fin} {K:Sem PySem.Fin} (hf:∀ u,f (some u)=letOwnedTupleGo tg it u >>= λ zz=>assign tg (compEnvC scope cl C env) u >>= λ zz=>K)
    (h:∀ W3 s3,CompI X W env ν scope cl C D (S.At (i+1)) W3 σ1 ys s3→Cfg X j W3 (compEnvC scope cl C env) [C] ν' σ1 A s3→wpAny (model pp X.w) A K Q E s3):
    wpAny (model pp X.w) A (pyNext it) (λ r s2=>wpAny (model pp X.w) A (f r) Q E s2) E s1:=by
  refine wpAny_mono (S.item (Q:=λ u s2=>wpAny (model pp X.w) A (assign tg (compEnvC scope cl C env) u) (λ zz s3=>wpAny (model pp X.w) A K Q E s3) E s2) hv I.here I.inv hst λ W2 u s2 l2 I2 hat2 hu=>?_) (λ r s2 h2=>?_) λ zz zz x=>x
  · have N1:=NoVal.of_pins (S.pin I.here)
    have l12:Le W W2:=((I.le.X (X:=J)).trans l2).le c.fJ
    have F2:=I.frm.monoX l2 N1 c.offJ
    obtain ⟨vs,n,hD,hr⟩:=I.acc
    have hD2:W2 D=.imm (Zba vs n) none:=Yv hD l2 c.DJ
    obtain ⟨ν₁,hb1,zz⟩:=Zd9 hb (Zgd scope ν)
    refine Z5a (Zs0 c) c.room.hh c.fit hu hb1 F2 I2 λ W3 s3 l3 I3 F3=>?_
    have N2:=F2.noVal
    exact h W3 s3 ⟨((l12.X (X:=[C])).trans l3).le (mem1 c.fC),I3,S.mono hat2 l3 N2 (λ a ha hm=>c.CJ (Z7c.mp hm▸ha)),Frm.compAgain c.ok hb1 F3,vs,n,Yv hD2 l3 (Z1f c.CD.symm),(hr.monoX l2 N1).monoX l3 N2⟩ ⟨Frm.compBound c.ok hb1 hb F3,c.room,I3⟩
  · cases r with
    | none=>exact h2.elim
    | some u=>rw [hf u]; exact Z7p (wpAny_mono h2 (λ zz s2 h=>Z7p h) λ zz zz x=>x)
theorem CompI.to {At:Wd→Prop} {W1 W2:Wd} {σ1 σ2:St} {ys:List AVal} {s1 s2:Shared} (I:CompI X W env ν scope cl C D At W1 σ1 ys s1) (l:Le W1 W2) (I2:Inv X W2 σ2 s2) (ha:At W2):CompI X W env ν scope cl C D At W2 σ2 ys s2:=
  ⟨I.le.trans l,I2,ha,I.frm.mono l,I.acc.elim λ vs h=>h.elim λ n h=>⟨vs,n,Qe h.1 l,VRels.mono h.2 l⟩⟩
theorem Zwr (c:CompC X W env xs k tg scope cl C D J j A) (hfi:Jj (relS scope env.scope) ifs ifsX=true) (hfe:e (relS scope env.scope) elt=true) (S:Src X tg g it J turns) {yf:List AVal} {σf:St} {R:Result→Shared→Prop}
    (hR:∀ W' s' vs n oC m,Le W W'→Inv X W' σf s'→W' D=.imm (Zba vs n) none→VRels W' vs.toList yf→W' C=.imm oC none→NsO oC m→R (.ok .next) s') {rest:List (List AVal)} {ys:List AVal} {σ1:St} (h:LcR j g xs ifs e ν rest ys σ1 yf σf):
    ∀ (i:Nat) (W1:Wd) (s1:Shared),turns.drop i=rest→i≤turns.length→CompI X W env ν scope cl C D (S.At i) W1 σ1 ys s1→codeAny (model pp X.w) A (.compLoop (.ListComp elt [⟨tg,iter,ifsX,0⟩] scope pos) 0 it (.ref D) (compEnvC scope cl C env)) R s1:=by
  induction h with
  | nil hst=>
    intro i W1 s1 hd hi I
    refine codeAny_loop' rfl (λ n s=>s=s1) (λ n s e=>?_) 0 rfl
    subst e
    show wpAny _ A ((compTurn (.ListComp elt [⟨tg,iter,ifsX,0⟩] scope pos) 0 it (.ref D) (compEnvC scope cl C env)).onRaise (λ x=>do noteFrame x (compEnvC scope cl C env); theTreesLotGoes x)) _ _ s
    refine wpAny_noted ?_
    rw [compTurn_list]
    refine Z7p (wpAny_standAt (Z7p ?_))
    refine S.stop c.room.hh (drop_nil hd hi▸I.here) I.inv hst λ W2 s2 l2 I2=>Z7q ?_
    have N1:=NoVal.of_pins (S.pin I.here)
    obtain ⟨vs,n,hD,hr⟩:=I.acc
    obtain ⟨o,m,h1,h2,zz⟩:=(I.frm.monoX l2 N1 c.offJ).loc
    exact hR W2 s2 vs n o m (((I.le.X (X:=J)).trans l2).le c.fJ) I2 (Yv hD l2 c.DJ) (hr.monoX l2 N1) h1 h2
  | keep hst hb hif hel hlen hrest ih=>
    intro i W1 s1 hd hi I
    obtain ⟨hv,hd'⟩:=Zd6 hd
    refine codeAny_loop' rfl (λ n s=>s=s1) (λ n s e=>?_) 0 rfl
    subst e
    show wpAny _ A ((compTurn (.ListComp elt [⟨tg,iter,ifsX,0⟩] scope pos) 0 it (.ref D) (compEnvC scope cl C env)).onRaise (λ x=>do noteFrame x (compEnvC scope cl C env); theTreesLotGoes x)) _ _ s
    refine wpAny_noted ?_
    rw [compTurn_list]
    refine Z7p (wpAny_standAt (Z7p (Znn c S I hv hst hb (λ zz=>rfl) λ W3 s3 I3 c3=>?_)))
    · refine Z7p (Z0f hif hfi c3 λ W4 s4 l4 I4=>?_)
      have I4':=I3.to l4 I4 (S.mono I3.here l4.X NoVal.nil λ zz zz q=>nomatch q)
      refine Z7p (Z7p (hel.val hfe (c3.to l4 I4) λ W5 v5 s5 l5 I5 hv5=>?_))
      have I5':=I4'.to l5 I5 (S.mono I4'.here l5.X NoVal.nil λ zz zz q=>nomatch q)
      obtain ⟨vs,nn,hD5,hr5⟩:=I5'.acc
      refine Z7p (wpAny_list_append_plain ⟨nn,(I5.imm hD5).1⟩ (λ h' hl' hsb=>?_) (by rw [hr5.size]; exact Z4 (Z64 hlen)))
      obtain ⟨n',ho'⟩:=hl'
      have I6:=I5.repin (tk:=s5.toks) hD5 c.oD hsb ho'
      have N5:=NoVal.one hD5
      have l56:LeX [D] W5 (setW W5 D (.imm (Zba (vs.push v5) n') none)):=Zy
      refine Z7q (Z7q (.inr ⟨rfl,ih hR (i+1) _ _ hd' (Z7m.mp hv).1 ⟨((I5'.le.X (X:=[D])).trans l56).le (mem1 c.fD),I6,S.mono I5'.here l56 N5 (λ a ha q=>c.DJ (Z7c.mp q▸ha)),I5'.frm.monoX l56 N5 c.offD,vs.push v5,n',Zh ..,?_⟩⟩))
      rw [Array.toList_push]
      exact (VRels.monoX hr5 l56 N5).append (.one (hv5.monoX l56 N5))
  | skip hst hb hif hrest ih=>
    intro i W1 s1 hd hi I
    obtain ⟨hv,hd'⟩:=Zd6 hd
    refine codeAny_loop' rfl (λ n s=>s=s1) (λ n s e=>?_) 0 rfl
    subst e
    show wpAny _ A ((compTurn (.ListComp elt [⟨tg,iter,ifsX,0⟩] scope pos) 0 it (.ref D) (compEnvC scope cl C env)).onRaise (λ x=>do noteFrame x (compEnvC scope cl C env); theTreesLotGoes x)) _ _ s
    refine wpAny_noted ?_
    rw [compTurn_list]
    refine Z7p (wpAny_standAt (Z7p (Znn c S I hv hst hb (λ zz=>rfl) λ W3 s3 I3 c3=>?_)))
    · exact Z7p (Z0f hif hfi c3 λ W4 s4 l4 I4=>Z7q (.inr ⟨rfl,ih hR (i+1) W4 s4 hd' (Z7m.mp hv).1 (I3.to l4 I4 (S.mono I3.here l4.X NoVal.nil λ zz zz q=>nomatch q))⟩))
end
end PL
end
section
open PySem PySem.W PyProof.Rows PySem.SeqAt
namespace PL
variable {X:Cx} {W W':Wd} {σ σ' σ1 σ2:St} {s s':Shared} {A:Around} {E:Value→Shared→Prop} {Q:Value→Shared→Prop} {j:Nat} {ν ν':Fm} {env:Env} {own:List Addr} {M:Model}
theorem Zaj {it:Expr} {env:Env} (h:Zgi it=true) (x:Value):foldedSetIterable it env x=pure x:=by
  cases it <;> first | rfl | exact nomatch h
theorem SrcR.len1 {k:Nat} {vs:List AVal} {t g} (h:SrcR σ k vs t g) (hk:k≠4):∃ x,vs=[x]:=by
  cases h <;> first | exact ⟨_,rfl⟩ | exact absurd rfl hk
theorem SrcR.len2 {vs:List AVal} {t g} (h:SrcR σ 4 vs t g):∃ x y,vs=[x,y]:=by cases h; exact ⟨_,_,rfl⟩
theorem Zzo:BN "range" (.type "range"):=⟨rfl,by kernel_rfl,by kernel_rfl,.inr ⟨_,rfl⟩⟩
theorem Z2d:BN "enumerate" (.type "enumerate"):=⟨rfl,by kernel_rfl,by kernel_rfl,.inr ⟨_,rfl⟩⟩
theorem Z41:BN "zip" (.type "zip"):=⟨rfl,by kernel_rfl,by kernel_rfl,.inr ⟨_,rfl⟩⟩
section
variable {src:List PE} {vs:List AVal} {turns:List (List AVal)} {g:Option (Nat×List AVal)} {tg it:Expr} {xs:List String}
theorem Zjx {f:String} (b:BN f (.type f)) (hs:EvEs j ν src σ vs σ1) (hf:Zfj (λ h ys kw zz=>Zbt (λ n zz=>n==Str.ofString f&&isGl env.scope n) h&&(is0 kw&&Jj env.scope src ys)) it=true) (c:Cfg X j W env own ν σ A s)
    (h:∀ W1 cvs s1,Le W W1→Inv X W1 σ1 s1→VRels W1 cvs vs→wpAny (model pp X.w) A (PySem.call (.type f) cvs) Q E s1):wpAny (model pp X.w) A (eval it env) Q E s:=
  Zc3 (show PE.byN f src env.scope it=true from hf) λ p ys ps hgl h2=>PyProof.Rows.Call_Name rfl (Zqe c.frm c.inv hgl b (Znp (K:=X.K) b.call (Z6 h2) (Za1 hs h2 c λ W1 cvs s1 l1 I1 hv=>⟨I1.kin,h W1 cvs s1 l1 I1 hv⟩)))
theorem Ztt (hs:EvEs j ν src σ vs σ1) (hf:Jj env.scope src [it]=true) (c:Cfg X j W env own ν σ A s) (h:∀ x W1 cv s1,vs=[x]→Le W W1→Inv X W1 σ1 s1→VRel W1 cv x→Q cv s1):wpAny (model pp X.w) A (eval it env) Q E s:=by
  cases hs with
  | nil=>exact nomatch hf
  | cons he hr=>
    cases hr with
    | cons _ _=>exact no ((Bool.and_false _).symm.trans ((Z7r (_&&·) (Bool.and_false _)).symm.trans hf))
    | nil=>exact he.val (and2 (and2 hf).2).1 c λ W1 v s1 l1 I1 hv=>h _ W1 v s1 rfl l1 I1 hv
theorem Z3o {x y:AVal} (h:[x]=[y]):x=y:=by injection h
theorem Zvc {k:Nat} (hs:EvEs j ν src σ vs σ1) (ht:SrcR σ1 k vs turns g) (hf:Zm8 env.scope k src it=true) (htg:Zk1 xs k tg=true) (c:Cfg X j W env own ν σ A s)
    (h:∀ W1 it s₂,Le W W1→Made X tg g turns σ1 W1 it s₂→Q it s₂):wpAny (model pp X.w) A (eval it env) (λ x s₁=>wpAny (model pp X.w) A (pyIter x) Q E s₁) E s:=by
  have hf:=(and2 hf).2
  rcases Zgz htg with ⟨hk,ht2,zz⟩ | ⟨hk,ht2,zz⟩
  · rcases hk with rfl | rfl
    · exact Ztt hs hf c λ x W1 cv s1 e l1 I1 hv=>Z4g ht2 (e▸ht) I1 hv λ it s2 m=>h W1 it s2 l1 m
    · obtain ⟨x,rfl⟩:=ht.len1 (by decide)
      exact Zjx Zzo hs hf c λ W1 cvs s1 l1 I1 hv=>hv.e1 λ v hv=>Z59 ht2 ht I1 hv λ it s2 m=>h W1 it s2 l1 m
  · rcases hk with rfl | rfl | rfl
    · exact Ztt hs hf c λ x W1 cv s1 e l1 I1 hv=>Z6a ht2 (e▸ht) I1 hv λ it s2 m=>h W1 it s2 l1 m
    · obtain ⟨x,rfl⟩:=ht.len1 (by decide)
      exact Zjx Z2d hs hf c λ W1 cvs s1 l1 I1 hv=>hv.e1 λ v hv=>Z58 ht2 ht I1 hv λ it s2 m=>h W1 it s2 l1 m
    · obtain ⟨x,y,rfl⟩:=ht.len2
      exact Zjx Z41 hs hf c λ W1 cvs s1 l1 I1 hv=>hv.e2 λ v u hv hu=>Z57 ht2 ht I1 hv hu λ it s2 m=>h W1 it s2 l1 m
end
theorem Le.back {a:Addr} (l:Le W W') (h:W' a=.free):W a=.free:=Classical.byContradiction λ q=>q ((l a List.not_mem_nil q).symm.trans h)
theorem Frm.cfree (F:Frm X W env own ν) {xs:List String} {scope:Scope} (ok:Zfl xs scope env.scope):∃ cl,closureFor scope env=pure cl∧(∀ n,(n,NameKind.free)∈scope.names→cl.lookup n=env.cells.lookup n)∧∀ p∈cl,∃ o,W p.2=.imm o none:=by
  have hcells:∀ y∈scope.names,y.2=.free→∃ c o,env.cells.lookup y.1=some c∧W c=.imm o none:=λ y hy hfr=>by
    obtain ⟨k,q,hc⟩:=ok.free y hy hfr
    obtain ⟨cv,c,o,h1,h2,zz⟩:=F.cell y.1 _ q hc
    exact ⟨c,o,h1,h2⟩
  obtain ⟨cl,hcl,hcl1,hcl2⟩:=Zs2 (scope:=scope) (env:=env) λ y hy hfr=>by obtain ⟨c,o,h1,zz⟩:=hcells y hy hfr; rw [h1]; rfl
  refine ⟨cl,hcl,hcl1,λ p hp=>?_⟩
  obtain ⟨h1,h2⟩:=hcl2 p hp
  obtain ⟨c,o,h3,h4⟩:=hcells _ h2 rfl
  exact ⟨o,Z7g (h1.symm.trans h3)▸h4⟩
structure CompEnd (X:Cx) (W W':Wd) (σ':St) (s':Shared) (D C:Addr) (ys:List AVal) (m:Str→Option Value):Prop where
  fC:W C=.free
  fD:W D=.free
  CD:C≠D
  oC:X.s1.heap.get? C=none
  oD:X.s1.heap.get? D=none
  le:Le W W'
  inv:Inv X W' σ' s'
  acc:∃ vs n,W' D=.imm (Zba vs n) none∧VRels W' vs.toList ys
  ns:∃ o,W' C=.imm o none∧NsO o m
section
variable {elt:PE} {xs:List String} {k:Nat} {src ifs:List PE} {vs ys:List AVal} {turns:List (List AVal)} {g:Option (Nat×List AVal)}
theorem Zjf (hs:EvEs j ν src σ vs σ1) (ht:SrcR σ1 k vs turns g) (hg:LcR j g xs ifs elt ν turns [] σ1 ys σ2) {x tg it:Expr} {cs:List Expr} {scope:Scope} {pos:Pos} (hok:Zqa xs scope env.scope=true) (htg:Zk1 xs k tg=true) (hsrc:Zm8 env.scope k src it=true) (hfi:Jj (relS scope env.scope) ifs cs=true) (hfe:elt (relS scope env.scope) x=true)
    (c:Cfg X j W env own ν σ A s) {R:Value→Addr→Result→Shared→Prop} (hR:∀ W' s' D C m,CompEnd X W W' σ2 s' D C ys m→R (.ref D) C (.ok .next) s'):
    ∃ cl,closureFor scope env=pure cl∧Zfl xs scope env.scope∧Zgi it=true∧
    wpAny (model pp X.w) A (eval it env) (λ x' s₁=>wpAny (model pp X.w) A (pyIter x') (λ it' s₂=>wpAny (model pp X.w) A (newList []) (λ acc s₃=>
      wpAny (model pp X.w) A (newFunctionEnv scope env.globals cl [] env.qual none .none (some env)) (λ cenv s₄=>
        codeAny (model pp X.w) A (.compStart (.ListComp x [⟨tg,it,cs,0⟩] scope pos) 0 it' acc { cenv with scope:=relabel scope env }) (R acc cenv.locals) s₄) E s₃) E s₂) E s₁) E s:=by
  have ok:=Zum hok
  obtain ⟨cl,hcl,hcl1,hlc⟩:=c.frm.cfree ok
  refine ⟨cl,hcl,ok,(and2 hsrc).1,Zvc hs ht hsrc htg c λ W1 it' s2 l1 m=>?_⟩
  obtain ⟨J,W2,S,l2,I2,hat,hJ⟩:=m
  have l02:=l1.trans l2
  refine wpAny_newList ?_ (Z63 _)
  obtain ⟨I3,l3⟩:=I2.alloc (o:=Zba #[] 0) (v:=none) s2.toks rfl trivial
  have hDf:W2 s2.heap.objs.size=.free:=I2.free (Z6q _)
  refine wpAny_newFunctionEnv (λ y hy=>ok.nocell y hy) (λ y hy=>nomatch hy) (λ h' hns' hsb=>?_) ok.kind
  obtain ⟨oC,hoC,hnC⟩:=NsO.of hns'
  have hCn:(s2.heap.push { cls:=.type "list",data:=.seq ([]:List Value).toArray }).get? (s2.heap.push { cls:=.type "list",data:=.seq ([]:List Value).toArray }).objs.size=none:=Zx _
  have hDC:(s2.heap.push { cls:=.type "list",data:=.seq ([]:List Value).toArray }).objs.size≠s2.heap.objs.size:=by rw [Heap.size_push]; exact Nat.succ_ne_self _
  have hk:∀ a o,(s2.heap.push { cls:=.type "list",data:=.seq ([]:List Value).toArray }).get? a=some o→h'.get? a=some o:=λ a o e=>(hsb.2 a λ q=>by rw [q,hCn] at e; exact nomatch e).trans (Z7n _ e)
  have hCf3:=I3.free' hCn
  generalize (s2.heap.push { cls:=.type "list",data:=.seq ([]:List Value).toArray }).objs.size=Ca at*
  obtain ⟨I4,l4⟩:=I3.adopt (tk:=s2.toks+0) hk hCn hoC (v:=none) trivial
  have hDW:=Le.back l02 hDf
  have hCW:=Le.back (l02.trans l3) hCf3
  have hDo:=I2.s1free hDf
  have hCo:=I3.s1free hCf3
  have l34:=l3.trans l4
  have l04:=l02.trans l34
  have C:CompC X W env xs k tg scope cl Ca s2.heap.objs.size J j A:=⟨ok,htg,c.room,hDo,hCW,hDW,λ a ha=>Le.back l1 (hJ a ha),hDC,λ q=>(S.pin hat _ q).elim λ o e=>by rw [Qe e l3] at hCf3; exact (nomatch hCf3),λ q=>(S.pin hat _ q).elim λ o e=>by rw [hDf] at e; exact (nomatch e),hlc⟩
  have hat4:=S.mono hat (Le.X l34) (Y:=[]) NoVal.nil λ zz zz q=>nomatch q
  have loop:=Zwr (it:=it') (iter:=it) (pos:=pos) (R:=R (.ref s2.heap.objs.size) Ca) C hfi hfe S (λ W' s' vs n oC m l I' hD hr hC hn=>hR W' s' _ _ m ⟨hCW,hDW,hDC,hCo,hDo,l,I',⟨vs,n,hD,hr⟩,oC,hC,hn⟩) hg 0 _ _ rfl (Z63 _)
    ⟨l04,I4,hat4,Frm.comp (c.frm.mono l04) ok (cl:=cl) hcl1 (Zh ..) hnC hCo,#[],0,Qe (Zh ..) l4,trivial⟩
  exact codeAny_compStart_list loop (S.self hat4 I4 loop)
theorem CompEnd.done {s':Shared} {D C:Addr} {m:Str→Option Value} (e:CompEnd X W W' σ' s' D C ys m):s'.heap.Ns C m∧∀ h',Heap.SameBut C s'.heap h'→∃ W'',Le W W''∧Inv X W'' σ' { s' with heap:=h' }∧VRel W'' (.ref D) (.lst ys):=by
  obtain ⟨oC,hCC,hn⟩:=e.ns
  obtain ⟨vs,n,hDD,hr⟩:=e.acc
  refine ⟨hn.ns (e.inv.imm hCC).1,λ h' hsb=>?_⟩
  have lf:LeX [C] W' (setW W' C .free):=Zy
  have hDf:setW W' C .free D=.imm (Zba vs n) none:=(Qh e.CD.symm).trans hDD
  have I2:=(e.inv.forget (tk:=s'.toks) hCC e.oC hsb).adoptL hDf e.oD (hr.monoX lf (NoVal.one hCC))
  have m1:C∈[C,D]:=Z66
  have m2:D∈[C,D]:=Z67 _ Z66
  exact ⟨_,(((Le.X (X:=[C,D]) e.le).trans (lf.mono (mem1 m1))).trans (Zy.mono (mem1 m2))).le (mem2 e.fC e.fD),I2,.lsts (Zh ..)⟩
@[elab_as_elim] theorem Zlb {sc:Scope} {x:Expr} {P:Expr→Prop} (h:PE.comp elt xs k src ifs sc x=true) (f:∀ e tg it cs scope p,Zqa xs scope sc=true→Zk1 xs k tg=true→Zm8 sc k src it=true→Jj (relS scope sc) ifs cs=true→elt (relS scope sc) e=true→P (.ListComp e [⟨tg,it,cs,0⟩] scope p)):P x:=Zic h λ e gs scope p h=>by
  have h1:=(and2 h).1
  have h2:=(and2 h).2
  refine Qr (Q:=λ gs=>P (.ListComp e gs scope p)) h1 λ gn h=>?_
  obtain ⟨tg,it,cs,asy⟩:=gn
  have h3:=(and2 h).1
  have h:=(and2 h).2
  have h4:=(and2 h).1
  have h:=(and2 h).2
  have h5:=(and2 h).1
  have h:=(and2 h).2
  have h6:=(and2 h).1
  have h7:=(and2 h).2
  rw [show asy=0 from Z7u h3]
  exact f e tg it cs scope p h4 h5 h6 h7 h2
theorem Q3 (hs:EvEs j ν src σ vs σ1) (ht:SrcR σ1 k vs turns g) (hg:LcR j g xs ifs elt ν turns [] σ1 ys σ2):EvE j (.comp elt xs k src ifs) ν σ (.lst ys) σ2:=.plain (λ h=>Zlb h λ zz zz zz zz zz zz zz zz zz zz zz zz zz=>rfl) λ {X x env own W A s E Q} hf c hq=>Zlb hf λ e tg it cs scope pos h1 h2 h3 h4 h5=>by
  obtain ⟨cl,hcl,ok,hns,h⟩:=Zjf hs ht hg (pos:=pos) h1 h2 h3 h4 h5 c (R:=compPost (model pp X.w) A E none Q) (E:=E) λ W' s' D C m e=>by
    obtain ⟨a,b⟩:=e.done
    exact ⟨m,a,λ h' hsb=>(b h' hsb).elim λ W2 q=>hq W2 _ _ q.1 q.2.1 q.2.2⟩
  rw [eval_ListComp]
  exact wpAny_comprehension_free rfl (λ x=>Zaj hns x) hcl ok.kind ok.loc h
end
end PL
end
section
open PySem PySem.W PyProof.Rows PySem.SeqAt
namespace PL
def Z2u (X:Cx) (W':Wd) (env:Env) (own:List Addr) (f:Flw) (ν':Fm) (fl:Flow):Prop:=@Flw.casesOn (λ zz=>Prop) f (fl=.next∧FrmF X W' env own ν') λ v=>∃ cv,fl=.ret cv∧VRel W' cv v
structure CfgF (X:Cx) (j:Nat) (W:Wd) (env:Env) (own:List Addr) (ν:Fm) (σ:St) (A:Around) (s:Shared):Prop where
  frm:FrmF X W env own ν
  room:AOK (2*j+1) A
  inv:Inv X W σ s
def PsF (X:Cx) (W:Wd) (env:Env) (own:List Addr) (f:Flw) (ν':Fm) (σ':St) (Q:Flow→Shared→Prop):Prop:=∀ W' fl s',LeX own W W'→Inv X W' σ' s'→Z2u X W' env own f ν' fl→Q fl s'
structure ExS (j:Nat) (p:PS) (ν:Fm) (σ:St) (f:Flw) (ν':Fm) (σ':St):Prop where
  run:∀ {X:Cx} {t:Stmt} {env:Env} {own:List Addr} {W:Wd} {A:Around} {s:Shared} {E:Value→Shared→Prop} {Q:Flow→Shared→Prop},
  p env.scope t=true→CfgF X j W env own ν σ A s→PsF X W env own f ν' σ' Q→wpAny (model pp X.w) A (exec t env) Q E s
structure ExB (j:Nat) (ps:List PS) (ν:Fm) (σ:St) (f:Flw) (ν':Fm) (σ':St):Prop where
  run:∀ {X:Cx} {ts:List Stmt} {env:Env} {own:List Addr} {W:Wd} {A:Around} {s:Shared} {E:Value→Shared→Prop} {Q:Flow→Shared→Prop},
  fitB env.scope ps ts=true→CfgF X j W env own ν σ A s→PsF X W env own f ν' σ' Q→wpAny (model pp X.w) A (execs ts env) Q E s
section
variable {X:Cx} {W W':Wd} {σ σ' σ1 σ2 σ3:St} {s s':Shared} {A:Around} {E:Value→Shared→Prop} {j:Nat} {ν ν' ν'':Fm} {env:Env} {own:List Addr}
theorem CfgF.c (c:CfgF X j W env own ν σ A s):Cfg X j W env own ν σ A s:=⟨c.frm.toFrm,c.room,c.inv⟩
theorem CfgF.to (c:CfgF X j W env own ν σ A s) (l:Le W W') (I:Inv X W' σ' s'):CfgF X j W' env own ν σ' A s':=⟨c.frm.mono l,c.room,I⟩
theorem PsF.le {f:Flw} {Q:Flow→Shared→Prop} (h:PsF X W env own f ν' σ' Q) (l:LeX own W W'):PsF X W' env own f ν' σ' Q:=λ W2 fl s2 l2=>h W2 fl s2 (l.trans l2)
theorem PsF.next {Q:Flow→Shared→Prop} (h:PsF X W env own .next ν' σ' Q) (I:Inv X W σ' s') (F:FrmF X W env own ν'):Q .next s':=h W _ s' (LeX.refl _ W) I ⟨rfl,F⟩
theorem PsF.ret {v:AVal} {Q:Flow→Shared→Prop} (h:PsF X W env own (.ret v) ν' σ' Q) (I:Inv X W σ' s') {cv:Value} (hv:VRel W cv v):Q (.ret cv) s':=h W _ s' (LeX.refl _ W) I ⟨cv,rfl,hv⟩
theorem Qp {v:Expr} {t:Option Expr} {l:Nat} {env:Env} (h:Zsa v=true):swapsWith v t l env=pure false:=by
  cases v <;> first | rfl | exact nomatch h
theorem Jc {n:Str} (h:Zhx env.scope n=true):env.kindOf n=some .local∨env.kindOf n=some .cell:=by
  show env.scope.names.lookup n=some .local∨env.scope.names.lookup n=some .cell
  exact Zm (Q:=λ o=>o=some .local∨o=some .cell) h (λ q=>no q) λ k hk=>(Bool.or_eq_true_iff.mp hk).imp (λ q=>Z7r some (Z7u q)) λ q=>Z7r some (Z7u q)
theorem Zmu {xs:List String} (h:∀ x∈xs,Zhx env.scope (Str.ofString x)=true):FRel X env A σ xs (λ W ν=>FrmF X W env own ν) own:=
  ⟨λ F=>F.toFrm.noVal,λ F I hv hx k=>F.store I hv (Jc (h _ hx)) k⟩
end
section
variable {j:Nat} {ν ν' ν'':Fm} {σ σ1 σ2 σ3 σ4:St} {x y z w v:AVal} {a b c e t o i l h s:PE} {es src ifs:List PE} {us vs ws xs ys:List AVal} {n m f q:String} {r:AVal} {id:Nat} {fl:Flw} {bl ol:List PS}
theorem Yr (h:EvE j e ν σ v σ1):ExS j (.asg n e) ν σ .next (upd ν n v) σ1:=.mk λ {X st env own W A s E Q} hf c hq=>Y1 hf λ ts u sp h2=>by
  have h3:=(and2 h2).1
  have h4:=(and2 h2).2
  refine Qr (Q:=λ ts=>wpAny _ _ (exec (.Assign ts u sp) env) Q E s) h3 λ tg h3=>Y2 h3 λ m p h3=>?_
  have hn:=(and2 h3).1
  have hs:=(and2 h3).2
  rw [Z7u hn] at hs ⊢
  exact wpAny_Assign_Name (h.val (and2 h4).2 c.c λ W1 cv s1 l1 I1 hv=>(c.frm.mono l1).store I1 hv (Jc hs) λ W2 s2 l2 I2 F2=>hq W2 _ s2 ((Le.X l1).trans l2) I2 ⟨rfl,F2⟩) (Qp (and2 h4).1)
theorem Z5s {cl:String} {k:Nat} {mm:Fm} (he:EvE j e ν σ v σ1) (ho:EvE j o ν σ1 (.ref id) σ2) (hf:σ2.f id=some (.inst cl k mm)) (hat:Jk.contains (cl,n)=true) (hk:k < 100):ExS j (.sat o n e) ν σ .next ν (σ2.put id (.inst cl (k+1) (upd mm n v))):=.mk λ {X st env own W A s E Q} hfit c hq=>Y1 hfit λ ts u sp h2=>by
  have h3:=(and2 h2).1
  have h4:=(and2 h2).2
  refine Qr (Q:=λ ts=>wpAny _ _ (exec (.Assign ts u sp) env) Q E s) h3 λ tg h3=>Yx h3 λ ov m p h3=>?_
  have hn:=(and2 h3).1
  have hs:=(and2 h3).2
  rw [Z7u hn]
  exact plainObj_wpAny_Assign_Attribute (he.val (and2 h4).1 c.c λ W1 cv s1 l1 I1 hv=>ho.val hs (c.c.to l1 I1) λ W2 cu s2 l2 I2 hu=>Z3e hf hat hk I2 hu (hv.mono l2) λ s' I'=>(hq.le (Le.X (l1.trans l2))).next I' (c.frm.mono (l1.trans l2))) (Qp (and2 h4).2)
theorem Zoe {prog:Program} {w:World} {A:Around} {E:Value→Shared→Prop} {s:Shared} {l:Addr} {items:Array Value} {k:Int} {t:Tok} {v:Value} {Q:Unit→Shared→Prop} (hl:s.heap.PlainList l items) (h0:0≤k) (hfit:k < 2 ^ 63) (hn:k < items.size)
    (hQ:∀ h',h'.PlainList l (items.setIfInBounds k.toNat v)→Heap.SameBut l s.heap h'→Q () { s with heap:=h' }):wpAny (model prog w) A (setItem (.ref l) (.int k t) v) Q E s:=by
  obtain ⟨ne,ho⟩:=id hl
  have hd:({ cls:=.type "list",data:=.seq items ne }:Obj).data=.seq items ne:=rfl
  unfold setItem
  try with_reducible refine wpAny_holding ?_
  first | refine Z7p (Z7q ?_) | skip
  refine Z7p (wpAny_sequenceKey hl.isList.typeIs (by decide) ?_)
  refine Z7p (wpAny_callSpecial?_slot (name:=Str.ofString "__setitem__") hl.isList.typeIs F.slot_list_setitem (wpAny_call_entry F.slot_list_setitem hl.isList.typeIs F.entry_list_setitem ?_ (PySem.args_list_setitem _ _ _)))
  show wpAny _ _ (Builtin.List.listSubscript? (.int k t) >>= _) _ _ s
  refine Z7p (wpAny_listSubscript_int (fitsIndex_of h0 hfit) ?_)
  clear hfit
  obtain ⟨j,rfl⟩:=Int.eq_ofNat_of_zero_le h0
  show wpAny _ _ ((seqItemAt l j >>= λ r=>pure (r.map (j,·))) >>= _) _ _ s
  refine Z7p (Z7p (wpAny_seqItemAt ho hd (Z7q ?_)))
  rw [Z7j (Int.ofNat_lt.mp hn)]
  show wpAny _ _ (setSeqItemAt l j v >>= _) _ _ s
  refine Z7p (wpAny_setSeqItemAt ho hd ?_)
  exact Z7p (Z7q (Z7q ⟨.none,rfl,Z7q (hQ _ ⟨_,Heap.get?_update_self _ ho (Obj.isFreed_of_seq (Obj.data_mapSeq hd (·.setIfInBounds j v)).choose_spec)⟩ (Heap.SameBut.update ..))⟩))
inductive SixR (σ:St):Nat→AVal→AVal→AObj→Prop
  | dict {id:Nat} {es:List (AVal×AVal)} {k v:AVal} (he:σ.f id=some (.dict es)) (hk:Zdn es k) (hl:es.length≤16000):SixR σ id k v (.dict (kset es k v))
  | list {id:Nat} {xs:List AVal} {k:Nat} {v:AVal} (he:σ.f id=some (.list xs)) (hk:k < xs.length) (hl:xs.length≤16000):SixR σ id (.int k) v (.list (xs.set k v))
theorem Z3d {X:Cx} {W:Wd} {s:Shared} {A:Around} {E:Value→Shared→Prop} {Q:Unit→Shared→Prop} {k:AVal} {ob:AObj} (e:SixR σ id k v ob) (hA:A.units+30 < cLine) (I:Inv X W σ s) {u kv cv:Value} (hu:VRel W u (.ref id)) (hk:VRel W kv k) (hv:VRel W cv v) (h:∀ s',Inv X W (σ.put id ob) s'→Q () s'):
    wpAny (model pp X.w) A (setItem u kv cv) Q E s:=by
  cases e with
  | dict he hkk hl=>exact Zzd I hu he hk hv hkk hl hA h
  | list he hkl hl=>
    obtain ⟨a,rfl,hW,vs,hl',hr⟩:=I.obj hu he
    obtain ⟨t,rfl⟩:=hk
    exact Zoe hl' (Int.natCast_nonneg _) (Z1j hkl hl).1 (by rw [hr.size]; exact Int.ofNat_lt.mpr hkl) λ h' hl'' hsb=>h _ (I.setList (tk:=s.toks) hW hsb hl'' (by rw [Array.toList_setIfInBounds]; exact hr.set _ hv))
theorem Zt9 {ob:AObj} (he:EvE j e ν σ v σ1) (ho:EvE j o ν σ1 (.ref id) σ2) (hi:EvE j i ν σ2 y σ3) (hs:SixR σ3 id y v ob):ExS j (.six o i e) ν σ .next ν (σ3.put id ob):=.mk λ {X st env own W A s E Q} hfit c hq=>Y1 hfit λ ts u sp h2=>by
  have h3:=(and2 h2).1
  have h4:=(and2 h2).2
  refine Qr (Q:=λ ts=>wpAny _ _ (exec (.Assign ts u sp) env) Q E s) h3 λ tg h3=>Yw h3 λ ov iv p h3=>?_
  exact wpAny_Assign_Subscript (he.val (and2 h4).1 c.c λ W1 cv s1 l1 I1 hv=>ho.val (and2 h3).1 (c.c.to l1 I1) λ W2 cu s2 l2 I2 hu=>hi.val (and2 (and2 h3).2).1 (c.c.to (l1.trans l2) I2) λ W3 ck s3 l3 I3 hk=>
    Z3d hs c.c.un I3 (hu.mono l3) hk ((hv.mono l2).mono l3) λ s' I'=>(hq.le (Le.X ((l1.trans l2).trans l3))).next I' (c.frm.mono ((l1.trans l2).trans l3))) (Qp (and2 h4).2)
theorem Zaz (h:EvE j e ν σ v σ1):ExS j (.ret e) ν σ (.ret v) ν σ1:=.mk λ {X st env own W A s E Q} hfit c hq=>Zed hfit λ oe p h2=>
  Zm (Q:=λ oe=>wpAny _ _ (exec (.Return oe p) env) Q E s) h2 (λ q=>no q) λ u hu=>wpAny_Return_some (h.val hu c.c λ W1 cv s1 l1 I1 hv=>(hq.le (Le.X l1)).ret I1 hv)
theorem Qa (h:EvE j e ν σ v σ1):ExS j (.exp e) ν σ .next ν σ1:=.mk λ {X st env own W A s E Q} hfit c hq=>Zhu hfit λ u p h2=>by
  refine wpAny_Expr_any (h.val (and2 h2).1 c.c λ W1 cv s1 l1 I1 hv=>(hq.le (Le.X l1)).next I1 (c.frm.mono l1)) ?_ (Qp (and2 h2).2)
  unfold interactive
  rw [c.frm.kind]; rfl
theorem Zau (h:EvE j t ν σ (.bool true) σ1) (hb:ExB j bl ν σ1 fl ν' σ2):ExS j (.ifs t bl ol) ν σ fl ν' σ2:=.mk λ {X st env own W A s E Q} hfit c hq=>Znv hfit λ u bs os p h2=>
  wpAny_If (h.te (and2 h2).1 c.c λ W1 s1 l1 I1=>hb.run (and2 (and2 h2).2).1 (c.to l1 I1) (hq.le (Le.X l1)))
theorem Zio (h:EvE j t ν σ (.bool false) σ1) (hb:ExB j ol ν σ1 fl ν' σ2):ExS j (.ifs t bl ol) ν σ fl ν' σ2:=.mk λ {X st env own W A s E Q} hfit c hq=>Znv hfit λ u bs os p h2=>
  wpAny_If (h.te (and2 h2).1 c.c λ W1 s1 l1 I1=>hb.run (and2 (and2 h2).2).2 (c.to l1 I1) (hq.le (Le.X l1)))
theorem Z0s:ExB j [] ν σ .next ν σ:=.mk λ {X ts env own W A s E Q} hf c hq=>by rw [Z5 hf]; exact Z7q (hq.next c.inv c.frm)
theorem Qj {st:PS} {rest:List PS} (h1:ExS j st ν σ .next ν' σ1) (h2:ExB j rest ν' σ1 fl ν'' σ2):ExB j (st::rest) ν σ fl ν'' σ2:=.mk λ {X ts env own W A s E Q} hf c hq=>Z7 (Q:=λ ts=>wpAny _ _ (execs ts env) Q E s) hf λ x r hf=>by
  show wpAny _ _ (do match ← exec x env with | .next=>execs r env | f=>pure f) _ _ _
  refine Z7p (h1.run (and2 hf).1 c λ W1 fo s1 l1 I1 hr=>?_)
  obtain ⟨rfl,F1⟩:=hr
  exact h2.run (and2 hf).2 ⟨F1,c.room,I1⟩ (hq.le l1)
theorem Zzu {st:PS} {rest:List PS} (h1:ExS j st ν σ (.ret v) ν' σ1):ExB j (st::rest) ν σ (.ret v) ν' σ1:=.mk λ {X ts env own W A s E Q} hf c hq=>Z7 (Q:=λ ts=>wpAny _ _ (execs ts env) Q E s) hf λ x r hf=>by
  show wpAny _ _ (do match ← exec x env with | .next=>execs r env | f=>pure f) _ _ _
  refine Z7p (h1.run (and2 hf).1 c λ W1 fo s1 l1 I1 hr=>?_)
  have hr':=hr
  obtain ⟨cv,rfl,hv⟩:=hr
  exact Z7q (hq W1 _ s1 l1 I1 hr')
theorem Zn (h:EvE j t ν σ (.bool false) σ1):ExS j (.ifs t bl []) ν σ .next ν σ1:=Zio h Z0s
theorem Za4 {st:PS} (h:EvE j t ν σ (.bool true) σ1) (hs:ExS j st ν σ1 (.ret v) ν' σ2):ExS j (.ifs t [st] ol) ν σ (.ret v) ν' σ2:=Zau h (Zzu hs)
theorem Qk {st:PS} (hs:ExS j st ν σ .next ν' σ1):ExB j [st] ν σ .next ν' σ1:=Qj hs Z0s
theorem Z5r (hb:ExB j bl ν σ fl ν' σ1):ExS j (.trys bl) ν σ fl ν' σ1:=.mk λ {X st env own W A s E Q} hfit c hq=>Zs7 hfit λ bs hs os fs p h2=>by
  have h3:=(and2 h2).1
  have h4:=(and2 h2).2
  have h5:=(and2 h4).1
  have h6:=(and2 h4).2
  refine Z7 (Q:=λ hs=>wpAny _ _ (exec (.Try bs hs os fs p) env) Q E s) h3 λ h0 hr zz=>?_
  rw [Z5 h5,Z5 (and2 h6).1]
  refine wpAny_Try_except (hb.run (and2 h6).2 c λ W1 fo s1 l1 I1 hr=>?_)
  have hr':=hr
  cases fl with
  | next=>obtain ⟨rfl,F1⟩:=hr; exact Z7q (hq W1 _ s1 l1 I1 hr')
  | ret v=>obtain ⟨cv,rfl,hv⟩:=hr; exact hq W1 _ s1 l1 I1 hr'
end
end PL
end
section
open PySem PySem.W PyProof.Rows PySem.SeqAt
namespace PL
section
variable {X:Cx} {W W':Wd} {σ σ' σ1 σ2 σ3:St} {s s':Shared} {A:Around} {E:Value→Shared→Prop} {j:Nat} {ν ν' ν'':Fm} {env:Env} {own:List Addr}
theorem Z16 {α:Type} {l:List α} {i m:Nat} (h:i+(m+1)=l.length):∃ x,l[i]? = some x∧l.drop i=x::l.drop (i+1):=by
  have hi:i < l.length:=by lia
  exact ⟨l[i],Z7l hi,List.drop_eq_getElem_cons hi⟩
theorem Zwl {g:Option (Nat×List AVal)} {it:Value} {J:List Addr} {xs:List AVal} {n0:Str} {p0:Pos} (S:Src X (.Name n0 p0) g it J (xs.map λ x=>[x])) (hst:Jy g σ):
    ∀ (m i:Nat) (W:Wd) (s:Shared) (Q:List Value→Shared→Prop),i+m=xs.length→S.At i W→Inv X W σ s→
      (∀ W' cvs s',LeX J W W'→Inv X W' σ s'→S.At xs.length W'→VRels W' cvs (xs.drop i)→Q cvs s')→wpAny (model pp X.w) A (draw it m) Q E s
  | 0,i,W,s,Q,hm,hat,I,hq=>by
    obtain rfl:i=xs.length:=hm
    exact Z7q (hq W [] s (LeX.refl _ W) I hat (by rw [List.drop_length]; trivial))
  | m+1,i,W,s,Q,hm,hat,I,hq=>by
    obtain ⟨x,hx,hd⟩:=Z16 hm
    show wpAny _ _ (pyNext it >>= _) Q E s
    refine Z7p (wpAny_mono (S.item (E:=E) (Q:=λ v s2=>wpAny (model pp X.w) A (do return v::(← holding [v] (draw it m))) Q E s2) (x:=[x]) (by rw [List.getElem?_map,hx]; rfl) hat I hst λ W2 v s2 l2 I2 hat2 hv=>?_) (λ r s2 h2=>?_) λ zz zz x=>x)
    · obtain ⟨a,ha,hva⟩:∃ a,[x]=[a]∧VRel W2 v a:=hv
      rw [← Z3o ha] at hva
      refine Z7p (wpAny_holding (Zwl S hst m (i+1) W2 s2 _ (by rw [← hm,Z60,Nat.add_comm 1 m]) hat2 I2 λ W3 cvs s3 l3 I3 hat3 hr=>Z7q (hq W3 _ s3 (l2.trans l3) I3 hat3 ?_)))
      rw [hd]
      exact ⟨hva.monoX l3 (NoVal.of_pins (S.pin hat2)),hr⟩
    · cases r with
      | none=>exact h2.elim
      | some v=>
        have h3:wpAny (model pp X.w) A (pure ():Sem Unit) (λ zz s2=>wpAny (model pp X.w) A (do return v::(← holding [v] (draw it m))) Q E s2) E s2:=h2
        exact λ Γ p hΓ=>h3 Γ p hΓ Γ p hΓ
theorem Zlp {v:Value} {x:AVal} {xs:List AVal} {Q:List Value→Shared→Prop} (hh:A.handled=none) (hx:Its σ x xs) (I:Inv X W σ s) (hv:VRel W v x)
    (hq:∀ W' cvs s',Le W W'→Inv X W' σ s'→VRels W' cvs xs→Q cvs s'):wpAny (model pp X.w) A (unpackItems v xs.length none) Q E s:=by
  obtain ⟨Ty,id,ht,hl⟩:∃ Ty id,s.TypeIs v Ty∧typeLookup (.type Ty) "__iter__"=pure (some (.builtin id)):=by
    obtain ⟨a,rfl,vs,hr,hl⟩:=I.its hv hx
    exact hl.elim (λ hl=>⟨"list",_,hl.isList.typeIs,F.slot_list_iter.lookup⟩) λ hl=>⟨"tuple",_,hl.1.isTuple.typeIs,F.slot_tuple_iter.lookup⟩
  obtain ⟨g,hsrc,hst⟩:∃ g,SrcR σ 0 [x] (xs.map λ x=>[x]) g∧Jy g σ:=by
    cases hx with
    | tup=>exact ⟨none,.tup xs,λ zz h=>nomatch h⟩
    | lst hl=>
      cases hl with
      | lst=>exact ⟨none,.lst xs,λ zz h=>nomatch h⟩
      | ref e=>exact ⟨_,.ref e,λ p h=>by rw [← Z7g h]; exact e⟩
  unfold unpackItems
  refine Z7p ?_
  unfold notIterableAtAll
  refine Z7p (wpAny_specialOf ht hl (Z7q ?_))
  simp only [Bool.false_eq_true,if_false]
  refine Z7p (wpAny_holding (Z4g (tg:=.Name "x" default) rfl hsrc I hv λ it s2 hm=>?_))
  obtain ⟨J,W2,S,l2,I2,hat,hJ⟩:=hm
  refine Z7p (wpAny_holding (Zwl S hst xs.length 0 W2 s2 _ (Nat.zero_add _) hat I2 λ W3 cvs s3 l3 I3 hat3 hr=>?_))
  rw [List.drop_zero] at hr
  rw [if_neg (by rw [F2.length hr]; exact Nat.lt_irrefl _)]
  refine Z7p (wpAny_holding (S.stop hh (by rw [Z68]; exact hat3) I3 hst λ W4 s4 l4 I4=>?_))
  simp only [Option.isSome_none,Bool.false_eq_true,if_false]
  exact Z7q (hq W4 cvs s4 ((((Le.X l2).trans l3).trans l4).le hJ) I4 (hr.monoX l4 (NoVal.of_pins (S.pin hat3))))
theorem Zxd {ν:Fm} {x y:String} {v w:AVal} (h:x≠y):upd (upd ν x v) y w=upd (upd ν y w) x v:=by
  funext z
  by_cases h1:z=y
  · rw [h1,Zi,Zez h.symm,Zi]
  · rw [Zez h1]
    by_cases h2:z=x
    · rw [h2,Zi,Zi]
    · rw [Zez h2,Zez h2,Zez h1]
theorem Zjl:∀ {xs:List String} {vs:List AVal} {ν:Fm} {x:String} {v:AVal},x ∉ xs→Z3 xs vs (upd ν x v)=(Z3 xs vs ν).map λ μ=>upd μ x v
  | [],[],_,_,_,_=>rfl
  | [],_::_,_,_,_,_=>rfl
  | _::_,[],_,_,_,_=>rfl
  | y::ys,w::ws,ν,x,v,h=>by
    show Z3 ys ws (upd (upd ν x v) y w)=_
    rw [Zxd (x:=x) (y:=y) λ q=>h (q▸Z66),Zjl λ q=>h (Z67 _ q)]; rfl
theorem Zhs:∀ {xs:List String} {vs:List AVal} {ν:Fm} {x:String} {v:AVal},xs.length=vs.length→Z3 (xs++[x]) (vs++[v]) ν=(Z3 xs vs ν).map λ μ=>upd μ x v
  | [],[],_,_,_,_=>rfl
  | y::ys,w::ws,ν,x,v,h=>Zhs (xs:=ys) (Nat.succ.inj h)
  | [],_::_,_,_,_,h=>nomatch h
  | _::_,[],_,_,_,h=>nomatch h
theorem Zjm:∀ {xs:List String} {vs:List AVal} {ν:Fm},xs.Nodup→xs.length=vs.length→Z3 xs.reverse vs.reverse ν=Z3 xs vs ν
  | [],[],_,_,_=>rfl
  | x::xs,v::vs,ν,h,hl=>by
    rw [List.reverse_cons,List.reverse_cons,Zhs (by rw [List.length_reverse,List.length_reverse]; exact Nat.succ.inj hl),Zjm (Z7y.mp h).2 (Nat.succ.inj hl)]
    exact (Zjl (Z7y.mp h).1).symm
  | [],_::_,_,_,h=>nomatch h
  | _::_,[],_,_,h=>nomatch h
theorem Zwv {xs₀:List String} {FR:Wd→Fm→Prop} {J:List Addr} (R:FRel X env A σ xs₀ FR J):∀ {xs:List String} {vs:List AVal} {cvs:List Value} {W:Wd} {ν ν':Fm} {s:Shared} {QU:Unit→Shared→Prop},(∀ x∈xs,x∈xs₀)→Z3 xs vs ν=some ν'→VRels W cvs vs→FR W ν→Inv X W σ s→
      (∀ W' s',LeX J W W'→Inv X W' σ s'→FR W' ν'→QU () s')→wpAny (model pp X.w) A (assignInOrder ((xs.map Str.ofString).map λ n=>bindName env n) cvs) QU E s
  | [],[],cvs,W,ν,ν',s,QU,_,hb,hv,hF,I,h=>by
    rw [F2.nil_right hv]
    exact Z7q (h W s (LeX.refl _ _) I (Z7g hb▸hF))
  | x::xs,v::vs,cvs,W,ν,ν',s,QU,hx,hb,hv,hF,I,h=>by
    obtain ⟨c,cs,rfl,h1,h2⟩:=F2.cons_right hv
    rw [Z7e,Z7e,assignInOrder]
    exact Z7p (wpAny_holding (wpAny_bindName (R.st hF I h1 (hx x Z66) λ W1 s1 l1 I1 F1=>
      Zwv R (λ y hy=>hx y (Z67 _ hy)) hb (VRels.monoX h2 l1 (R.pin hF)) F1 I1 λ W2 s2 l2 I2 F2=>h W2 s2 (l1.trans l2) I2 F2)))
  | [],_::_,_,_,_,_,_,_,_,hb,_,_,_,_=>nomatch hb
  | _::_,[],_,_,_,_,_,_,_,hb,_,_,_,_=>nomatch hb
theorem Zci {α β:Type} {f:α→Option β} {g:α→β}:∀ (l:List α),(∀ x∈l,∀ y,f x=some y→y=g x)→(l.filterMap f).length=l.length→l.filterMap f=l.map g
  | [],_,_=>rfl
  | x::l,h,hl=>by
    rw [List.filterMap_cons] at hl ⊢
    cases e:f x with
    | none=>
      rw [e] at hl
      exact absurd (hl▸List.length_filterMap_le f l) (Nat.not_succ_le_self _)
    | some y=>
      rw [e] at hl
      rw [h x Z66 y e,Z7e,← Zci l (λ z hz=>h z (Z67 _ hz)) (Nat.succ.inj hl)]
theorem Zjt {xs:List String} {es:List Expr} {kk:Nat} {tp:Pos} {v:Expr} (hf:Zo5 xs es=true) (hsw:swOK v=true):
    swappedStores [.Tuple es kk tp] v env=pure none∨swappedStores [.Tuple es kk tp] v env=pure (some (xs.map Str.ofString)):=by
  cases v with
  | Tuple vs k2 p2=>
    have hca:vs.all (constantsAlone 8)=false:=by
      obtain ⟨e,he,h⟩:=List.any_eq_true.mp (show vs.any (λ e=>!constantsAlone 8 e)=true from hsw)
      exact List.all_eq_false.mpr ⟨e,he,by rw [(Bool.not_eq_true' _).mp h]; exact Z7w⟩
    obtain ⟨ps,h1,h2⟩:=Zak hf
    unfold swappedStores
    dsimp only
    refine iteE (λ zz=>.inl rfl) λ zz=>iteE (λ zz=>.inl rfl) λ zz=>iteE (λ zz=>.inl rfl) λ hnames=>iteE (λ zz=>.inl rfl) λ zz=>iteE (λ h=>absurd h (by rw [hca]; exact Z7w)) λ zz=>.inr ?_
    have hl:(es.filterMap λ (e:Expr)=>match e with | .Name id pos=>if (env.kindOf id==some .local&&pos.line==(Option.map (λ (x:Expr)=>x.pos.line) es.head?).getD 0)=true then some id else none | _=>none).length=es.length:=by
      simp only [Bool.or_eq_true,bne_iff_ne,ne_eq,not_or,Decidable.not_not] at hnames
      exact hnames.1
    have hm:=Zci (g:=λ e:Expr=>match e with | .Name id _=>id | _=>default) es (λ e he y hy=>by
      rw [h2] at he
      obtain ⟨p,zz,rfl⟩:=Z7b.mp he
      dsimp only at hy ⊢
      split at hy
      · exact (Z7g hy).symm
      · exact nomatch hy) hl
    have he:es.map (λ e:Expr=>match e with | .Name id _=>id | _=>default)=xs.map Str.ofString:=by
      rw [h2,List.map_map]
      have:((λ e:Expr=>match e with | .Name id _=>id | _=>default) ∘ λ p:String×Pos=>Expr.Name (Str.ofString p.1) p.2)=Str.ofString ∘ Prod.fst:=rfl
      rw [this,← List.map_map,List.map_fst_zip (Z62 h1.symm)]
    rw [he] at hm
    show pure (some _)=_
    rw [← hm]
    rfl
  | _=>exact .inl rfl
end
section
variable {j:Nat} {ν ν' ν'':Fm} {σ σ1 σ2 σ3 σ4:St} {x y z w v:AVal} {a b c e t o i l h s:PE} {es src ifs:List PE} {us vs ws xs ys:List AVal} {n m f q:String} {r:AVal} {id:Nat} {fl:Flw} {bl ol:List PS}
theorem Zoh {names:List String} (h:EvE j e ν σ x σ1) (hi:Its σ1 x vs) (hb:Z3 names vs ν=some ν'):ExS j (.unp names e) ν σ .next ν' σ1:=.mk λ {X st env own W A s E Q} hfit c hq=>Y1 hfit λ ts u sp h2=>by
  have h3:=(and2 h2).1
  have h4:=(and2 h2).2
  have hok:=(and2 h4).1
  have h5:=(and2 h4).2
  have hnd:=(and2 h5).1
  have h6:=(and2 h5).2
  have he:=(and2 h6).1
  have h7:=(and2 h6).2
  refine Qr (Q:=λ ts=>wpAny _ _ (exec (.Assign ts u sp) env) Q E s) h3 λ tg h3=>Jl h3 λ es kk tp hfx=>?_
  have hok':∀ x∈names,Zhx env.scope (Str.ofString x)=true:=λ x hx=>Y8 hok hx
  have hxl:=Zad hb
  have hns:swapsWithSole [.Tuple es kk tp] u sp.line env=pure false:=by show swapsWith u (some (.Tuple es kk tp)) sp.line env=pure false; exact Qp (and2 h7).1
  have R:=Zmu (X:=X) (A:=A) (σ:=σ1) (own:=own) hok'
  rcases Zjt (kk:=kk) (tp:=tp) (env:=env) hfx (and2 h7).2 with hw | hw
  · refine PyProof.Rows.Assign_Tuple (h.val he c.c λ W1 cv s1 l1 I1 hv=>?_) hns hw
    obtain ⟨ps,h1,rfl⟩:=Zak hfx
    have ea:=Q1 (env:=env) (names.zip ps)
    rw [arm_assign_Tuple]
    refine Z7p (wpAny_standAt ?_)
    unfold unpack
    rw [ea,List.map_map,Z68,List.length_zip,h1,Nat.min_self,hxl,show ((names.zip ps).map λ p=>(false,assign (.Name (Str.ofString p.1) p.2) env)).findIdx? (·.1)=none by simp [List.findIdx?_eq_none_iff]]
    exact Z7p (wpAny_holding (Zlp c.room.hh hi I1 hv λ W2 cvs s2 l2 I2 hr=>Zww R (λ y hy=>hy) h1 hb hr (c.frm.mono (l1.trans l2)) I2 λ W3 s3 l3 I3 F3=>(hq.le ((Le.X (l1.trans l2)).trans l3)).next I3 F3))
  · refine PyProof.Rows.Assign_Tuple_swapped (names:=names.map Str.ofString) (h.val he c.c λ W1 cv s1 l1 I1 hv=>?_) hns hw
    rw [Z68,hxl]
    refine Zlp c.room.hh hi I1 hv λ W2 cvs s2 l2 I2 hr=>?_
    rw [← List.map_reverse]
    exact Zwv R (xs:=names.reverse) (vs:=vs.reverse) (λ x hx=>List.mem_reverse.mp hx) (by rw [Zjm (of_decide_eq_true hnd) hxl]; exact hb) hr.reverse (c.frm.mono (l1.trans l2)) I2 λ W3 s3 l3 I3 F3=>(hq.le ((Le.X (l1.trans l2)).trans l3)).next I3 F3
theorem Zz1 {names:List String} {k:Nat} {turns:List (List AVal)} {g:Option (Nat×List AVal)} (hs:EvEs j ν src σ vs σ1) (ht:SrcR σ1 k vs turns g) (hg:LcR j g names ifs e ν turns [] σ1 ys σ2):ExS j (.asgc n (.comp e names k src ifs)) ν σ .next (upd ν n (.lst ys)) σ2:=.mk λ {X st env own W A s E Q} hfit c hq=>Y1 hfit λ ts u sp h2=>by
  have h3:=(and2 h2).1
  have h4:=(and2 h2).2
  refine Qr (Q:=λ ts=>wpAny _ _ (exec (.Assign ts u sp) env) Q E s) h3 λ tg h3=>Y2 h3 λ m p h3=>?_
  have hn:=(and2 h3).1
  have hlc:=(and2 h3).2
  rw [Z7u hn]
  revert hlc
  refine Zlb h4 λ elt tg it cs scope pos k1 k2 k3 k4 k5 hlc=>?_
  obtain ⟨hloc,hl2⟩:=and2 (show (env.scope.names.lookup (Str.ofString n)==some .local&&(p.line==pos.line&&!(scope.names.any λ (m,k)=>m==Str.ofString n&&(k==.local || k==.cell))))=true from hlc)
  have hline:=(and2 hl2).1
  have hnn:=(and2 hl2).2
  have hloc:env.kindOf (Str.ofString n)=some .local:=Z7u hloc
  have hsw:swapsWith (.ListComp elt [⟨tg,it,cs,0⟩] scope pos) (some (.Name (Str.ofString n) p)) sp.line env=pure true:=by
    have hb:env.blockKind=.function:=by
      unfold Env.blockKind
      split
      · rfl
      · exact c.frm.kind
    show (pure _:Sem Bool)=pure true
    rw [hb,hloc]
    simp only [Expr.pos,hline,hnn,Z7x,Bool.and_true]
  rw [exec_Assign_Name_used _ _ _ _ hsw]
  refine Z7p (wpAny_standAt ?_)
  obtain ⟨cl,hcl,ok,hns,h⟩:=Zjf hs ht hg (pos:=pos) k1 k2 k3 k4 k5 c.c (R:=compPost (model pp X.w) A E (some (assign (.Name (Str.ofString n) p) env)) (λ zz s'=>Q .next s')) (E:=E) λ W' s' D C m ce=>by
    show wpAny _ _ (assign (.Name (Str.ofString n) p) env (.ref D)) _ _ _
    obtain ⟨vs,nn,hDD,hr⟩:=ce.acc
    obtain ⟨oC,hCC,hnC⟩:=ce.ns
    have I2:=ce.inv.adoptL hDD ce.oD hr
    have l2:LeX [D] W' (setW W' D (.imm (Zba vs nn) (some (.lst ys)))):=Zy
    have F2:=c.frm.offX (c.frm.mono ce.le) (mem1 ce.fD) l2 (NoVal.one hDD)
    refine Zpg (F2.store I2 (.lsts (Zh ..)) (.inl hloc) λ W3 s3 l3 I3 F3=>?_)
    have hCo:C ∉ own:=λ q=>(c.frm.pin _ q).elim λ o e=>nomatch ce.fC.symm.trans e
    have hC3:W3 C=.imm oC none:=Yv (Yv hCC l2 (Z1f ce.CD)) l3 hCo
    refine ⟨m,hnC.ns (I3.imm hC3).1,λ h' hsb=>?_⟩
    have l4:LeX [C] W3 (setW W3 C .free):=Zy
    have F4:=c.frm.offX F3 (mem1 ce.fC) l4 (NoVal.one hC3)
    have hall:LeX (own++[D,C]) W (setW W3 C .free):=((Le.X ce.le).trans (l2.mono (mem1 (List.mem_append_right _ Z66)))).trans ((l3.mono λ a ha=>List.mem_append_left _ ha).trans (l4.mono (mem1 (List.mem_append_right _ (Z67 _ Z66)))))
    exact hq _ _ _ (λ a ha hf=>hall a (λ q=>(List.mem_append.mp q).elim ha (mem2 (P:=λ a=>W a≠.free→False) (λ q=>q ce.fD) (λ q=>q ce.fC) a · hf)) hf) (I3.forget (tk:=s3.toks) hC3 ce.oC hsb) ⟨rfl,F4⟩
  show wpAny _ _ (do evalThenUse _ _ _; return _) _ _ _
  refine Z7p ?_
  show wpAny _ _ (do let _ ← comprehension _ _ _ _ _ _ _ _) _ _ _
  exact Z7p (wpAny_mono (wpAny_comprehension_free rfl (λ x=>Zaj hns x) hcl ok.kind ok.loc h) (λ zz s' q=>Z7q (Z7q q)) λ zz zz q=>q)
end
end PL
end
section
open PySem PySem.W PyProof.Rows PySem.SeqAt
namespace PL
inductive WhlR (j:Nat) (t:PE) (b:List PS):Nat→Fm→St→Flw→Fm→St→Prop
  | stop {ν:Fm} {σ σ1:St} (h:EvE j t ν σ (.bool false) σ1):WhlR j t b 0 ν σ .next ν σ1
  | turn {n:Nat} {ν ν' ν'':Fm} {σ σ1 σ2 σ3:St} {f:Flw} (h:EvE j t ν σ (.bool true) σ1) (hb:ExB j b ν σ1 .next ν' σ2) (hr:WhlR j t b n ν' σ2 f ν'' σ3):WhlR j t b (n+1) ν σ f ν'' σ3
  | ret {ν ν':Fm} {σ σ1 σ2:St} {v:AVal} (h:EvE j t ν σ (.bool true) σ1) (hb:ExB j b ν σ1 (.ret v) ν' σ2):WhlR j t b 0 ν σ (.ret v) ν' σ2
inductive ForR (j:Nat) (g:Option (Nat×List AVal)) (names:List String) (b:List PS):List (List AVal)→Fm→St→Flw→Fm→St→Prop
  | nil {ν:Fm} {σ:St} (hst:Jy g σ):ForR j g names b [] ν σ .next ν σ
  | turn {v:List AVal} {r:List (List AVal)} {ν ν1 ν2 ν3:Fm} {σ σ1 σ2:St} {f:Flw} (hst:Jy g σ) (hb:Z3 names v ν=some ν1) (h:ExB j b ν1 σ .next ν2 σ1) (hr:ForR j g names b r ν2 σ1 f ν3 σ2):ForR j g names b (v::r) ν σ f ν3 σ2
  | ret {v:List AVal} {r:List (List AVal)} {ν ν1 ν2:Fm} {σ σ1:St} {x:AVal} (hst:Jy g σ) (hb:Z3 names v ν=some ν1) (h:ExB j b ν1 σ (.ret x) ν2 σ1):ForR j g names b (v::r) ν σ (.ret x) ν2 σ1
section
variable {j:Nat} {ν ν' ν'':Fm} {σ σ1 σ2 σ3 σ4:St} {x y z w v:AVal} {a b c e t o i l h s:PE} {es src ifs:List PE} {us vs ws xs ys:List AVal} {n m f q:String} {r:AVal} {id:Nat} {fl:Flw} {bl ol:List PS}
theorem Z3f {k:Nat} (h0:WhlR j t bl k ν σ fl ν' σ1):ExS j (.whl t bl) ν σ fl ν' σ1:=.mk λ {X st env own W A s E Q} hfit c hq=>Znu hfit λ u bs os p h2=>by
  have hf1:=(and2 h2).1
  have h3:=(and2 h2).2
  rw [Z5 (and2 h3).1]
  refine wpAny_While (codeAny_whileLoop (λ n s=>∃ ν1 W1 σ0,LeX own W W1∧CfgF X j W1 env own ν1 σ0 A s∧WhlR j t bl n ν1 σ0 fl ν' σ1) ?_ k ⟨ν,W,σ,LeX.refl _ W,c,h0⟩)
  clear h0
  rintro n s1 ⟨ν1,W1,σ0,l1,c1,h1⟩
  cases h1 with
  | stop h=>exact h.te hf1 c1.c λ W2 s2 l2 I2=>Z7q ((hq.le (l1.trans (Le.X l2))).next I2 (c1.frm.mono l2))
  | turn h hb hr=>
    refine h.te hf1 c1.c λ W2 s2 l2 I2=>hb.run (and2 h3).2 (c1.to l2 I2) λ W3 fo s3 l3 I3 hr'=>?_
    obtain ⟨rfl,F3⟩:=hr'
    exact ⟨_,Z6z _,_,W3,_,(l1.trans (Le.X l2)).trans l3,⟨F3,c.room,I3⟩,hr⟩
  | ret h hb=>
    refine h.te hf1 c1.c λ W2 s2 l2 I2=>hb.run (and2 h3).2 (c1.to l2 I2) λ W3 fo s3 l3 I3 hr'=>?_
    have hr2:=hr'
    obtain ⟨cv,rfl,hv⟩:=hr'
    exact hq W3 _ s3 ((l1.trans (Le.X l2)).trans l3) I3 hr2
structure ForI (X:Cx) (W:Wd) (env:Env) (own:List Addr) (j:Nat) (A:Around) (At:Wd→Prop) (ν:Fm) (W1:Wd) (σ1:St) (s1:Shared):Prop where
  le:LeX own W W1
  c:CfgF X j W1 env own ν σ1 A s1
  here:At W1
section
variable {X:Cx} {env:Env} {own:List Addr} {W W1:Wd} {A:Around} {s1:Shared} {E:Value→Shared→Prop} {tg:Expr} {g:Option (Nat×List AVal)} {it:Value} {J:List Addr} {turns:List (List AVal)} {names:List String} {k:Nat} {bs:List Stmt}
theorem LeX.drop {Y J:List Addr} {W W':Wd} (h:LeX (Y++J) W W') (hJ:∀ a∈J,W a=.free):LeX Y W W':=λ a ha hf=>h a (λ q=>(List.mem_append.mp q).elim ha λ q=>hf (hJ a q)) hf
theorem LeX.over {Y J:List Addr} {W W1 W':Wd} (h:LeX Y W W1) (l:LeX J W1 W') (hJ:∀ a∈J,W a=.free):LeX Y W W':=((h.mono λ a ha=>List.mem_append_left J ha).trans (l.mono λ a ha=>List.mem_append_right Y ha)).drop hJ
theorem Zq3 (S:Src X tg g it J turns) (c:CfgF X j W env own ν σ A s') (hJ:∀ a∈J,W a=.free) (htg:Zk1 names k tg=true) (hok:∀ x∈names,Zhx env.scope (Str.ofString x)=true) (hfb:fitB env.scope bl bs=true) {i:Nat} {v:List AVal} {ν0 ν1 ν2:Fm}
    (I:ForI X W env own j A (S.At i) ν0 W1 σ1 s1) (hv:turns[i]? = some v) (hst:Jy g σ1) (hb:Z3 names v ν0=some ν1) (hx:ExB j bl ν1 σ1 fl ν2 σ2) {Q':Flow→Shared→Prop} {F:Option Value→Shared→Prop}
    (hF:∀ u s2,wpAny (model pp X.w) A (letOwnedTupleGo tg it u) (λ zz s2=>wpAny (model pp X.w) A (assign tg env u) (λ zz s3=>wpAny (model pp X.w) A (execs bs env) Q' E s3) E s2) E s2→F (some u) s2) (h:∀ W6 fo s6,LeX own W W6→Inv X W6 σ2 s6→S.At (i+1) W6→Z2u X W6 env own fl ν2 fo→Q' fo s6):wpAny (model pp X.w) A (pyNext it) F E s1:=by
  refine wpAny_mono (S.item (Q:=λ u s2=>wpAny (model pp X.w) A (assign tg env u) (λ zz s3=>wpAny (model pp X.w) A (execs bs env) Q' E s3) E s2) hv I.here I.c.inv hst λ W2 u s2 l2 I2 hat2 hu=>?_) (λ r s4 h4=>?_) λ zz zz x=>x
  rotate_left
  · cases r with
    | none=>exact h4.elim
    | some u=>exact hF u s4 h4
  have F2:=c.frm.offX I.c.frm hJ l2 (NoVal.of_pins (S.pin I.here))
  have hJo:∀ a∈J,a ∉ own:=λ a ha q=>(c.frm.pin a q).elim λ o e=>nomatch (hJ a ha).symm.trans e
  refine Z5a (Zmu hok) c.room.hh htg hu hb F2 I2 λ W3 s3 l3 I3 F3=>?_
  have hat3:=S.mono hat2 l3 F2.toFrm.noVal hJo
  exact hx.run hfb ⟨F3,c.room,I3⟩ λ W4 fo s4 l4 I4 hr=>h W4 fo s4 (((I.le.over l2 hJ).trans l3).trans l4) I4 (S.mono hat3 l4 F3.toFrm.noVal hJo) hr
end
theorem Zhz {names:List String} {k:Nat} {turns:List (List AVal)} {g:Option (Nat×List AVal)} (hs:EvEs j ν src σ vs σ1) (ht:SrcR σ1 k vs turns g) (hg:ForR j g names bl turns ν σ1 fl ν' σ2):ExS j (.for names k src bl) ν σ fl ν' σ2:=.mk λ {X st env own W A s E Q} hfit c hq=>Zs8 hfit λ tg it bs os p h2=>by
  have htg:=(and2 h2).1
  have h3:=(and2 h2).2
  have hok:=(and2 h3).1
  have h4:=(and2 h3).2
  have hsrc:=(and2 h4).1
  have h5:=(and2 h4).2
  have hos:=(and2 h5).1
  have hfb:=(and2 h5).2
  rw [Z5 hos]
  have hok':∀ x∈names,Zhx env.scope (Str.ofString x)=true:=λ x hx=>Y8 hok hx
  refine wpAny_For (Zvc hs ht hsrc htg c.c λ W1 itv s2 l1 m=>?_) (λ x=>Zaj (and2 hsrc).1 x)
  obtain ⟨J,W2,S,l2,I2,hat,hJ⟩:=m
  have hJW:∀ a∈J,W a=.free:=λ a ha=>Le.back l1 (hJ a ha)
  refine codeAny_forLoop_any (λ n s=>∃ i ν3 W3 σ3,turns.drop i=turns.drop i∧n=turns.length-i∧i≤turns.length∧ForI X W env own j A (S.At i) ν3 W3 σ3 s∧ForR j g names bl (turns.drop i) ν3 σ3 fl ν' σ2) ?_ _ ⟨0,ν,W2,σ1,rfl,rfl,Z63 _,⟨Le.X (l1.trans l2),c.to (l1.trans l2) I2,hat⟩,by rw [List.drop_zero]; exact hg⟩
  clear hat I2 l2 s2 hg
  rintro n s3 ⟨i,ν3,W3,σ3,zz,rfl,hi,FI,hgo⟩
  have N3:=NoVal.of_pins (S.pin FI.here)
  generalize hd:turns.drop i=rest at hgo
  cases hgo with
  | nil hst=>
    obtain rfl:=drop_nil hd hi
    exact S.stop c.room.hh FI.here FI.c.inv hst λ W4 s4 l4 I4=>Z7q ((hq.le (FI.le.over l4 hJW)).next I4 (c.frm.offX FI.c.frm hJW l4 N3))
  | turn hst hb hx hr=>
    obtain ⟨hv,hd'⟩:=Zd6 hd
    refine Zq3 (s':=s) S c hJW htg hok' hfb FI hv hst hb hx (λ zz zz h=>h) λ W6 fo s6 l6 I6 hat6 hfr=>?_
    · obtain ⟨rfl,F6⟩:=hfr
      have hlt:=(Z7m.mp hv).1
      exact ⟨turns.length-(i+1),Nat.sub_lt_sub_left hlt (Z6z i),i+1,_,W6,_,rfl,rfl,hlt,⟨l6,⟨F6,c.room,I6⟩,hat6⟩,hd'▸hr⟩
  | ret hst hb hx=>
    obtain ⟨hv,hd'⟩:=Zd6 hd
    refine Zq3 (s':=s) S c hJW htg hok' hfb FI hv hst hb hx (λ zz zz h=>h) λ W6 fo s6 l6 I6 hat6 hfr=>?_
    · have hr2:=hfr
      obtain ⟨cv,rfl,hcv⟩:=hfr
      exact hq W6 _ s6 l6 I6 hr2
end
end PL
end
section
open PySem PySem.SeqAt PySem.W
namespace PL
structure Zw7 (X:Cx) (env:Env) (f:Addr) (fd:FuncData):Prop where
  sup:SupK X.K fd
  obj:∃ oc od osl,X.K.lookup f=some ⟨oc,od,.func fd,osl⟩
  fn:env.func=some f
  code:env.code=fd.code
  cells:env.cells=fd.closure
  scope:env.scope=fd.scope
structure SupR (j:Nat) (ν:Fm) (σ:St) (q m:String) (es:List PE) (r:AVal) (σ':St) (id:Nat) (c:String) (k:Nat) (mm:Fm) (vs:List AVal) (σ1:St):Prop where
  self:ν "self"=some (.ref id)
  inst:σ.f id=some (.inst c k mm)
  tab:Ztl.contains (c,q,m)=true
  args:EvEs j ν es σ vs σ1
  call:CallR j q (.ref id::vs) σ1 r σ'
section
variable {X:Cx} {j:Nat} {ν ν' ν'':Fm} {σ σ' σ1 σ2:St} {q m n:String} {es:List PE} {r:AVal} {id:Nat} {c:String} {k:Nat} {mm:Fm} {vs:List AVal} {env:Env} {own:List Addr} {W:Wd} {A:Around} {s:Shared} {E:Value→Shared→Prop} {f0:Addr} {fd:FuncData} {body:List Stmt}
theorem Zoq:(pp.main.scope.names.lookup ("super":Str)).isSome=false:=by kernel_rfl
theorem Zlc:BN "super" (.type "super"):=⟨rfl,by kernel_rfl,by kernel_rfl,.inr ⟨_,rfl⟩⟩
theorem Z2c {M:Model} {Q:Value→Shared→Prop} {f:Value} {P:Heap→Prop} (hk:∀ h,P h→∃ k,(k=Keeper.frame∨k=Keeper.machine∨k=Keeper.boundFrame)∧Looks M h (keeperOf f) k) {first:List Value} {args:List Expr} {pos bpos:Pos} (hn:∀ x∈args,Jh x=true)
    (h:wpAny M A (spliced (backTo bpos (starEach args env))) (λ vs s₁=>P s₁.heap∧wpAny M A (call f (first++vs)) Q E s₁) E s):wpAny M A (callWith pos f first (backTo bpos (starEach args env)) []) Q E s:=
  callWith_of (P:=P) (by rw [show (backTo bpos (starEach args env)).any (·.1)=false from Jx hn]; rfl) hk (Zam hn h)
theorem Znq {M:Model} {Q:Value→Shared→Prop} {cd:Code} {o:Expr} {name:Str} {apos pos:Pos} {args:List Expr} (hn:∀ x∈args,Jh x=true) (hlen:args.length < 29) (hline:(apos.endLine==pos.line)=true)
    (h:wpAt M A cd (attributeBase o name env (eval o env)) (λ ov s₁=>wpAny M A (getMethod ov name (do return (← importBound o env).getD true)) (λ r s₂=>wpAny M A (callWith pos r.1 r.2 (backTo pos (starEach args env)) []) Q E s₂) E s₁) E s):
    wpAt M A cd (eval (.Call (.Attribute o name apos) args [] pos) env) Q E s:=by
  rw [arm_eval_Call]
  exact wpAt_bind (wpAt_mono h (λ ov s₁ h₁=>wpAt_of_wpAny (Z7p (wpAny_standAt (Ziv hn hlen hline h₁)))) λ zz zz e=>e)
@[elab_as_elim] theorem Ztk {sc:Scope} {x:Expr} {P:Expr→Prop} (h:PE.sup q m es sc x=true) (f:∀ p0 p1 xs ap p,(Str.ofString m==("__class__":Str))=false→(ap.endLine==p.line)=true→Jj sc es xs=true→xs.length < 29→sc.names.lookup ("super":Str)=some .globalImplicit→sc.names.lookup ("__class__":Str)=some .free→P (.Call (.Attribute (.Call (.Name ("super":Str) p0) [] [] p1) (Str.ofString m) ap) xs [] p)):P x:=Zb8 h λ g xs kw p h=>by
  have h1:=(and2 h).1
  have h2:=(and2 h).2
  have h3:=(and2 h2).1
  have h4:=(and2 h2).2
  have h5:=(and2 h4).1
  have h6:=(and2 h4).2
  have h7:=(and2 h6).1
  have h8:=(and2 h6).2
  have h9:=(and2 h8).1
  have h10:=(and2 h8).2
  rw [Z5 h3]
  refine Yx h1 λ v n ap h1=>?_
  have k1:=(and2 h1).1
  have k2:=(and2 h1).2
  have k3:=(and2 k2).1
  have k4:=(and2 k2).2
  have k5:=(and2 k4).1
  have k6:=(and2 k4).2
  rw [Z7u k1] at k3 ⊢
  refine Zb8 k6 λ u ys kw' p1 k6=>?_
  have k7:=(and2 k6).1
  have k8:=(and2 k6).2
  rw [Z5 (and2 k8).1,Z5 (and2 k8).2]
  refine Y2 k7 λ w p0 k7=>?_
  rw [Z7u k7]
  exact f p0 p1 xs ap p ((Bool.not_eq_true' _).mp k3) k5 h5 (by rw [← Zbh h5]; exact Z6t (Z6y h7) (by decide)) (Zm (Q:=λ o=>o=some .globalImplicit) h9 (λ q=>no q) λ k hk=>Z7r some (Z7u hk)) (Zm (Q:=λ o=>o=some .free) h10 (λ q=>no q) λ k hk=>Z7r some (Z7u hk))
theorem Ztj (S:SupR j ν σ q m es r σ' id c k mm vs σ1) (SUP:Zw7 X env f0 fd) {x:Expr} {Q:Value→Shared→Prop} (hf:PE.sup q m es env.scope x=true) (C:Cfg X j W env own ν σ A s) (hq:Pst X W σ' r Q):wpAt (model pp X.w) A (.func body env) (eval x env) Q E s:=by
  refine Ztk hf λ p0 p1 xs ap p hcls hline hfa hlen hks hkc=>?_
  have F:=C.frm
  have I:=C.inv
  have KX:=I.kin
  obtain ⟨oc,od,osl,hlf⟩:=SUP.obj
  obtain ⟨ar,hhd,har⟩:=SUP.sup.par
  obtain ⟨cda,ccl,cdd,cvs,ccs,file,tf,hcode,hcda,hvs2,hfile⟩:=SUP.sup.code
  obtain ⟨cl,cld,csl,hcell⟩:=X.ok.cell
  obtain ⟨cdD,hD⟩:=X.ok.top
  obtain ⟨Cc,f2,hPc,hPf,sf⟩:=X.ok.sup S.tab
  have hcl:=Zew hPc
  have hcc:env.cells.lookup ("__class__":Str)=some 436:=by rw [SUP.cells,SUP.sup.clo]; rfl
  have hsl:env.kindOf (Str.ofString "self")=some .local:=by show env.scope.names.lookup _=_; rw [SUP.scope]; exact SUP.sup.self
  obtain ⟨L,mL,hL,hnL,hlocal⟩:=F.loc
  obtain ⟨cself,hmself,hvself⟩:=hlocal "self" _ hsl S.self
  obtain ⟨a,rfl,d,R⟩:=I.inst hvself S.inst
  refine Znq (Z6 hfa) hlen hline ?_
  obtain ⟨oD,hD1,hD2⟩:∃ oD,s.heap.get? 475=some oD∧oD.data=.cls cdD:=by
    unfold clsIn at hD
    split at hD
    · rename_i c d cd' sl ho
      exact ⟨_,KX _ _ ho,Z7r Data.cls (Z7g hD)⟩
    · exact nomatch hD
  refine ks_wpAt_super_base (env:=env) hks hkc hcls SUP.fn (KX _ _ hlf) rfl hhd (SUP.code.trans hcode) (KX _ _ hcda) rfl hvs2 hfile Zoq ?_
  have hb:=X.ok.bl Zlc.has Zlc.is λ q=>nomatch Zlc.ne.symm.trans (beq_iff_eq.mpr q)
  refine ks_loadName_global F.kind hks (Calls.loadGlobal_builtin (by rw [F.glob]; exact I.ns X.ok.gns) hb.1 (by rw [F.blt]; exact I.ns X.ok.bns) hb.2 ⟨rfl,?_⟩)
  refine wpAny_loadName_free F.kind hkc hcc ⟨_,KX _ _ hcell,rfl⟩ ?_
  rw [har]
  refine wpAny_loadName_local F.kind hsl (hnL.ns (I.imm hL).1) hmself ?_
  obtain ⟨hod,ehod,zz⟩:=R.dic.sz
  have hadr:=R.adr
  have ho:=R.obj
  have room:=C.room
  clear R C
  obtain ⟨hh,g,dr,tk,os⟩:=s
  refine ks_wpAny_isType_cls hD1 hD2 ⟨rfl,?_⟩
  have hmro:mroIn X.K (clsA c) (.ref 475)=some true:=by rw [hcl]; exact sf.mro
  refine ks_wpAny_call_super hD1 hD2 ho rfl (λ c e=>nomatch e) (looks_mroIn KX hmro) (λ h' e kp=>?_)
  obtain ⟨I1,l1⟩:=I.adopt (tk:=tk) kp (Zx _) e (v:=none) trivial
  have KX1:=I1.kin
  obtain ⟨of,hof,hofc⟩:∃ of,h'.get? f2=some of∧of.cls=.type "function":=
    (Z7h.mp (show (X.K.lookup f2).map (·.cls)=some (.type "function") from sf.ty)).elim λ of h=>⟨of,KX1 _ _ h.1,h.2⟩
  have IA:InstAt hh a { cls:=.ref (clsA c),dict:=some d,data:=.plain } (clsA c) (some hod):=⟨ho,rfl,rfl,ehod⟩
  have hsin:=sf.find
  unfold ks_superIn at hsin
  cases hc:clsIn X.K Cc with
  | none=>rw [hc] at hsin; exact nomatch hsin
  | some cd=>
  rw [hc] at hsin
  have hc':clsIn X.K (clsA c)=some cd:=by rw [hcl]; exact hc
  have I1':Inv X _ σ ⟨h',g,dr,tk,os⟩:=I1
  refine ks_wpAny_getMethod_super (h:=h') e (looks_opaque KX1 X.ok.opq) (l₀:=cd.mro) (λ A Q E s kp' qq=>Z7p ((looks_clsIn KX1 hc') A _ E s kp' (Z7q qq))) rfl KX1 hsin hof hofc (ks_ne KX IA hc') hcls ?_
  obtain ⟨I2,l2⟩:=I1'.alloc (o:=methodObj (.ref f2) (.ref a)) (v:=none) (tk+1) rfl trivial
  have l12:=l1.trans l2
  refine Z2c (P:=MethP X.K h'.objs.size f2 (.ref a)) (keeps_M sf.fn) (Z6 hfa) (Za1 S.args hfa ⟨F.mono l12,room,I2⟩ λ W3 cvs s3 l3 I3 hv3=>⟨⟨(I3.imm (Qe (Zh ..) l3)).1,I3.kin⟩,?_⟩)
  refine wpAny_call (method_call (I3.imm (Qe (Zh ..) l3)).1 ?_)
  exact S.call.run hPf (room.mono (Nat.le_succ _)) I3 ⟨hvself.mono (l12.trans l3),hv3⟩ λ W' v s' l I' hv'=>hq W' v s' ((l12.trans l3).trans l) I' hv'
end
end PL
end
section
open PySem PySem.SeqAt PySem.W
namespace PL
structure BdB (j:Nat) (ps:List PS) (ν:Fm) (σ:St) (f:Flw) (ν':Fm) (σ':St):Prop where
  run:∀ {X:Cx} {ts:List Stmt} {env:Env} {own:List Addr} {W:Wd} {A:Around} {s:Shared} {E:Value→Shared→Prop} {Q:Flow→Shared→Prop} {f0:Addr} {fd:FuncData} {body:List Stmt},
  Zw7 X env f0 fd→fitB env.scope ps ts=true→CfgF X j W env own ν σ A s→PsF X W env own f ν' σ' Q→PySem.wpAt (model pp X.w) A (.func body env) (execs ts env) Q E s
section
variable {j:Nat} {ν ν' ν'':Fm} {σ σ' σ1 σ2 σ3:St} {q m n:String} {es:List PE} {r:AVal} {id:Nat} {c:String} {k:Nat} {mm:Fm} {vs:List AVal} {fl:Flw} {p:PS} {ps:List PS}
theorem ExB.bd (h:ExB j ps ν σ fl ν' σ'):BdB j ps ν σ fl ν' σ':=.mk λ {X ts env own W A s E Q f0 fd body} SUP hf c hq=>wpAt_of_wpAny (h.run hf c hq)
theorem Z2f (h1:ExS j p ν σ .next ν' σ1) (h2:BdB j ps ν' σ1 fl ν'' σ2):BdB j (p::ps) ν σ fl ν'' σ2:=.mk λ {X ts env own W A s E Q f0 fd body} SUP hf c hq=>Z7 (Q:=λ ts=>PySem.wpAt _ _ (.func body env) (execs ts env) Q E s) hf λ x r hf=>by
  refine ks_wpAt_execs_cons (wpAt_of_wpAny (h1.run (and2 hf).1 c λ W1 fo s1 l1 I1 hr=>?_))
  obtain ⟨rfl,F1⟩:=hr
  exact h2.run SUP (and2 hf).2 ⟨F1,c.room,I1⟩ (hq.le l1)
theorem Zti {sc:Scope} {x:Expr} (h:PE.sup q m es sc x=true) {t:Option Expr} {l:Nat} {env:Env}:swapsWith x t l env=pure false:=Ztk h λ zz zz zz zz zz zz zz zz zz zz zz=>rfl
theorem Z45 (S:SupR j ν σ q m es r σ' id c k mm vs σ1) (h2:BdB j ps ν σ' fl ν'' σ2):BdB j (.exp (.sup q m es)::ps) ν σ fl ν'' σ2:=.mk λ {X ts env own W A s E Q f0 fd body} SUP hf C hq=>Z7 (Q:=λ ts=>PySem.wpAt _ _ (.func body env) (execs ts env) Q E s) hf λ x rs hf=>by
  refine ks_wpAt_execs_cons ?_
  refine Zhu (and2 hf).1 λ u p h3=>?_
  refine ks_wpAt_Expr_any (Ztj S SUP (and2 h3).1 C.c λ W1 cv s1 l1 I1 hv=>h2.run SUP (and2 hf).2 (C.to l1 I1) (hq.le (Le.X l1))) ?_ (Zti (and2 h3).1)
  unfold interactive
  rw [C.frm.kind]; rfl
theorem Z46 (S:SupR j ν σ q m es r σ' id c k mm vs σ1) (h2:BdB j ps (upd ν n r) σ' fl ν'' σ2):BdB j (.asg n (.sup q m es)::ps) ν σ fl ν'' σ2:=.mk λ {X ts env own W A s E Q f0 fd body} SUP hf C hq=>Z7 (Q:=λ ts=>PySem.wpAt _ _ (.func body env) (execs ts env) Q E s) hf λ x rs hf=>by
  refine ks_wpAt_execs_cons ?_
  refine Y1 (and2 hf).1 λ ts u sp h2'=>?_
  have h3:=(and2 h2').1
  have h4:=(and2 h2').2
  refine Qr (Q:=λ ts=>PySem.wpAt _ _ (.func body env) (exec (.Assign ts u sp) env) _ E s) h3 λ tg h3=>Y2 h3 λ m p h3=>?_
  have hn:=(and2 h3).1
  have hs:=(and2 h3).2
  rw [Z7u hn] at hs ⊢
  exact ks_wpAt_Assign_Name (Ztj S SUP (and2 h4).2 C.c λ W1 cv s1 l1 I1 hv=>(C.frm.mono l1).store I1 hv (Jc hs) λ W2 s2 l2 I2 F2=>h2.run SUP (and2 hf).2 ⟨F2,C.room,I2⟩ (hq.le ((Le.X l1).trans l2))) (Qp (and2 h4).1)
theorem Z44 (S:SupR j ν σ q m es r σ' id c k mm vs σ1):BdB j (.ret (.sup q m es)::ps) ν σ (.ret r) ν σ':=.mk λ {X ts env own W A s E Q f0 fd body} SUP hf C hq=>Z7 (Q:=λ ts=>PySem.wpAt _ _ (.func body env) (execs ts env) Q E s) hf λ x rs hf=>by
  refine ks_wpAt_execs_cons ?_
  refine Zed (and2 hf).1 λ oe p h2=>?_
  exact Zm (Q:=λ oe=>PySem.wpAt _ _ (.func body env) (exec (.Return oe p) env) _ E s) h2 (λ q=>no q) λ u hu=>ks_wpAt_Return_some (Ztj S SUP hu C.c λ W1 cv s1 l1 I1 hv=>(hq.le (Le.X l1)).ret I1 hv)
end
section
variable {X:Cx} {j:Nat} {ν ν' ν'':Fm} {σ σ' σ1 σ2:St} {env:Env} {own:List Addr} {W:Wd} {A:Around} {s:Shared} {E:Value→Shared→Prop} {f0:Addr} {fd:FuncData} {body:List Stmt}
theorem Inv.pins:∀ (Y:List Addr) {W:Wd},Inv X W σ s→(∀ a∈Y,W a=.free∧∃ o,s.heap.get? a=some o)→∃ W',Inv X W' σ s∧Le W W'∧(∀ a∈Y,∃ o,W' a=.imm o none∧s.heap.get? a=some o)
  | [],W,I,_=>⟨W,I,LeX.refl _ W,λ a h=>nomatch h⟩
  | a::Y,W,I,h=>by
    by_cases ha:a∈Y
    · obtain ⟨W',I',l,hY⟩:=Inv.pins Y I λ b hb=>h b (Z67 _ hb)
      exact ⟨W',I',l,memC (hY a ha) hY⟩
    · obtain ⟨hf,o,ho⟩:=h a Z66
      have l1:Le W (setW W a (.imm o none)):=Y9 hf
      obtain ⟨W',I',l,hY⟩:=Inv.pins Y (I.pin hf ho (v:=none) trivial) λ b hb=>⟨(Qh (a:=a) (b:=b) λ q:b=a=>ha (q▸hb)).trans (h b (Z67 _ hb)).1,(h b (Z67 _ hb)).2⟩
      exact ⟨W',I',l1.trans l,memC ⟨o,Qe (Zh ..) l,ho⟩ hY⟩
theorem Ja:∀ (names:List (Str×NameKind)) (n:Nat) (acc:List (Str×Addr)) (x:Str),((acc.lookup x).isSome=true∨names.lookup x=some .cell)→((cellsFrom n names acc).lookup x).isSome=true
  | [],n,acc,x,h=>h.resolve_right λ q=>nomatch q
  | (m,kd)::r,n,acc,x,h=>by
    unfold cellsFrom
    by_cases hk:kd=.cell
    · subst hk
      simp only [Z7x,if_true]
      refine Ja r _ _ x ?_
      rw [List.lookup_cons] at h ⊢
      by_cases hx:x=m
      · rw [hx,Z7x]; exact .inl rfl
      · rw [Z7v.mpr hx] at h ⊢; exact h
    · simp only [show (kd==NameKind.cell)=false from Z7v.mpr hk,Bool.false_eq_true,if_false]
      refine Ja r _ _ x (h.imp id λ h=>?_)
      rw [List.lookup_cons] at h
      split at h
      · exact absurd (Z7g h) hk
      · exact h
def Knows (W:Wd) (P:String→Prop) (ν:Fm) (mL:Str→Option Value):Prop:=∀ x v,P x→ν x=some v→∃ cv,mL (Str.ofString x)=some cv∧VRel W cv v
theorem Knows.upd {P:String→Prop} {mL:Str→Option Value} {p:String} {v:AVal} {c:Value} (h:Knows W P ν mL) (hc:VRel W c v):Knows W P (upd ν p v) (λ y=>if y=Str.ofString p then some c else mL y):=λ x u hP hu=>
  (Jo hu).elim (λ q=>⟨c,if_pos (Z7r _ q.1),q.2▸hc⟩) λ q=>(h x u hP q.2).elim λ cv e=>⟨cv,(if_neg λ z=>q.1 (Yj z)).trans e.1,e.2⟩
theorem Knows.skip {P:String→Prop} {mL:Str→Option Value} {p:String} {v:AVal} (h:Knows W P ν mL) (hp:¬ P p):Knows W P (PL.upd ν p v) mL:=λ x u hP hu=>
  (Jo hu).elim (λ q=>absurd (q.1▸hP) hp) λ q=>h x u hP q.2
theorem Zhr {kd:Str→Option NameKind}:∀ {ps:List String} {vs:List AVal} {cvs:List Value} {ν ν':Fm} {mL mC:Str→Option Value},Z3 ps vs ν=some ν'→VRels W cvs vs→Knows W (λ x=>kd (Str.ofString x)=some .local) ν mL→Knows W (λ x=>kd (Str.ofString x)≠some .local) ν mC→
    Knows W (λ x=>kd (Str.ofString x)=some .local) ν' (bindL kd ((ps.map Str.ofString).zip cvs) mL)∧Knows W (λ x=>kd (Str.ofString x)≠some .local) ν' (bindC kd ((ps.map Str.ofString).zip cvs) mC)
  | [],[],cvs,ν,ν',mL,mC,hb,hv,h1,h2=>by rw [F2.nil_right hv,← Z7g hb]; exact ⟨h1,h2⟩
  | p::ps,v::vs,cvs,ν,ν',mL,mC,hb,hv,h1,h2=>by
    obtain ⟨c,cs,rfl,hc,hcs⟩:=F2.cons_right hv
    simp only [Z7e,List.zip_cons_cons,bindL,bindC]
    by_cases hk:kd (Str.ofString p)=some .local
    · rw [if_pos hk,if_pos hk]
      exact Zhr (ps:=ps) hb hcs (h1.upd hc) (h2.skip λ q=>q hk)
    · rw [if_neg hk,if_neg hk]
      exact Zhr (ps:=ps) hb hcs (h1.skip hk) (h2.upd hc)
  | [],_::_,_,_,_,_,_,hb,_,_,_=>nomatch hb
  | _::_,[],_,_,_,_,_,hb,_,_,_=>nomatch hb
theorem Zjn:∀ {xs:List String} {vs:List AVal} {ν ν':Fm} {x:String} {v:AVal},Z3 xs vs ν=some ν'→ν' x=some v→x∈xs∨ν x=some v
  | [],[],ν,ν',x,v,h,hx=>.inr (Z7g h▸hx)
  | y::ys,w::ws,ν,ν',x,v,h,hx=>(Zjn (xs:=ys) h hx).elim (λ q=>.inl (Z67 _ q)) λ q=>(Jo q).elim (λ e=>.inl (e.1▸Z66)) λ e=>.inr e.2
  | [],_::_,_,_,_,_,h,_=>nomatch h
  | _::_,[],_,_,_,_,h,_=>nomatch h
theorem Zfx {ps:List String} {vs:List Value} {y:Str×Value} (h:y∈(ps.map Str.ofString).zip vs):∃ x∈ps,y.1=Str.ofString x:=
  (Z7b.mp (List.of_mem_zip (a:=y.1) (b:=y.2) h).1).elim λ x q=>⟨x,q.1,q.2.symm⟩
theorem Znr:∀ {ps:List String} {vs:List AVal} {cvs:List Value} {ν ν':Fm} {tl:List (Str×Value)},Z3 ps vs ν=some ν'→VRels W cvs vs→Knows W (λ zz=>True) ν (λ n=>tl.lookup n)→Knows W (λ zz=>True) ν' (λ n=>(((ps.map Str.ofString).zip cvs).reverse++tl).lookup n)
  | [],[],cvs,ν,ν',tl,hb,hv,h=>by rw [F2.nil_right hv,← Z7g hb]; exact h
  | p::ps,v::vs,cvs,ν,ν',tl,hb,hv,h=>by
    obtain ⟨c,cs,rfl,hc,hcs⟩:=F2.cons_right hv
    have:=Znr (ps:=ps) (tl:=(Str.ofString p,c)::tl) hb hcs λ y u zz hu=>(Jo hu).elim (λ q=>⟨c,by rw [q.1]; show List.lookup _ (_::tl)=_; rw [List.lookup_cons,Z7x],q.2▸hc⟩) λ q=>
      (h y u trivial q.2).elim λ cv e=>⟨cv,by show List.lookup _ (_::tl)=_; rw [List.lookup_cons,Z7v.mpr λ z=>q.1 (Yj z)]; exact e.1,e.2⟩
    rw [Z7e,List.zip_cons_cons,List.reverse_cons,Z7d]
    exact this
  | [],_::_,_,_,_,_,hb,_,_=>nomatch hb
  | _::_,[],_,_,_,_,hb,_,_=>nomatch hb
theorem AOK.deep (h:AOK (2*(j+1)) A) (env:Env):AOK (2*j+1) (A.deeper env):=⟨h.hh,by have:=h.dp; show A.depth+1+_+_ < _; lia,by have:=h.un; show A.units+3+_+_ < _; lia⟩
theorem AOK.room (h:AOK (2*(j+1)) A):A.depth < recursionLimit:=by have:=h.dp; lia
noncomputable def Zoi (fl:Flw):AVal:=@Flw.casesOn (λ zz=>AVal) fl .none λ v=>v
theorem Zrf {fl:Flw} {W1 W2:Wd} {fo:Flow} {s2:Shared} {R:Result→Shared→Prop} (hR:∀ W' v s',Le W W'→Inv X W' σ' s'→VRel W' v (Zoi fl)→R (.ok (.ret v)) s') (l1:Le W W1) (hown:∀ a∈own,W a=.free) (l2:LeX own W1 W2) (I2:Inv X W2 σ' s2) (hr:Z2u X W2 env own fl ν' fo):(fo=.next∧R (.ok (.ret .none)) s2)∨∃ cv,fo=.ret cv∧R (.ok (.ret cv)) s2:=by
  have l:Le W W2:=(LeX.trans (Le.X l1) l2).le hown
  cases fl with
  | next=>exact .inl ⟨hr.1,hR W2 _ s2 l I2 rfl⟩
  | ret r=>exact .inr (hr.elim λ cv h=>⟨cv,h.1,hR W2 _ s2 l I2 h.2⟩)
end
end PL
end
section
open PySem PySem.SeqAt PySem.W
namespace PL
section
variable {X:Cx} {j:Nat} {ν ν':Fm} {σ σ':St} {Fd:Fn} {f:Addr} {fd:FuncData} {vs:List AVal} {fl:Flw} {W:Wd} {s:Shared} {A:Around} {cvs:List Value} {R:Result→Shared→Prop} {own:List Addr}
noncomputable def Zye (env:Env):List Addr:=env.locals::(env.cells.filter λ p=>env.cells.lookup p.1==some p.2).map (·.2)
theorem Zit {env:Env} {n:Str} {c:Addr} (h:env.cells.lookup n=some c):c∈Zye env:=Z67 _ (Z7b.mpr ⟨(n,c),List.mem_filter.mpr ⟨mem_of_lookup h,beq_iff_eq.mpr h⟩,rfl⟩)
theorem Zs3 (D:FnK X.K Fd f fd) (hclo:fd.closure=[]) (hnofree:∀ y∈fd.scope.names,y.2≠.free) (hb:Z3 Fd.params vs (λ zz=>none)=some ν) (he:ExB j Fd.body ν σ fl ν' σ') (hA:AOK (2*(j+1)) A) (I:Inv X W σ s) (hv:VRels W cvs vs)
    (hR:∀ W' v s',Le W W'→Inv X W' σ' s'→VRel W' v (Zoi fl)→R (.ok (.ret v)) s'):codeAny (model pp X.w) A (.call (.ref f) ⟨cvs,[]⟩) R s:=by
  obtain ⟨oc,od,osl,hobj⟩:=D.obj
  have KX:=I.kin
  have hlen:cvs.length=Fd.params.length:=by rw [F2.length hv,Zad hb]
  have hLf:=I.free (a:=s.heap.objs.size) (Z6q _)
  refine codeAny_call_cells hA.room (KX _ _ hobj) rfl (X.ok.lim.keeps I.old) (codeRec_of KX D.code) D.body (D.bind cvs hlen) hclo (λ y hy=>?_) (λ s1 IC=>?_) D.co D.gen D.kind
  · obtain ⟨x,hx,e⟩:=Zfx hy
    rw [e]
    exact (Jc (env:=callEnvC fd 0 f) (D.pars x hx)).imp id λ q=>⟨q,Ja _ _ _ _ (.inr q)⟩
  · obtain ⟨⟨⟨h1,tk1,rfl⟩,hns,hkeep,hfr⟩,hcell,hapart,habove⟩:=IC
    have I1:Inv X W σ { s with heap:=h1,toks:=tk1 }:=I.keeps hkeep
    have hscope:(callEnvC fd s.heap.objs.size f).scope=fd.scope:=rfl
    have hglob:(callEnvC fd s.heap.objs.size f).globals=mainGlobals:=D.glob
    have hblt:(callEnvC fd s.heap.objs.size f).builtins=builtinsNs:=D.blt
    have hlocs:(callEnvC fd s.heap.objs.size f).locals=s.heap.objs.size:=rfl
    have hcells:(callEnvC fd s.heap.objs.size f).cells=cellsFrom (s.heap.objs.size+1) fd.scope.names []:=rfl
    generalize callEnvC fd s.heap.objs.size f=env at*
    obtain ⟨o0,hoL,hnL⟩:=NsO.of hns
    have hYo:∀ a∈Zye env,W a=.free∧∃ o,h1.get? a=some o:=memC ⟨by rw [hlocs]; exact hLf,o0,hoL⟩ λ a ha=>by
      obtain ⟨p,hp,rfl⟩:=Z7b.mp ha
      obtain ⟨hp1,hp2⟩:=List.mem_filter.mp hp
      obtain ⟨o,e,zz⟩:=hcell p.1 p.2 (Z7u hp2)
      exact ⟨I.free (Z64 (hlocs▸habove p.1 p.2 hp1)),o,e⟩
    obtain ⟨W1,I2,l1,hY⟩:=Inv.pins _ I1 hYo
    have hownf:∀ a∈Zye env,W a=.free:=λ a ha=>(hYo a ha).1
    obtain ⟨rL,rC⟩:=Zhr (W:=W1) (kd:=env.kindOf) (mL:=λ zz=>none) (mC:=λ zz=>none) hb (VRels.mono hv l1) (λ x v zz h=>nomatch h) (λ x v zz h=>nomatch h)
    have cellAt:∀ n k,env.kindOf n=some k→CF k→k=.cell∧∃ c o,env.cells.lookup n=some c∧W1 c=.imm o none∧o.data=.cell (bindC env.kindOf ((Fd.params.map Str.ofString).zip cvs) (λ zz=>none) n):=λ n k hk hc=>by
      rcases hc with rfl | rfl
      · obtain ⟨c,hc⟩:=Option.isSome_iff_exists.mp (Ja fd.scope.names (s.heap.objs.size+1) [] n (.inr (hscope▸hk)))
        rw [← hcells] at hc
        obtain ⟨o,e,e2⟩:=hY c (Zit hc)
        obtain ⟨o',e',hd⟩:=hcell n c hc
        exact ⟨rfl,c,o,hc,e,Z7g (e'.symm.trans e2)▸hd⟩
      · exact absurd rfl (hnofree _ (mem_of_lookup (hscope▸hk:fd.scope.names.lookup n=some .free)))
    have FF:FrmF X W1 env (Zye env) ν:=
      { kind:=by rw [hscope]; exact D.kind
        glob:=hglob
        blt:=hblt
        pin:=λ a ha=>(hY a ha).elim λ o e=>⟨o,e.1⟩
        old:=λ a ha=>I.s1free (hownf a ha)
        ownL:=Z66
        loc:=by
          obtain ⟨o,e,e2⟩:=hY _ Z66
          exact ⟨o,_,e,Z7g (hoL.symm.trans e2)▸hnL,rL⟩
        cell:=λ n kd hk hc=>(cellAt n kd hk hc).2.elim λ c h=>h.elim λ o h=>⟨_,c,o,h⟩
        val:=λ x v kd hk hc hx=>by
          obtain ⟨rfl,c,o,h1,h2,h3⟩:=cellAt _ kd hk hc
          obtain ⟨cv,q1,q2⟩:=rC x v (λ q=>nomatch hk.symm.trans q) hx
          exact ⟨cv,⟨c,o,h1,h2,by rw [h3,q1]⟩,q2⟩
        apart:=hapart
        ownC:=λ n c zz hc=>Zit hc }
    exact he.run (by rw [hscope]; exact D.fit) ⟨FF,hA.deep env,I2⟩ λ W2 fo s2 l2 I3 hr=>by rcases Zrf hR l1 hownf l2 I3 hr with ⟨rfl,h⟩ | ⟨cv,rfl,h⟩ <;> exact h
theorem Zjj (D:FnK X.K Fd f fd) (S:SupK X.K fd) (hb:Z3 Fd.params vs (λ zz=>none)=some ν) (he:BdB j Fd.body ν σ fl ν' σ') (hA:AOK (2*(j+1)) A) (I:Inv X W σ s) (hv:VRels W cvs vs)
    (hR:∀ W' v s',Le W W'→Inv X W' σ' s'→VRel W' v (Zoi fl)→R (.ok (.ret v)) s'):codeAny (model pp X.w) A (.call (.ref f) ⟨cvs,[]⟩) R s:=by
  obtain ⟨oc,od,osl,hobj⟩:=D.obj
  have KX:=I.kin
  have hlen:cvs.length=Fd.params.length:=by rw [F2.length hv,Zad hb]
  have hLf:=I.free (a:=s.heap.objs.size) (Z6q _)
  refine ks_codeAny_call_defAt hA.room (KX _ _ hobj) rfl (X.ok.lim.keeps I.old) (codeRec_of KX D.code) D.body (BindsTo.of_eq (D.bind cvs hlen)) S.nocell (λ y hy=>?_) (λ h1 hns hkeep=>?_) D.co D.gen D.kind
  · obtain ⟨x,hx,e⟩:=Zfx hy
    rw [e]
    exact (Jc (env:=callEnvC fd 0 f) (D.pars x hx)).resolve_right λ q=>S.nocell _ (mem_of_lookup q) rfl
  · have I1:Inv X W σ { s with heap:=h1,toks:=s.toks+((Fd.params.map Str.ofString).zip cvs).length }:=I.keeps hkeep
    obtain ⟨ccl,ccd,ccs,hocc⟩:=X.ok.cell
    have SUP:Zw7 X (callEnv fd s.heap.objs.size f) f fd:=⟨S,⟨oc,od,osl,hobj⟩,rfl,rfl,rfl,rfl⟩
    have hcl:(callEnv fd s.heap.objs.size f).cells=[(("__class__":Str),436)]:=S.clo
    have hscope:(callEnv fd s.heap.objs.size f).scope=fd.scope:=rfl
    have hglob:(callEnv fd s.heap.objs.size f).globals=mainGlobals:=D.glob
    have hblt:(callEnv fd s.heap.objs.size f).builtins=builtinsNs:=D.blt
    have hlocs:(callEnv fd s.heap.objs.size f).locals=s.heap.objs.size:=rfl
    generalize callEnv fd s.heap.objs.size f=env at*
    obtain ⟨o0,hoL,hnL⟩:=NsO.of hns
    have l1:Le W (setW W s.heap.objs.size (.imm o0 none)):=Y9 hLf
    have I2:=I1.pin (v:=none) hLf hoL trivial
    have hown:∀ a∈[s.heap.objs.size],W a=.free:=mem1 hLf
    have rev:=Znr (W:=setW W s.heap.objs.size (.imm o0 none)) (tl:=[]) hb (VRels.mono hv l1) λ x v zz h=>nomatch h
    obtain ⟨vcc,hWcc⟩:=I2.keep _ _ (X.ok.inK _ _ hocc)
    have hvcc:vcc=none:=@Option.casesOn _ (λ v=>IRel (setW W s.heap.objs.size (.imm o0 none)) { cls:=ccl,dict:=ccd,data:=.cell (some (.ref 475)),slots:=ccs } v→v=none) vcc (λ zz=>rfl) (λ x=>@AVal.casesOn (λ x=>IRel (setW W s.heap.objs.size (.imm o0 none)) { cls:=ccl,dict:=ccd,data:=.cell (some (.ref 475)),slots:=ccs } (some x)→some x=none) x (λ h=>h.elim) (λ zz h=>h.elim) (λ zz h=>h.elim) (λ zz h=>h.elim)
      (λ zz h=>h.elim λ vs q=>q.elim λ n q=>nomatch Z7r Obj.data q.1) (λ zz h=>h.elim λ vs q=>q.elim λ n q=>nomatch Z7r Obj.data q.1) (λ zz h=>h.elim)) (I2.imm hWcc).2
    rw [hvcc] at hWcc
    have hfr:∀ n k,env.kindOf n=some k→CF k→n=("__class__":Str):=λ n k hk hc=>by
      have hk':fd.scope.names.lookup n=some k:=hscope▸hk
      rcases hc with rfl | rfl
      · exact absurd rfl (S.nocell _ (mem_of_lookup hk'))
      · exact S.free _ (mem_of_lookup hk') rfl
    have FF:FrmF X (setW W s.heap.objs.size (.imm o0 none)) env [s.heap.objs.size] ν:=
      { kind:=by rw [hscope]; exact D.kind
        glob:=hglob
        blt:=hblt
        pin:=mem1 ⟨o0,Zh ..⟩
        old:=mem1 (I.s1free hLf)
        ownL:=by rw [hlocs]; exact Z66
        loc:=⟨o0,_,by rw [hlocs]; exact Zh ..,hnL,λ x v zz hx=>(rev x v trivial hx).elim λ cv e=>⟨cv,by have:=e.1; dsimp only at this; rw [List.append_nil] at this; exact this,e.2⟩⟩
        cell:=λ n kd hk hc=>⟨some (.ref 475),436,_,by rw [hfr n kd hk hc,hcl]; rfl,hWcc,rfl⟩
        val:=λ x v kd hk hc hx=>by
          rcases Zjn hb hx with q | q
          · have hk':fd.scope.names.lookup (Str.ofString x)=some kd:=hscope▸hk
            rcases Jc (env:=callEnvC fd 0 f) (D.pars x q) with e | e
            · rcases hc with rfl | rfl
              · exact nomatch hk'.symm.trans e
              · exact nomatch hk'.symm.trans e
            · exact absurd rfl (S.nocell _ (mem_of_lookup e))
          · exact nomatch q
        apart:=by rw [hcl]; exact List.pairwise_singleton _ _
        ownC:=λ n c hk zz=>absurd rfl (S.nocell _ (mem_of_lookup (hscope▸hk:fd.scope.names.lookup n=some .cell))) }
    exact he.run SUP (by rw [hscope]; exact D.fit) ⟨FF,hA.deep env,I2⟩ λ W2 fo s2 l2 I3 hr=>by rcases Zrf hR l1 hown l2 I3 hr with ⟨rfl,h⟩ | ⟨cv,rfl,h⟩ <;> exact h
end
section
variable {j:Nat} {ν ν':Fm} {σ σ':St} {q:String} {e:Addr×Fn} {vs:List AVal} {fl:Flw} {r:AVal}
theorem Z2b (hq:fnOf q=some e) (hb:Z3 e.2.params vs (λ zz=>none)=some ν) (h:ExB j e.2.body ν σ fl ν' σ'):CallR (j+1) q vs σ (Zoi fl) σ':=.mk λ {X W s A cvs f R} hf hA I hv hR=>by
  have D:=X.ok.fnK hq
  have hf':f=e.1:=Z7g (hf.symm.trans (Zvt hq))
  rw [hf']
  exact D.rest.elim (λ p=>Zs3 D p.1 p.2 hb h hA I hv hR) λ S=>Zjj D S hb h.bd hA I hv hR
theorem Zzl (hs:Zfr.contains q=true) (hq:fnOf q=some e) (hb:Z3 e.2.params vs (λ zz=>none)=some ν) (h:BdB j e.2.body ν σ fl ν' σ'):CallR (j+1) q vs σ (Zoi fl) σ':=.mk λ {X W s A cvs f R} hf hA I hv hR=>by
  have D:=X.ok.fnK hq
  have hf':f=e.1:=Z7g (hf.symm.trans (Zvt hq))
  obtain ⟨a,ha,S⟩:=X.ok.supF hs
  rw [← Z7g ((Zvt hq).symm.trans ha)] at S
  rw [hf']
  exact Zjj D S hb h hA I hv hR
end
end PL
end
section
open PySem
namespace PL
section
variable {j:Nat} {ν ν' ν'':Fm} {σ σ1 σ2 σ3 σ4:St} {x y z w v:AVal} {a b c e t o i l h s:PE} {es src ifs:List PE} {us vs ws xs ys:List AVal} {n m f q:String} {r:AVal} {id:Nat} {cl:String} {k:Nat} {mm:Fm}
theorem e_lk (h:ν n=some v:=by kernel_rfl):EvE j (.loc n) ν σ v σ:=Zc h
theorem Zs (h:EvE j e ν σ (.ref id) σ1) (hf:σ1.f id=some (.inst cl k mm)) (hm:mm n=some v:=by kernel_rfl) (ht:Jk.contains (cl,n)=true:=by kernel_rfl):EvE j (.att e n) ν σ v σ1:=Z4x h hf hm ht
theorem Yb (ho:EvE j o ν σ (.ref id) σ1) (hf:σ1.f id=some (.inst cl k mm)) (hes:EvEs j ν es σ1 vs σ2) (hc:CallR j q (.ref id::vs) σ2 v σ3) (hm:mm m=none:=by kernel_rfl) (hq:Zcs.lookup (cl,m)=some q:=by kernel_rfl) (hfa:(fnA q).isSome=true:=by kernel_rfl):EvE j (.mth o m es) ν σ v σ3:=Zwh ho hf hm hq hes hc hfa
theorem Z03 {k:Nat} (he:EvE j e ν σ v σ1) (ho:EvE j o ν σ1 (.ref id) σ2) (hf:σ2.f id=some (.inst cl k mm)) (hat:Jk.contains (cl,n)=true:=by kernel_rfl) (hk:Nat.blt k 100=true:=by kernel_rfl):ExS j (.sat o n e) ν σ .next ν (σ2.put id (.inst cl (k+1) (upd mm n v))):=Z5s he ho hf hat (Z6y hk)
structure BodyR (j:Nat) (ps:List PS) (ν:Fm) (σ:St) (r:AVal) (σ':St):Prop where
  ex:∃ fl ν',ExB j ps ν σ fl ν' σ'∧Zoi fl=r
theorem Zb {p:PS} {ps:List PS} (h1:ExS j p ν σ .next ν' σ1) (h2:BodyR j ps ν' σ1 v σ2):BodyR j (p::ps) ν σ v σ2:=h2.ex.elim λ fl h=>h.elim λ μ h=>⟨fl,μ,Qj h1 h.1,h.2⟩
theorem Ql {p:PS} {ps:List PS} (h1:ExS j p ν σ (.ret v) ν' σ1):BodyR j (p::ps) ν σ v σ1:=⟨_,_,Zzu h1,rfl⟩
theorem Z0 {ps:List PS} (h:EvE j e ν σ v σ1):BodyR j (.ret e::ps) ν σ v σ1:=Ql (Zaz h)
theorem Za0:BodyR j [] ν σ .none σ:=⟨_,_,Z0s,rfl⟩
theorem Zg {vs:List AVal} {e:Addr×Fn} (hq:fnOf q=some e) (hb:Z3 e.2.params vs (λ zz=>none)=some ν) (h:BodyR j e.2.body ν σ v σ1):CallR (j+1) q vs σ v σ1:=h.ex.elim λ fl h=>h.elim λ μ h=>h.2▸Z2b hq hb h.1
theorem es0:EvEs j ν [] σ [] σ:=.nil σ
theorem es1 (h:EvE j e ν σ v σ1):EvEs j ν [e] σ [v] σ1:=.cons h (.nil _)
theorem es2 (h:EvE j a ν σ v σ1) (h2:EvE j b ν σ1 w σ2):EvEs j ν [a,b] σ [v,w] σ2:=.cons h (es1 h2)
theorem es3 (h:EvE j a ν σ v σ1) (h2:EvE j b ν σ1 w σ2) (h3:EvE j c ν σ2 x σ3):EvEs j ν [a,b,c] σ [v,w,x] σ3:=.cons h (es2 h2 h3)
theorem EvE.eqv (h:EvE j e ν σ v σ1) (hv:v=w):EvE j e ν σ w σ1:=hv▸h
theorem CmpR.eqv {op:CmpOp} {p q:Bool} (h:CmpR σ op x y p) (hp:p=q):CmpR σ op x y q:=hp▸h
theorem dT {p:Prop} [Decidable p] (h:p):decide p=true:=Z7s h
theorem dF {p:Prop} [Decidable p] (h:¬p):decide p=false:=Z7t h
theorem nT {p:Prop} [Decidable p] (h:p):(!decide p)=false:=by rw [dT h]; rfl
theorem nF {p:Prop} [Decidable p] (h:¬p):(!decide p)=true:=by rw [dF h]; rfl
theorem Zl:Jy none σ:=λ p q=>nomatch q
theorem Jz {x:String} (hy:ν x=some v) (h:x≠".0":=by decide):hide ν x=some v:=(if_neg h).trans hy
theorem Za {ν:Fm} {x y:String} {v u:AVal} (hy:ν y=some u) (h:y≠x:=by decide):upd ν x v y=some u:=(if_neg h).trans hy
theorem Zf {α β:Type} {f:α→β} {l:List α} {n:Nat} (h:l.length≤n):(l.map f).length≤n:=(Z68 f).symm▸h
theorem Zyk {α β:Type} {f:α→β} {l:List α} {n:Nat} (h:n < l.length):n < (l.map f).length:=(Z68 f).symm▸h
theorem Zfi {α β:Type} {f:α→β} {l:List α} {i:Nat} {x:α} (h:l[i]? = some x):(l.map f)[i]? = some (f x):=by rw [List.getElem?_map,h]; rfl
theorem Zfm {α:Type} {l:List α} {i:Nat} {x:α} (h:l[i]? = some x):i < l.length:=(Z7m.mp h).1
theorem Zib {α:Type} {l:List α} {i:Nat} (h:i < l.length):∃ x,l[i]? = some x:=⟨_,Z7l h⟩
theorem ble {a b:Nat} (h:Nat.ble a b=true:=by rfl):a≤b:=Z6y h
theorem Zdj {g:Option (Nat×List AVal)} {x:String} {α:Type} {p:α→AVal} {q:α→AVal} (hst:Jy g σ):∀ {l:List α} {acc:List AVal},(∀ u∈l,EvE j e (upd (hide ν) x (p u)) σ (q u) σ)→acc.length+l.length≤16000→LcR j g [x] [] e ν ((l.map p).map λ x=>[x]) acc σ (acc++l.map q) σ
  | [],acc,_,_=>by rw [List.map_nil,List.map_nil,List.map_nil,List.append_nil]; exact .nil hst
  | u::l,acc,h,hl=>by
    rw [Z7e,Z7e,Z7e,List.append_cons]
    rw [Z7f,Nat.add_succ] at hl
    exact .keep hst rfl (.nil _) (h u Z66) (Z6u (Z6r _ _) hl) (Zdj hst (λ w hw=>h w (Z67 _ hw)) (by rw [Z69]; exact (Nat.succ_add _ _).symm▸hl))
end
noncomputable abbrev Nd:=CS×List Nat
noncomputable abbrev nA (n:Nat):AVal:=.int (n:Int)
noncomputable def Zr (p:Nd):AVal:=.tup (.str p.1::p.2.map nA)
inductive Reason where
  | told (w:CS) | rule (w:CS) (ps:List (CS×Nat))
inductive Row where
  | add (op:CS) (ks:List Nat) | same (a b:Nat) (r:Reason) | settle
noncomputable def Qy (p:CS×Nat):AVal:=.tup [.str p.1,nA p.2]
noncomputable def Zt (r:Reason):AVal:=@Reason.casesOn (λ zz=>AVal) r (λ w=>.tup [.str [116,111,108,100],.str w]) λ w ps=>.tup [.str [114,117,108,101],.str w,.tup (ps.map Qy)]
noncomputable def rowA (r:Row):AVal:=@Row.casesOn (λ zz=>AVal) r (λ op ks=>.tup [.str [97,100,100],.str op,.tup (ks.map nA)]) (λ a b r=>.tup [.str [115,97,109,101],nA a,nA b,Zt r]) (.tup [.str [115,101,116,116,108,101]])
structure HC where
  nodes:List Nd
  weights:List Int
  depths:List Int
  par:List Nat
  lots:List (List Nat)
  merged:List (Nat×Nat)
  edges:List (Nat×Nat×AVal)
  forest:List Nat
  known:List (Nd×Nat)
  abv:List (Nat×List Nat)
  waiting:List Nat
  rows:List Row
inductive Fld where
  | h | bank | unions | nodes | numbers | weights | depths | uab | lots | lot (i:Nat) | merged | edges | forest | known | hab | abv (c:Nat) | waiting | rows
noncomputable def Yh (H:HC) (i:Nat):List Nat:=(H.lots[i]?).getD []
noncomputable def Z2 (H:HC) (c:Nat):List Nat:=(H.abv.lookup c).getD []
section
variable (L:Fld→Nat)
noncomputable def hfm:Fm:=upd (upd (upd (upd (upd (upd (upd (upd (λ zz=>none) "bank" (.ref (L .bank))) "unions" (.ref (L .unions))) "edges" (.ref (L .edges))) "forest" (.ref (L .forest))) "known" (.ref (L .known))) "above" (.ref (L .hab))) "waiting" (.ref (L .waiting))) "rows" (.ref (L .rows))
noncomputable def bfm:Fm:=upd (upd (upd (upd (λ zz=>none) "nodes" (.ref (L .nodes))) "numbers" (.ref (L .numbers))) "weights" (.ref (L .weights))) "depths" (.ref (L .depths))
noncomputable def ufm:Fm:=upd (upd (upd (λ zz=>none) "above" (.ref (L .uab))) "lots" (.ref (L .lots))) "merged" (.ref (L .merged))
end
noncomputable def Zo9 (p:Nat×Nat×AVal):AVal:=.tup [nA p.1,nA p.2.1,p.2.2]
noncomputable def Zyd (p:Nat×Nat):AVal:=.tup [nA p.1,nA p.2]
noncomputable def numD (l:List Nd):List (AVal×AVal):=l.zipIdx.map λ p=>(Zr p.1,nA p.2)
noncomputable def knoD (l:List (Nd×Nat)):List (AVal×AVal):=l.map λ p=>(Zr p.1,nA p.2)
noncomputable def Zmi (L:Fld→Nat) (n:Nat):List AVal:=(List.range n).map λ i=>.ref (L (.lot i))
noncomputable def abvD (L:Fld→Nat) (l:List (Nat×List Nat)):List (AVal×AVal):=l.map λ p=>(nA p.1,.ref (L (.abv p.1)))
noncomputable def cont (L:Fld→Nat) (H:HC) (f:Fld):AObj:=@Fld.casesOn (λ zz=>AObj) f (.inst "Written" 8 (hfm L)) (.inst "Bank" 4 (bfm L)) (.inst "Unions" 3 (ufm L))
  (.list (H.nodes.map Zr)) (.dict (numD H.nodes)) (.list (H.weights.map .int)) (.list (H.depths.map .int)) (.list (H.par.map nA)) (.list (Zmi L H.lots.length)) (λ i=>.list ((Yh H i).map nA)) (.list (H.merged.map Zyd)) (.list (H.edges.map Zo9)) (.list (H.forest.map nA))
  (.dict (knoD H.known)) (.dict (abvD L H.abv)) (λ c=>.list ((Z2 H c).map nA)) (.list (H.waiting.map nA)) (.list (H.rows.map rowA))
def act (H:HC) (f:Fld):Prop:=@Fld.casesOn (λ zz=>Prop) f True True True True True True True True True (λ i=>i < H.lots.length) True True True True True (λ c=>c∈H.abv.map (·.1)) True True
structure Rep (σ:St) (L:Fld→Nat) (H:HC):Prop where
  inj:∀ f g,act H f→act H g→L f=L g→f=g
  lt:∀ f,act H f→L f < σ.n
  val:∀ f,act H f→σ.f (L f)=some (cont L H f)
section
variable {σ:St} {L:Fld→Nat} {H:HC}
theorem Rep.hobj (R:Rep σ L H):σ.f (L .h)=some (.inst "Written" 8 (hfm L)):=R.val .h trivial
theorem Rep.bobj (R:Rep σ L H):σ.f (L .bank)=some (.inst "Bank" 4 (bfm L)):=R.val .bank trivial
theorem Rep.uobj (R:Rep σ L H):σ.f (L .unions)=some (.inst "Unions" 3 (ufm L)):=R.val .unions trivial
theorem Rep.nodes (R:Rep σ L H):σ.f (L .nodes)=some (.list (H.nodes.map Zr)):=R.val .nodes trivial
theorem Rep.numbers (R:Rep σ L H):σ.f (L .numbers)=some (.dict (numD H.nodes)):=R.val .numbers trivial
theorem Rep.weights (R:Rep σ L H):σ.f (L .weights)=some (.list (H.weights.map .int)):=R.val .weights trivial
theorem Rep.depths (R:Rep σ L H):σ.f (L .depths)=some (.list (H.depths.map .int)):=R.val .depths trivial
theorem Rep.uab (R:Rep σ L H):σ.f (L .uab)=some (.list (H.par.map nA)):=R.val .uab trivial
theorem Rep.lots (R:Rep σ L H):σ.f (L .lots)=some (.list (Zmi L H.lots.length)):=R.val .lots trivial
theorem Rep.lot (R:Rep σ L H) {i:Nat} (h:i < H.lots.length):σ.f (L (.lot i))=some (.list ((Yh H i).map nA)):=R.val (.lot i) h
theorem Rep.merged (R:Rep σ L H):σ.f (L .merged)=some (.list (H.merged.map Zyd)):=R.val .merged trivial
theorem Rep.edges (R:Rep σ L H):σ.f (L .edges)=some (.list (H.edges.map Zo9)):=R.val .edges trivial
theorem Rep.forest (R:Rep σ L H):σ.f (L .forest)=some (.list (H.forest.map nA)):=R.val .forest trivial
theorem Rep.known (R:Rep σ L H):σ.f (L .known)=some (.dict (knoD H.known)):=R.val .known trivial
theorem Rep.hab (R:Rep σ L H):σ.f (L .hab)=some (.dict (abvD L H.abv)):=R.val .hab trivial
theorem Rep.abv (R:Rep σ L H) {c:Nat} (h:c∈H.abv.map (·.1)):σ.f (L (.abv c))=some (.list ((Z2 H c).map nA)):=R.val (.abv c) h
theorem Rep.waiting (R:Rep σ L H):σ.f (L .waiting)=some (.list (H.waiting.map nA)):=R.val .waiting trivial
theorem Rep.rows (R:Rep σ L H):σ.f (L .rows)=some (.list (H.rows.map rowA)):=R.val .rows trivial
theorem Rep.ne (R:Rep σ L H) {f g:Fld} (hf:act H f) (hg:act H g) (h:f≠g):L f≠L g:=λ q=>h (R.inj f g hf hg q)
end
noncomputable def Zss (par:List Nat) (k:Nat):Nat→Nat:=@Nat.rec (λ zz=>Nat→Nat) (λ a=>a) (λ zz ih a=>if (par[a]?).getD a=a then a else ih ((par[a]?).getD a)) k
noncomputable def find (par:List Nat) (a:Nat):Nat:=Zss par (a+1) a
def Down (par:List Nat):Prop:=∀ (i p:Nat),par[i]? = some p→p≤i
theorem Zo3 {par:List Nat} {a p:Nat} (h:par[a]? = some p):(par[a]?).getD a=p:=by rw [h]; rfl
theorem Zo2 {par:List Nat} (hd:Down par) {a:Nat} (h:(par[a]?).getD a≠a):(par[a]?).getD a < a:=by
  cases e:par[a]? with
  | none=>rw [e] at h; exact absurd rfl h
  | some p=>rw [e] at h; exact Nat.lt_of_le_of_ne (hd a p e) h
theorem Zsr {par:List Nat} (hd:Down par):∀ (k a:Nat),a < k→Zss par k a=Zss par (a+1) a:=by
  intro k
  induction k using Nat.strongRecOn with
  | ind k ih=>
    intro a h
    cases k with
    | zero=>exact absurd h (Nat.not_lt_zero a)
    | succ k=>
      show (if (par[a]?).getD a=a then a else Zss par k ((par[a]?).getD a))=if (par[a]?).getD a=a then a else Zss par a ((par[a]?).getD a)
      by_cases hp:(par[a]?).getD a=a
      · rw [if_pos hp,if_pos hp]
      · rw [if_neg hp,if_neg hp]
        have hlt:=Zo2 hd hp
        rw [ih k (Z6z k) _ (Z6t hlt (Z65 h)),ih a h _ hlt]
theorem Z1z {par:List Nat} (hd:Down par) (a:Nat):find par a=if (par[a]?).getD a=a then a else find par ((par[a]?).getD a):=by
  show (if (par[a]?).getD a=a then a else Zss par a ((par[a]?).getD a))=_
  by_cases hp:(par[a]?).getD a=a
  · rw [if_pos hp,if_pos hp]
  · rw [if_neg hp,if_neg hp]; exact Zsr hd a _ (Zo2 hd hp)
theorem Zk2 {par:List Nat} (hd:Down par) {P:Nat→Nat→Prop} (h0:∀ a,(par[a]?).getD a=a→P a a) (h1:∀ a b,(par[a]?).getD a < a→P ((par[a]?).getD a) b→P a b) (a:Nat):P a (find par a):=by
  induction a using Nat.strongRecOn with
  | ind a ih=>
    rw [Z1z hd]
    by_cases hp:(par[a]?).getD a=a
    · rw [if_pos hp]; exact h0 a hp
    · rw [if_neg hp]; have hlt:=Zo2 hd hp; exact h1 a _ hlt (ih _ hlt)
theorem Z1y {par:List Nat} (hd:Down par) (a:Nat):find par a≤a:=Zk2 hd (P:=λ a b=>b≤a) (λ a zz=>Z6q a) (λ a b h q=>Z6p q (Z64 h)) a
theorem find_root {par:List Nat} (hd:Down par) (a:Nat):(par[find par a]?).getD (find par a)=find par a:=Zk2 hd (P:=λ a b=>(par[b]?).getD b=b) (λ a h=>h) (λ a b zz q=>q) a
section
variable {j:Nat} {σ:St} {H:HC} {L:Fld→Nat}
theorem Zrn (hd:Down H.par) (R:Rep σ L H) (hl:H.par.length≤16000) (a:Nat):a < H.par.length→∀ ν:Fm,ν "self"=some (.ref (L .unions))→ν "a"=some (nA a)→
    ∃ n ν',WhlR j (.cmp .NotEq (.idx (.att (.loc "self") "above") (.loc "a")) (.loc "a")) [(.asg "a" (.idx (.att (.loc "self") "above") (.loc "a")))] n ν σ .next ν' σ∧ν' "a"=some (nA (find H.par a)):=by
  refine Zk2 hd (P:=λ a b=>a < H.par.length→∀ ν:Fm,ν "self"=some (.ref (L .unions))→ν "a"=some (nA a)→
    ∃ n ν',WhlR j (.cmp .NotEq (.idx (.att (.loc "self") "above") (.loc "a")) (.loc "a")) [(.asg "a" (.idx (.att (.loc "self") "above") (.loc "a")))] n ν σ .next ν' σ∧ν' "a"=some (nA b)) (λ a hp ha ν h1 h2=>?_) (λ a b hp ih ha ν h1 h2=>?_) a
  · obtain ⟨p,hp'⟩:=Zib ha
    have hpa:p=a:=(Zo3 hp').symm.trans hp
    exact ⟨0,ν,.stop (Zo (Ys (Zs (Zc h1) R.uobj) (Zc h2) (.lst (.ref R.uab) (Zfi hp') (Zf hl))) (Zc h2) ((CmpR.ne (.int 0 _ _) ble).eqv (nT (by rw [hpa])))),h2⟩
  · obtain ⟨p,hp'⟩:=Zib ha
    rw [Zo3 hp'] at hp ih
    have ev:∀ ν:Fm,ν "self"=some (.ref (L .unions))→ν "a"=some (nA a)→EvE j (.idx (.att (.loc "self") "above") (.loc "a")) ν σ (nA p) σ:=λ ν h1 h2=>Ys (Zs (Zc h1) R.uobj) (Zc h2) (.lst (.ref R.uab) (Zfi hp') (Zf hl))
    obtain ⟨n,ν',q1,q2⟩:=ih (Nat.lt_trans hp ha) (upd ν "a" (nA p)) (Za h1) (Zi ..)
    exact ⟨n+1,ν',.turn (Zo (ev ν h1 h2) (Zc h2) ((CmpR.ne (.int 0 _ _) ble).eqv (nF λ q=>by injection q with q; exact Nat.ne_of_lt hp (Int.ofNat.inj q)))) (Qk (Yr (ev ν h1 h2))) q1,q2⟩
end
theorem Zy2:fnOf "is_op"=some (95,Zv6):=by kernel_rfl
theorem Zh3:fnOf "is_variable"=some (102,Zds):=by kernel_rfl
theorem Zm6:fnOf "Bank.__init__"=some (121,Zhh):=by kernel_rfl
theorem Zm4:fnOf "Bank.size"=some (128,Zhf):=by kernel_rfl
theorem Ze8:fnOf "Bank.take"=some (133,Zhe):=by kernel_rfl
theorem Zgx:fnOf "Bank.require"=some (140,Zcq):=by kernel_rfl
theorem Zsp:fnOf "Bank.op"=some (166,Zne):=by kernel_rfl
theorem Zm5:fnOf "Bank.kids"=some (173,Zhg):=by kernel_rfl
theorem Zh6:fnOf "Unions.__init__"=some (227,Zdy):=by kernel_rfl
theorem Zh5:fnOf "Unions.make"=some (234,Zdx):=by kernel_rfl
theorem Zh4:fnOf "Unions.size"=some (241,Zdw):=by kernel_rfl
theorem Zh7:fnOf "Unions.find"=some (248,Zdz):=by kernel_rfl
theorem Zbf:fnOf "Unions.merge"=some (255,Zcl):=by kernel_rfl
theorem Zeq:fnOf "Unions.members"=some (262,Zaw):=by kernel_rfl
theorem Zer:fnOf "Unions.classes"=some (267,Zax):=by kernel_rfl
theorem Zm2:fnOf "Heap.__init__"=some (309,Zhc):=by kernel_rfl
theorem Zm0:fnOf "Heap.size"=some (316,Zg9):=by kernel_rfl
theorem Zm1:fnOf "Heap.node"=some (321,Zha):=by kernel_rfl
theorem Zgw:fnOf "Heap.add"=some (326,Zi8):=by kernel_rfl
theorem Zo4:fnOf "Heap.put"=some (331,Zi7):=by kernel_rfl
theorem Zbg:fnOf "Heap.look_at"=some (338,Zco):=by kernel_rfl
theorem Zm3:fnOf "Heap.find"=some (345,Zhd):=by kernel_rfl
theorem Zk0:fnOf "Heap.merge"=some (359,Zfh):=by kernel_rfl
theorem Ze7:fnOf "Heap.join"=some (366,Zhb):=by kernel_rfl
theorem Zh9:fnOf "Heap.settle"=some (373,Zd1):=by kernel_rfl
theorem Zdp:fnOf "Heap.is_settled"=some (380,Zac):=by kernel_rfl
theorem Zgv:fnOf "Heap.classes"=some (387,Zcp):=by kernel_rfl
theorem Zgu:fnOf "Heap.members"=some (394,Zcn):=by kernel_rfl
theorem Zfp:fnOf "Heap.nodes_of"=some (399,Zbo):=by kernel_rfl
theorem Zkz:fnOf "Heap.users"=some (418,Zfg):=by kernel_rfl
theorem Zbc:fnOf "check_reason"=some (432,Zcj):=by kernel_rfl
theorem Zgs:fnOf "Written.__init__"=some (448,Zck):=by kernel_rfl
theorem Zch:fnOf "Written.add"=some (456,Zdv):=by kernel_rfl
theorem Zfo:fnOf "Written.merge"=some (464,Zbn):=by kernel_rfl
theorem J8:fnOf "Written.settle"=some (472,Zav):=by kernel_rfl
theorem Zcw:fnOf "row_text"=some (482,Zi5):=by kernel_rfl
theorem Zmx:fnOf "number_of"=some (487,Zg2):=by kernel_rfl
theorem Zi2:fnOf "same_of"=some (492,Znd):=by kernel_rfl
theorem Zvs:fnOf "row_of"=some (497,Zq9):=by kernel_rfl
theorem Zky:fnOf "Story.__init__"=some (511,Zff):=by kernel_rfl
theorem Zmz:fnOf "Story.put"=some (518,Zg8):=by kernel_rfl
theorem Zh8:fnOf "Story.merge"=some (525,Zd0):=by kernel_rfl
theorem Zgt:fnOf "Story.settle"=some (532,Zcm):=by kernel_rfl
theorem Zkx:fnOf "Story.rows"=some (539,Zfe):=by kernel_rfl
theorem Zkw:fnOf "Story.text"=some (544,Zfd):=by kernel_rfl
theorem Zcx:fnOf "Story.do"=some (558,Zi6):=by kernel_rfl
theorem Zcy:fnOf "Story.alike_with"=some (565,Jv):=by kernel_rfl
theorem Zku:fnOf "read_story"=some (579,Zfa):=by kernel_rfl
theorem Ze6:fnOf "_law_draw"=some (586,Zg5):=by kernel_rfl
theorem Jt:fnOf "_law_term"=some (591,Zg4):=by kernel_rfl
theorem Zcg:fnOf "_law_number"=some (596,Zdu):=by kernel_rfl
theorem Zcf:fnOf "_law_reason"=some (601,Zdt):=by kernel_rfl
theorem Zbe:fnOf "_law_deed"=some (608,Zg7):=by kernel_rfl
theorem Zbd:fnOf "_law_done"=some (615,Zg6):=by kernel_rfl
theorem Q6:fnOf "_law_noted"=some (622,Zfc):=by kernel_rfl
theorem Zmy:fnOf "_law_text"=some (627,Zg3):=by kernel_rfl
theorem Zkv:fnOf "_law_state"=some (632,Zfb):=by kernel_rfl
theorem Z4o:fnOf "law"=some (639,Z4r):=by kernel_rfl
end PL
end
section
open PySem
namespace PL
section
variable {H:HC}
structure Core (H:HC):Prop where
  lw:H.weights.length=H.nodes.length
  ld:H.depths.length=H.nodes.length
  lp:H.par.length=H.nodes.length
  ll:H.lots.length=H.nodes.length
  down:Down H.par
  kids:∀ (i:Nat) (nd:Nd),H.nodes[i]? = some nd→(∀ k∈nd.2,k < i)∧nd.2.length≤2
  nodup:H.nodes.Nodup
  roots:∀ c,c∈H.abv.map (·.1)↔H.par[c]? = some c
  abvnd:(H.abv.map (·.1)).Nodup
  abvlt:∀ p∈H.abv,∀ n∈p.2,n < H.nodes.length
  waitlt:∀ n∈H.waiting,n < H.nodes.length
  knownlt:∀ p∈H.known,p.2 < H.nodes.length
  count:H.merged.length+H.abv.length=H.nodes.length
  sum:(H.abv.map λ p=>p.2.length).sum≤2*H.nodes.length
  lotlt:∀ l∈H.lots,∀ n∈l,n < H.nodes.length
  lotsum:(H.abv.map λ p=>(Yh H p.1).length).sum=H.nodes.length
structure Okay (H:HC):Prop extends Core H where
  wait:H.known.length+H.waiting.length≤H.nodes.length+2*H.merged.length*H.nodes.length
  edges:H.edges.length≤H.rows.length+H.merged.length
  forest:H.forest.length=H.merged.length
structure Ye (H:HC):Prop where
  n:H.nodes.length≤63
  r:H.rows.length≤200
theorem le63 {n:Nat} (h:n≤63):n≤16000:=Z6p h ble
theorem le2 {n:Nat} (h:n≤2):n≤16000:=Z6p h ble
theorem Core.find_lt (O:Core H) {a:Nat} (ha:a < H.nodes.length):find H.par a < H.nodes.length:=Z6u (Z1y O.down a) ha
theorem Core.find_root (O:Core H) {a:Nat} (ha:a < H.nodes.length):H.par[find H.par a]? = some (find H.par a):=by
  obtain ⟨p,hp⟩:=Zib (O.lp.symm▸O.find_lt ha)
  rw [hp,(Zo3 hp).symm.trans (PL.find_root O.down a)]
theorem Core.find_abv (O:Core H) {a:Nat} (ha:a < H.nodes.length):find H.par a∈H.abv.map (·.1):=(O.roots _).mpr (O.find_root ha)
theorem Zf1 {α:Type} {f:α→Nat}:∀ {l:List α} {a:α},a∈l→f a≤(l.map f).sum
  | x::l,a,h=>by
    rw [Z7e,List.sum_cons]
    rcases Z7a.mp h with rfl | h
    · exact Z6r _ _
    · exact Z6p (Zf1 h) (Z6s _ _)
theorem Ztn {α:Type} {f:α→Nat}:∀ {l:List α} {a b:α},a∈l→b∈l→a≠b→f a+f b≤(l.map f).sum
  | x::l,a,b,ha,hb,hne=>by
    rw [Z7e,List.sum_cons]
    rcases Z7a.mp ha with rfl | ha'
    · rcases Z7a.mp hb with rfl | hb'
      · exact absurd rfl hne
      · exact Z6w (Zf1 hb') _
    · rcases Z7a.mp hb with rfl | hb'
      · rw [Nat.add_comm]; exact Z6w (Zf1 ha') _
      · exact Z6p (Ztn ha' hb' hne) (Z6s _ _)
theorem Core.two (O:Core H) {a b:Nat} (ha:a∈H.abv.map (·.1)) (hb:b∈H.abv.map (·.1)) (hne:a≠b):(Yh H a).length+(Yh H b).length≤H.nodes.length:=by
  obtain ⟨p,hp,rfl⟩:=Z7b.mp ha
  obtain ⟨q,hq,rfl⟩:=Z7b.mp hb
  exact O.lotsum▸Ztn (f:=λ p:Nat×List Nat=>(Yh H p.1).length) hp hq (λ e=>hne (by rw [e]))
theorem Core.one (O:Core H) {a:Nat} (ha:a∈H.abv.map (·.1)):(Yh H a).length≤H.nodes.length:=by
  obtain ⟨p,hp,rfl⟩:=Z7b.mp ha
  exact O.lotsum▸Zf1 (f:=λ p:Nat×List Nat=>(Yh H p.1).length) hp
theorem Core.lp63 (O:Core H) (S:Ye H):H.par.length≤16000:=O.lp.symm▸le63 S.n
noncomputable def nkey (H:HC) (nd:Nd):Nd:=(nd.1,nd.2.map (find H.par))
end
section
variable {j:Nat} {σ:St} {H:HC} {L:Fld→Nat}
theorem Zfs (R:Rep σ L H) (O:Core H) (S:Ye H) {a:Nat} (ha:a < H.nodes.length):CallR (j+1) "Unions.find" [.ref (L .unions),nA a] σ (nA (find H.par a)) σ:=by
  obtain ⟨n,ν',q1,q2⟩:=Zrn (j:=j) (ν:=upd (upd (λ zz=>none) "self" (.ref (L .unions))) "a" (nA a)) O.down R (O.lp63 S) a (O.lp.symm▸ha) (by kernel_rfl) (by kernel_rfl)
  exact Zg Zh7 rfl (Zb (Z3f q1) (Z0 ((Zc q2))))
theorem Zf4 (R:Rep σ L H) (O:Core H) (S:Ye H) {a:Nat} (ha:a < H.nodes.length):CallR (j+2) "Heap.find" [.ref (L .h),nA a] σ (nA (find H.par a)) σ:=
  Zg Zm3 rfl (Z0 ((Yb (Zs e_lk R.hobj) R.uobj (es1 e_lk) (Zfs R O S ha))))
theorem Zxv (R:Rep σ L H) (S:Ye H):CallR (j+1) "Bank.size" [.ref (L .bank)] σ (nA H.nodes.length) σ:=
  Zg Zm4 rfl (Z0 (((Yl (es1 (Zs e_lk R.bobj)) (.len (.lst (.ref R.nodes)) (Zf (le63 S.n)))).eqv (by rw [Z68]))))
theorem Zj0 (R:Rep σ L H) (S:Ye H):CallR (j+2) "Heap.size" [.ref (L .h)] σ (nA H.nodes.length) σ:=
  Zg Zm0 rfl (Z0 ((Yb (Zs e_lk R.hobj) R.bobj es0 (Zxv R S))))
theorem Znj {ν:Fm} {e i:PE} (R:Rep σ L H) (S:Ye H) {n:Nat} {nd:Nd} (h:H.nodes[n]? = some nd) (he:EvE j e ν σ (.ref (L .bank)) σ) (hi:EvE j i ν σ (nA n) σ):EvE j (.idx (.att e "nodes") i) ν σ (Zr nd) σ:=
  Ys (Zs he R.bobj) hi (.lst (.ref R.nodes) (Zfi h) (Zf (le63 S.n)))
theorem Z3b (R:Rep σ L H) (S:Ye H) {n:Nat} {nd:Nd} (h:H.nodes[n]? = some nd) (hk:nd.2.length≤2):CallR (j+1) "Bank.op" [.ref (L .bank),nA n] σ (.str nd.1) σ:=
  Zg Zsp rfl (Z0 ((Ys (Znj R S h e_lk e_lk) Ze (.tup (k:=0) rfl (Nat.succ_le_of_lt (Z6u (Zf hk) ble))))))
theorem Zxw (R:Rep σ L H) (S:Ye H) {n:Nat} {nd:Nd} (h:H.nodes[n]? = some nd) (hk:nd.2.length≤2):CallR (j+1) "Bank.kids" [.ref (L .bank),nA n] σ (.tup (nd.2.map nA)) σ:=
  Zg Zm5 rfl (Z0 ((Zbp (Znj R S h e_lk e_lk) Qb Qb Qb (.tup (i:=1) (Z6q 1) (Z6v (Z63 _)) (Nat.succ_le_of_lt (Z6u (Zf hk) ble))))))
theorem Zt0 (R:Rep σ L H) (O:Core H) (S:Ye H) {n:Nat} {nd:Nd} (h:H.nodes[n]? = some nd):CallR (j+3) "Heap.node" [.ref (L .h),nA n] σ (Zr (nkey H nd)) σ:=by
  obtain ⟨hk,hl⟩:=O.kids n nd h
  have hn:=Zfm h
  have hg:LcR (j+2) none ["kid"] [] (.mth (.loc "self") "find" [(.loc "kid")]) (upd (upd (λ zz=>none) "self" (.ref (L .h))) "n" (nA n)) ((nd.2.map nA).map λ x=>[x]) [] σ ([]++nd.2.map λ k=>nA (find H.par k)) σ:=
    Zdj Zl (λ k hk'=>Yb (cl:="Written") e_lk R.hobj (es1 e_lk) (Zf4 R O S (Nat.lt_trans (hk k hk') hn))) (by rw [List.length_nil,Nat.zero_add]; exact le2 hl)
  have e1:EvE (j+2) (.mth (.att (.loc "self") "bank") "kids" [(.loc "n")]) (upd (upd (λ zz=>none) "self" (.ref (L .h))) "n" (nA n)) σ (.tup (nd.2.map nA)) σ:=Yb (Zs e_lk R.hobj) R.bobj (es1 e_lk) (Zxw R S h hl)
  refine Zg Zm1 rfl (Z0 ((EvE.eqv (Qi (Yq (es1 (Yb (Zs e_lk R.hobj) R.bobj (es1 e_lk) (Z3b R S h hl)))) (Yl (es1 (Q3 (es1 e1) (.tup _) hg)) (.tuple (.lst (.lst _)) (Zf (le2 hl)))) (.addT (Nat.succ_add _ _▸Nat.succ_le_of_lt (Z6u (by rw [List.length_nil,Nat.zero_add]; exact Zf hl) ble)))) ?_)))
  show AVal.tup (AVal.str nd.1::_)=AVal.tup (AVal.str nd.1::List.map nA (List.map _ _))
  rw [List.map_map]; rfl
end
end PL
end
section
open PySem
namespace PL
section
variable {σ σ' σ'':St} {L L' L'':Fld→Nat} {H H' H'':HC}
structure Tr (σ:St) (L:Fld→Nat) (H:HC) (σ':St) (L':Fld→Nat) (H':HC):Prop where
  rep:Rep σ' L' H'
  n:σ.n≤σ'.n
  fr:∀ id,id < σ.n→(∀ f,act H f→L f≠id)→σ'.f id=σ.f id
  ids:∀ f,act H' f→(∃ g,act H g∧L' f=L g)∨σ.n≤L' f
  top:L' .h=L .h
theorem Tr.refl (R:Rep σ L H):Tr σ L H σ L H:=⟨R,Z6q _,λ zz zz zz=>rfl,λ f hf=>.inl ⟨f,hf,rfl⟩,rfl⟩
theorem Tr.trans (a:Tr σ L H σ' L' H') (b:Tr σ' L' H' σ'' L'' H''):Tr σ L H σ'' L'' H'' where
  rep:=b.rep
  n:=Z6p a.n b.n
  fr id h1 h2:=(b.fr id (Z6t h1 a.n) λ f hf=>(a.ids f hf).elim (λ ⟨g,hg,e⟩=>e▸h2 g hg) λ e q=>absurd (q▸e) (Nat.not_le.mpr h1)).trans (a.fr id h1 h2)
  ids f hf:=(b.ids f hf).elim (λ ⟨g,hg,e⟩=>(a.ids g hg).imp (λ ⟨k,hk,e2⟩=>⟨k,hk,e.trans e2⟩) λ e2=>e▸e2) λ e=>.inr (Z6p a.n e)
  top:=b.top.trans a.top
theorem Y3 {σ:St} {k:Nat} {o:AObj} (h:k < σ.n):(σ.new o).f k=σ.f k:=if_neg (Nat.ne_of_lt h)
theorem Y0 {α β:Type} (f:α→β) (l:List α) (x:α):l.map f++[f x]=(l++[x]).map f:=by rw [List.map_append]; rfl
theorem Tr.put (R:Rep σ L H) (f:Fld) (hf:act H f) (hact:∀ g,act H' g↔act H g) (hc:∀ g,g≠f→act H g→cont L H' g=cont L H g):Tr σ L H (σ.put (L f) (cont L H' f)) L H' where
  rep:=⟨λ g k hg hk=>R.inj g k ((hact g).mp hg) ((hact k).mp hk),λ g hg=>R.lt g ((hact g).mp hg),λ g hg=>by
    have hg':=(hact g).mp hg
    by_cases e:g=f
    · rw [e]; exact Yk ..
    · exact (Zw λ q=>e (R.inj g f hg' hf q)).trans ((R.val g hg').trans (by rw [hc g e hg']))⟩
  n:=Z6q _
  fr id h1 h2:=Zw λ q=>h2 f hf q.symm
  ids g hg:=.inl ⟨g,(hact g).mp hg,rfl⟩
  top:=rfl
theorem Tr.put' (R:Rep σ L H) (f:Fld) (hf:act H f) (hact:∀ g,act H' g↔act H g) (hc:∀ g,g≠f→act H g→cont L H' g=cont L H g) {o:AObj} (ho:o=cont L H' f):Tr σ L H (σ.put (L f) o) L H':=ho▸Tr.put R f hf hact hc
section
variable (H)
noncomputable def Zo1 (a b:Nat) (r:AVal):HC:={ H with edges:=H.edges++[(a,b,r)] }
noncomputable def hPar (g k:Nat):HC:={ H with par:=H.par.set g k }
noncomputable def Zkp (g k:Nat):HC:={ H with lots:=H.lots.set k (Yh H k++Yh H g) }
noncomputable def Zko (g k:Nat):HC:={ H with merged:=H.merged++[(k,g)] }
noncomputable def Zzx (g k:Nat):HC:=Zko (Zkp (hPar H g k) g k) g k
noncomputable def Zkq (i:Nat):HC:={ H with forest:=H.forest++[i] }
noncomputable def Zyv (l:List Nat):HC:={ H with waiting:=H.waiting++l }
end
theorem Tr.edge (R:Rep σ L H) (a b:Nat) (r:AVal):Tr σ L H (σ.put (L .edges) (.list (H.edges.map Zo9++[.tup [nA a,nA b,r]]))) L (Zo1 H a b r):=
  Tr.put' (H':=Zo1 H a b r) R .edges trivial (λ zz=>Iff.rfl) (λ fd hg zz=>@Fld.casesOn (λ fd=>fd≠.edges→cont L (Zo1 H a b r) fd=cont L H fd) fd (λ zz=>rfl) (λ zz=>rfl) (λ zz=>rfl) (λ zz=>rfl) (λ zz=>rfl) (λ zz=>rfl) (λ zz=>rfl) (λ zz=>rfl) (λ zz=>rfl) (λ zz zz=>rfl) (λ zz=>rfl) (λ q=>absurd rfl q) (λ zz=>rfl) (λ zz=>rfl) (λ zz=>rfl) (λ zz zz=>rfl) (λ zz=>rfl) (λ zz=>rfl) hg) (Z7r AObj.list (Y0 Zo9 _ (a,b,r)))
theorem Tr.par (R:Rep σ L H) (g k:Nat):Tr σ L H (σ.put (L .uab) (.list ((H.par.map nA).set g (nA k)))) L (hPar H g k):=
  Tr.put' (H':=hPar H g k) R .uab trivial (λ zz=>Iff.rfl) (λ fd hg zz=>@Fld.casesOn (λ fd=>fd≠.uab→cont L (hPar H g k) fd=cont L H fd) fd (λ zz=>rfl) (λ zz=>rfl) (λ zz=>rfl) (λ zz=>rfl) (λ zz=>rfl) (λ zz=>rfl) (λ zz=>rfl) (λ q=>absurd rfl q) (λ zz=>rfl) (λ zz zz=>rfl) (λ zz=>rfl) (λ zz=>rfl) (λ zz=>rfl) (λ zz=>rfl) (λ zz=>rfl) (λ zz zz=>rfl) (λ zz=>rfl) (λ zz=>rfl) hg) (Z7r AObj.list (List.map_set ..).symm)
theorem Tr.merged (R:Rep σ L H) (g k:Nat):Tr σ L H (σ.put (L .merged) (.list (H.merged.map Zyd++[.tup [nA k,nA g]]))) L (Zko H g k):=
  Tr.put' (H':=Zko H g k) R .merged trivial (λ zz=>Iff.rfl) (λ fd hg zz=>@Fld.casesOn (λ fd=>fd≠.merged→cont L (Zko H g k) fd=cont L H fd) fd (λ zz=>rfl) (λ zz=>rfl) (λ zz=>rfl) (λ zz=>rfl) (λ zz=>rfl) (λ zz=>rfl) (λ zz=>rfl) (λ zz=>rfl) (λ zz=>rfl) (λ zz zz=>rfl) (λ q=>absurd rfl q) (λ zz=>rfl) (λ zz=>rfl) (λ zz=>rfl) (λ zz=>rfl) (λ zz zz=>rfl) (λ zz=>rfl) (λ zz=>rfl) hg) (Z7r AObj.list (Y0 Zyd _ (k,g)))
theorem Tr.forest (R:Rep σ L H) (i:Nat):Tr σ L H (σ.put (L .forest) (.list (H.forest.map nA++[nA i]))) L (Zkq H i):=
  Tr.put' (H':=Zkq H i) R .forest trivial (λ zz=>Iff.rfl) (λ fd hg zz=>@Fld.casesOn (λ fd=>fd≠.forest→cont L (Zkq H i) fd=cont L H fd) fd (λ zz=>rfl) (λ zz=>rfl) (λ zz=>rfl) (λ zz=>rfl) (λ zz=>rfl) (λ zz=>rfl) (λ zz=>rfl) (λ zz=>rfl) (λ zz=>rfl) (λ zz zz=>rfl) (λ zz=>rfl) (λ zz=>rfl) (λ q=>absurd rfl q) (λ zz=>rfl) (λ zz=>rfl) (λ zz zz=>rfl) (λ zz=>rfl) (λ zz=>rfl) hg) (Z7r AObj.list (Y0 nA _ i))
theorem Tr.wait (R:Rep σ L H) (l:List Nat):Tr σ L H (σ.put (L .waiting) (.list (H.waiting.map nA++l.map nA))) L (Zyv H l):=
  Tr.put' (H':=Zyv H l) R .waiting trivial (λ zz=>Iff.rfl) (λ fd hg zz=>@Fld.casesOn (λ fd=>fd≠.waiting→cont L (Zyv H l) fd=cont L H fd) fd (λ zz=>rfl) (λ zz=>rfl) (λ zz=>rfl) (λ zz=>rfl) (λ zz=>rfl) (λ zz=>rfl) (λ zz=>rfl) (λ zz=>rfl) (λ zz=>rfl) (λ zz zz=>rfl) (λ zz=>rfl) (λ zz=>rfl) (λ zz=>rfl) (λ zz=>rfl) (λ zz=>rfl) (λ zz zz=>rfl) (λ q=>absurd rfl q) (λ zz=>rfl) hg) (Z7r AObj.list (List.map_append ..).symm)
theorem Zdi {k g i:Nat} {l:List Nat} (hl:k < H.lots.length):Yh { H with lots:=H.lots.set k l } i=if i=k then l else Yh H i:=by
  show ((H.lots.set k l)[i]?).getD []=_
  by_cases h:i=k
  · rw [if_pos h,h,List.getElem?_set_self hl]; rfl
  · rw [if_neg h,List.getElem?_set_ne (Ne.symm h)]; rfl
theorem Tr.lots (R:Rep σ L H) {g k:Nat} (hk:k < H.lots.length):Tr σ L H (σ.put (L (.lot k)) (.list ((Yh H k).map nA++(Yh H g).map nA))) L (Zkp H g k):=
  Tr.put' R (.lot k) hk (λ g=>by cases g <;> first | exact Iff.rfl | (show _ < (List.set ..).length↔_; rw [List.length_set]; exact Iff.rfl)) (λ f hf ha=>by
    cases f with
    | lots=>show AObj.list (Zmi L (List.set ..).length)=_; rw [List.length_set]; rfl
    | lot i=>show AObj.list ((Yh _ i).map nA)=AObj.list ((Yh H i).map nA); rw [Zkp,Zdi (g:=g) hk,if_neg λ q=>hf (by rw [q])]
    | _=>rfl) (by show _=AObj.list ((Yh _ k).map nA); rw [Zkp,Zdi (g:=g) hk,if_pos rfl,List.map_append])
end
section
variable {j:Nat} {σ:St} {H:HC} {L:Fld→Nat}
theorem Zql {n i:Nat} (h:i < n):(Zmi L n)[i]? = some (.ref (L (.lot i))):=by
  show ((List.range n).map _)[i]? = _
  rw [List.getElem?_map,List.getElem?_range h]; rfl
theorem Zwe {ν:Fm} {x y a b:Nat} {e1 e2:PE} (h1:EvE j e1 ν σ (nA x) σ) (h2:EvE j e2 ν σ (nA y) σ):EvE j (.blt "sorted" [(.lst [e1,e2])]) ν σ (.lst [nA (min x y),nA (max x y)]) σ:=by
  refine (Yl (es1 (Zan (es2 h1 h2))) (.sorted (.lst _) (is:=[(x:Int),(y:Int)]) rfl ble)).eqv ?_
  rw [Zxk]
  by_cases h:(x:Int)≤y
  · rw [if_pos h,Nat.min_eq_left (Int.ofNat_le.mp h),Nat.max_eq_right (Int.ofNat_le.mp h)]; rfl
  · have h':=Int.ofNat_le.mp (Int.le_of_lt (Int.not_le.mp h))
    rw [if_neg h,Nat.min_eq_right h',Nat.max_eq_left h']; rfl
theorem Ze3 {a b:Nat} (h:nA a=nA b):a=b:=by injection h with h; exact Int.ofNat.inj h
theorem Zie (R:Rep σ L H) (O:Core H) (S:Ye H) {a b x y:Nat} (ha:a < H.nodes.length) (hb:b < H.nodes.length) (hx:find H.par a=x) (hy:find H.par b=y):
    ExS (j+1) (.unp ["kept","gone"] (.blt "sorted" [(.lst [(.mth (.loc "self") "find" [(.loc "a")]),(.mth (.loc "self") "find" [(.loc "b")])])])) (upd (upd (upd (λ zz=>none) "self" (.ref (L .unions))) "a" (nA a)) "b" (nA b)) σ .next
      (upd (upd (upd (upd (upd (λ zz=>none) "self" (.ref (L .unions))) "a" (nA a)) "b" (nA b)) "kept" (nA (min x y))) "gone" (nA (max x y))) σ:=
  Zoh (Zwe (a:=a) (b:=b) (Yb (cl:="Unions") e_lk R.uobj (es1 e_lk) (hx▸Zfs R O S ha)) (Yb (cl:="Unions") e_lk R.uobj (es1 e_lk) (hy▸Zfs R O S hb))) (.lst (.lst _)) rfl
theorem Ztw (R:Rep σ L H) (O:Core H) (S:Ye H) {a b x y:Nat} (ha:a < H.nodes.length) (hb:b < H.nodes.length) (hx:find H.par a=x) (hy:find H.par b=y) (hne:x≠y):
    ∃ σ',CallR (j+2) "Unions.merge" [.ref (L .unions),nA a,nA b] σ (.tup [nA (min x y),nA (max x y)]) σ'∧Tr σ L H σ' L (Zzx H (max x y) (min x y)):=by
  have top:=Zie (j:=j) R O S ha hb hx hy
  have hrx:x∈H.abv.map (·.1):=hx▸O.find_abv ha
  have hry:y∈H.abv.map (·.1):=hy▸O.find_abv hb
  have hlx:x < H.nodes.length:=hx▸O.find_lt ha
  have hly:y < H.nodes.length:=hy▸O.find_lt hb
  have hlk:min x y < H.nodes.length:=Z6u (Nat.min_le_left ..) hlx
  have hlg:max x y < H.nodes.length:=Nat.max_lt.mpr ⟨hlx,hly⟩
  have hkg:min x y≠max x y:=λ q=>hne (Nat.le_antisymm (Z6p (Nat.le_max_left x y) (q▸Nat.min_le_right x y)) (Z6p (Nat.le_max_right x y) (q▸Nat.min_le_left x y)))
  have hsum:(Yh H (min x y)).length+(Yh H (max x y)).length≤H.nodes.length:=by
    by_cases h:x≤y
    · rw [Nat.min_eq_left h,Nat.max_eq_right h]; exact O.two hrx hry hne
    · have h:=Z64 (Nat.not_le.mp h); rw [Nat.min_eq_right h,Nat.max_eq_left h]; exact O.two hry hrx hne.symm
  generalize min x y=k at*
  generalize max x y=g at*
  have T1:=Tr.par R g k
  have hk1:k < (hPar H g k).lots.length:=O.ll.symm▸hlk
  have hg1:g < (hPar H g k).lots.length:=O.ll.symm▸hlg
  have T2:=Tr.lots T1.rep (g:=g) hk1
  have T3:=Tr.merged T2.rep g k
  have lot:∀ i,i < H.nodes.length→IdxR (σ.put (L .uab) (.list ((H.par.map nA).set g (nA k)))) (.ref (L .lots)) (nA i) (.ref (L (.lot i))):=λ i hi=>.lst (.ref T1.rep.lots) (Zql (O.ll.symm▸hi)) (by show (List.map ..).length≤_; exact Zf (List.length_range▸O.ll.symm▸le63 S.n))
  refine ⟨_,Zg Zbf rfl (Zb top (Zb (Zn (Zo e_lk e_lk ((CmpR.eq (.int 0 k g) ble).eqv (dF λ q=>hkg (Ze3 q)))))
    (Zb (Zt9 e_lk (Zs e_lk R.uobj) e_lk (.list R.uab (Zyk (O.lp.symm▸hlg)) (Zf (O.lp63 S)))) (Zb (Qa (Qt (Ys (Zs e_lk T1.rep.uobj) e_lk (lot k hlk)) (.extend (T1.rep.lot hk1)) (es1 (Ys (Zs e_lk T1.rep.uobj) e_lk (lot g hlg)))
      (.extend (T1.rep.lot hk1) (T1.rep.lot hg1) (T1.rep.ne hg1 hk1 λ q=>by injection q with q; exact hkg q.symm) (by rw [Z68,Z68]; exact Z6p hsum (le63 S.n)))))
    (Zb (Qa (Qt (Zs e_lk T2.rep.uobj) (.append T2.rep.merged) (es1 (Yq (es2 e_lk e_lk))) (.append T2.rep.merged (Zf (Z6p (Nat.le_of_add_right_le (Z62 O.count)) (le63 S.n))))))
      (Z0 ((Yq (es2 e_lk e_lk))))))))),(T1.trans T2).trans T3⟩
theorem Zly (R:Rep σ L H) (O:Core H) (S:Ye H) {a b x:Nat} (ha:a < H.nodes.length) (hb:b < H.nodes.length) (hx:find H.par a=x) (hy:find H.par b=x):
    CallR (j+2) "Unions.merge" [.ref (L .unions),nA a,nA b] σ .none σ:=
  Zg Zbf rfl (Zb (Zie R O S ha hb hx hy) (Ql (Za4 (Zo e_lk e_lk ((CmpR.eq (.int 0 (min x x:Nat) (max x x:Nat)) ble).eqv (dT (by rw [Nat.min_self,Nat.max_self])))) (Zaz Ze))))
end
end PL
end
section
open PySem
namespace PL
section
variable {β:Type}
noncomputable def delK (g:Nat) (l:List (Nat×β)):List (Nat×β):=l.filter λ p=>p.1 != g
noncomputable def repK (k:Nat) (b:β) (l:List (Nat×β)):List (Nat×β):=l.map λ p=>if p.1=k then (k,b) else p
variable {l:List (Nat×β)} {g k c:Nat} {b:β}
theorem Zrd {v:β}:delK g ((g,v)::l)=delK g l:=List.filter_cons_of_neg (by rw [bne_self_eq_false]; exact Z7w)
theorem Znl {p:Nat×β} (h:p.1≠g):delK g (p::l)=p::delK g l:=List.filter_cons_of_pos (bne_iff_ne.mpr h)
theorem Zj7 {v:β}:repK k b ((k,v)::l)=(k,b)::repK k b l:=by show (if k=k then (k,b) else (k,v))::_=_; rw [if_pos rfl]; rfl
theorem Zge {p:Nat×β} (h:p.1≠k):repK k b (p::l)=p::repK k b l:=by show (if p.1=k then (k,b) else p)::_=_; rw [if_neg h]; rfl
theorem Z1 {p:Nat×β} (h:p.1≠c):(p::l).lookup c=l.lookup c:=by rw [List.lookup_cons,Z7v.mpr (Ne.symm h)]
theorem Qq {v:β}:((c,v)::l).lookup c=some v:=by rw [List.lookup_cons,Z7x]
theorem Zc2 (h:c≠g):∀ l:List (Nat×β),(delK g l).lookup c=l.lookup c
  | []=>rfl
  | (a,v)::l=>by
    by_cases ha:a=g
    · rw [ha,Zrd,Zc2 h l,Z1 λ q=>h q.symm]
    · rw [Znl ha]
      by_cases hc:a=c
      · rw [hc,Qq,Qq]
      · rw [Z1 hc,Z1 hc,Zc2 h l]
theorem Y6 (h:c≠k):∀ l:List (Nat×β),(repK k b l).lookup c=l.lookup c
  | []=>rfl
  | (a,v)::l=>by
    by_cases ha:a=k
    · rw [ha,Zj7,Z1 λ q=>h q.symm,Z1 λ q=>h q.symm,Y6 h l]
    · rw [Zge ha]
      by_cases hc:a=c
      · rw [hc,Qq,Qq]
      · rw [Z1 hc,Z1 hc,Y6 h l]
theorem Zag:∀ l:List (Nat×β),k∈l.map (·.1)→(repK k b l).lookup k=some b
  | (a,v)::l,h=>by
    by_cases ha:a=k
    · rw [ha,Zj7,Qq]
    · rw [Zge ha,Z1 ha]; exact Zag l ((Z7a.mp h).resolve_left λ q=>ha q.symm)
theorem Jf:(repK k b l).map (·.1)=l.map (·.1):=by
  rw [repK,List.map_map]
  refine List.map_congr_left λ p zz=>?_
  show (if p.1=k then (k,b) else p).1=p.1
  by_cases h:p.1=k
  · rw [if_pos h,h]
  · rw [if_neg h]
theorem Zhn:c∈(delK g l).map (·.1)↔c∈l.map (·.1)∧c≠g:=
  ⟨λ h=>(Z7b.mp h).elim λ p q=>⟨Z7b.mpr ⟨p,(List.mem_filter.mp q.1).1,q.2⟩,q.2▸bne_iff_ne.mp (List.mem_filter.mp q.1).2⟩,
    λ h=>(Z7b.mp h.1).elim λ p q=>Z7b.mpr ⟨p,List.mem_filter.mpr ⟨q.1,bne_iff_ne.mpr (q.2▸h.2)⟩,q.2⟩⟩
theorem Zu8 (h:c∈l.map (·.1)) (hn:(l.map (·.1)).Nodup):∃ v,(c,v)∈l∧l.lookup c=some v:=by
  induction l with
  | nil=>exact nomatch h
  | cons p l ih=>
    by_cases hc:p.1=c
    · exact ⟨p.2,hc▸Z66,by rw [← hc]; exact Qq⟩
    · obtain ⟨v,h1,h2⟩:=ih ((Z7a.mp h).resolve_left λ q=>hc q.symm) (Z7y.mp hn).2
      exact ⟨v,Z67 _ h1,(Z1 hc).trans h2⟩
end
noncomputable def J4 (L:Fld→Nat) (k n:Nat) (f:Fld):Nat:=@Fld.casesOn (λ zz=>Nat) f (L .h) (L .bank) (L .unions) (L .nodes) (L .numbers) (L .weights) (L .depths) (L .uab) (L .lots) (λ i=>L (.lot i)) (L .merged) (L .edges) (L .forest) (L .known) (L .hab) (λ c=>if c=k then n else L (.abv c)) (L .waiting) (L .rows)
section
variable {σ σ':St} {L L':Fld→Nat} {H H':HC} {k n c g:Nat}
theorem Zaf:J4 L k n (.abv k)=n:=if_pos rfl
theorem Zel (h:c≠k):J4 L k n (.abv c)=L (.abv c):=if_neg h
theorem Zl2 {f:Fld}:f≠.abv k→J4 L k n f=L f:=@Fld.casesOn (λ f=>f≠.abv k→J4 L k n f=L f) f (λ zz=>rfl) (λ zz=>rfl) (λ zz=>rfl) (λ zz=>rfl) (λ zz=>rfl) (λ zz=>rfl) (λ zz=>rfl) (λ zz=>rfl) (λ zz=>rfl) (λ zz zz=>rfl) (λ zz=>rfl) (λ zz=>rfl) (λ zz=>rfl) (λ zz=>rfl) (λ zz=>rfl) (λ c h=>Zel λ q=>h (by rw [q])) (λ zz=>rfl) (λ zz=>rfl)
theorem Tr.gen (R:Rep σ L H) (f0:Fld) (h1:L' f0=σ.n) (h2:∀ f,f≠f0→L' f=L f) (htop:Fld.h≠f0) (hn:σ'.n=σ.n+1) (hact:∀ f,f≠f0→act H' f→act H f) (h0:σ'.f σ.n=some (cont L' H' f0))
    (hv:∀ f,f≠f0→act H' f→act H f→σ'.f (L f)=some (cont L' H' f)) (hfr:∀ id,id < σ.n→(∀ f,act H f→L f≠id)→σ'.f id=σ.f id):Tr σ L H σ' L' H' where
  rep:=⟨λ f g hf hg e=>by
    by_cases q1:f=f0
    · by_cases q2:g=f0
      · rw [q1,q2]
      · rw [q1,h1,h2 g q2] at e; exact absurd e.symm (Nat.ne_of_lt (R.lt g (hact g q2 hg)))
    · by_cases q2:g=f0
      · rw [q2,h1,h2 f q1] at e; exact absurd e (Nat.ne_of_lt (R.lt f (hact f q1 hf)))
      · rw [h2 f q1,h2 g q2] at e; exact R.inj f g (hact f q1 hf) (hact g q2 hg) e,
   λ f hf=>by
    rw [hn]
    by_cases q:f=f0
    · rw [q,h1]; exact Z6z _
    · rw [h2 f q]; exact Nat.lt_succ_of_lt (R.lt f (hact f q hf)),
   λ f hf=>by
    by_cases q:f=f0
    · rw [q,h1]; exact h0
    · rw [h2 f q]; exact hv f q hf (hact f q hf)⟩
  n:=hn▸Nat.le_succ _
  fr:=hfr
  ids f hf:=by
    by_cases q:f=f0
    · exact .inr (q▸h1▸Z6q _)
    · exact .inl ⟨f,hact f q hf,h2 f q⟩
  top:=h2 _ htop
theorem Qv {l:List (Nat×List Nat)}:Zdn (abvD L l) (nA c):=⟨rfl,λ e he=>(Z7b.mp he).elim λ p q=>q.2▸rfl⟩
theorem Zfv {e:AVal×AVal} {es:List (AVal×AVal)} {k:AVal} (h:e.1=k):kget (e::es) k=some e.2:=by show Option.map _ (List.find? _ _)=_; rw [List.find?_cons_of_pos (p:=λ e:AVal×AVal=>decide (e.1=k)) (dT h)]; rfl
theorem Zdm {e:AVal×AVal} {es:List (AVal×AVal)} {k:AVal} (h:e.1≠k):kget (e::es) k=kget es k:=by show Option.map _ (List.find? _ _)=_; rw [List.find?_cons_of_neg (p:=λ e:AVal×AVal=>decide (e.1=k)) (by rw [dF h]; exact Z7w)]; rfl
theorem Zar:∀ {l:List (Nat×List Nat)},c∈l.map (·.1)→kget (abvD L l) (nA c)=some (.ref (L (.abv c)))
  | p::l,h=>by
    by_cases hc:p.1=c
    · rw [← hc]; exact Zfv rfl
    · exact (Zdm λ q=>hc (Ze3 q)).trans (Zar ((Z7a.mp h).resolve_left λ q=>hc q.symm))
theorem Zsd {a b:Nat} (h:a≠b):nA a≠nA b:=λ q=>h (Ze3 q)
theorem Zri {l:List (Nat×List Nat)}:kdel (abvD L l) (nA g)=abvD L (delK g l):=by
  rw [kdel,abvD,List.filter_map]
  refine Z7r (List.map _) (List.filter_congr λ p zz=>?_)
  show (!decide (nA p.1=nA g))=(p.1 != g)
  by_cases h:p.1=g
  · rw [h,nT rfl,bne_self_eq_false]
  · rw [nF (Zsd h),bne_iff_ne.mpr h]
theorem Zzr {l:List (Nat×List Nat)} {b:List Nat} (h:k∈l.map (·.1)):kset (abvD L l) (nA k) (.ref n)=abvD (J4 L k n) (repK k b l):=by
  rw [kset,if_pos (by rw [Zar h]; rfl),abvD,abvD,repK,List.map_map,List.map_map]
  refine List.map_congr_left λ p zz=>?_
  show (if nA p.1=nA k then (nA p.1,AVal.ref n) else (nA p.1,.ref (L (.abv p.1))))=(nA (if p.1=k then (k,b) else p).1,AVal.ref (J4 L k n (.abv (if p.1=k then (k,b) else p).1)))
  by_cases q:p.1=k
  · rw [if_pos q,if_pos (by rw [q]),Zaf,q]
  · rw [if_neg q,if_neg (Zsd q),Zel q]
noncomputable def hAbv (H:HC) (g k:Nat):HC:={ H with abv:=repK k (Z2 H k++Z2 H g) (delK g H.abv) }
theorem Zgr:c∈(hAbv H g k).abv.map (·.1)↔c∈H.abv.map (·.1)∧c≠g:=by show c∈(repK ..).map (·.1)↔_; rw [Jf]; exact Zhn
theorem Zy0 (hc:c≠g) (hk:c≠k):Z2 (hAbv H g k) c=Z2 H c:=Z7r (λ o:Option (List Nat)=>o.getD []) ((Y6 hk _).trans (Zc2 hc H.abv))
theorem Zvn (hk:k∈H.abv.map (·.1)) (hne:k≠g):Z2 (hAbv H g k) k=Z2 H k++Z2 H g:=Z7r (λ o:Option (List Nat)=>o.getD []) (Zag _ (Zhn.mpr ⟨hk,hne⟩))
theorem Tr.abv (R:Rep σ L H) (hk:k∈H.abv.map (·.1)) (hne:k≠g):
    Tr σ L H (((σ.put (L .hab) (.dict (kdel (abvD L H.abv) (nA g)))).new (.list ((Z2 H k).map nA++(Z2 H g).map nA))).put (L .hab) (.dict (kset (kdel (abvD L H.abv) (nA g)) (nA k) (.ref σ.n)))) (J4 L k σ.n) (hAbv H g k):=by
  rw [Zri,Zzr (b:=Z2 H k++Z2 H g) (Zhn.mpr ⟨hk,hne⟩)]
  have hhab:L .hab < σ.n:=R.lt .hab trivial
  refine Tr.gen R (.abv k) Zaf (λ f=>Zl2) (λ q=>nomatch q) rfl (λ f=>@Fld.casesOn (λ f=>f≠.abv k→act (hAbv H g k) f→act H f) f (λ zz h=>h) (λ zz h=>h) (λ zz h=>h) (λ zz h=>h) (λ zz h=>h) (λ zz h=>h) (λ zz h=>h) (λ zz h=>h) (λ zz h=>h) (λ zz zz h=>h) (λ zz h=>h) (λ zz h=>h) (λ zz h=>h) (λ zz h=>h) (λ zz h=>h) (λ c zz h=>(Zgr.mp h).1) (λ zz h=>h) (λ zz h=>h)) ?_ (λ f q hf' hf=>?_) λ id h1 h2=>?_
  · rw [Zw (Nat.ne_of_gt hhab)]
    refine (Yz ..).trans ?_
    show _=some (AObj.list ((Z2 (hAbv H g k) k).map nA))
    rw [Zvn hk hne,List.map_append]
  · by_cases e:f=.hab
    · rw [e]; exact Yk ..
    · have ne:L f≠L .hab:=λ z=>e (R.inj f .hab hf trivial z)
      refine (Zw ne).trans ((Y3 (σ:=σ.put _ _) (R.lt f hf)).trans ((Zw ne).trans ((R.val f hf).trans (Z7r some ?_))))
      clear ne hf
      revert q hf' e
      exact @Fld.casesOn (λ f=>f≠.abv k→act (hAbv H g k) f→f≠.hab→cont L H f=cont (J4 L k σ.n) (hAbv H g k) f) f (λ zz zz zz=>rfl) (λ zz zz zz=>rfl) (λ zz zz zz=>rfl) (λ zz zz zz=>rfl) (λ zz zz zz=>rfl) (λ zz zz zz=>rfl) (λ zz zz zz=>rfl) (λ zz zz zz=>rfl) (λ zz zz zz=>rfl) (λ zz zz zz zz=>rfl) (λ zz zz zz=>rfl) (λ zz zz zz=>rfl) (λ zz zz zz=>rfl) (λ zz zz zz=>rfl) (λ zz zz q=>absurd rfl q)
        (λ c q h zz=>Z7r (λ u=>AObj.list (List.map nA u)) (Zy0 (Zgr.mp h).2 λ z=>q (by rw [z])).symm) (λ zz zz zz=>rfl) (λ zz zz zz=>rfl)
  · have ne:id≠L .hab:=λ z=>h2 .hab trivial z.symm
    exact (Zw ne).trans ((Y3 (σ:=σ.put _ _) h1).trans (Zw ne))
end
end PL
end
section
open PySem
namespace PL
section
variable {j:Nat} {σ σ':St} {L:Fld→Nat} {H H':HC}
structure Room (H:HC):Prop where
  e:H.edges.length≤15000
  w:H.waiting.length≤15000
  f:H.forest.length≤15000
theorem le15 {n:Nat} (h:n≤15000):n≤16000:=Z6p h ble
theorem Core.edge (O:Core H) (a b:Nat) (r:AVal):Core (Zo1 H a b r):=⟨O.lw,O.ld,O.lp,O.ll,O.down,O.kids,O.nodup,O.roots,O.abvnd,O.abvlt,O.waitlt,O.knownlt,O.count,O.sum,O.lotlt,O.lotsum⟩
noncomputable def Zmr (H:HC) (a b:Nat) (r:AVal) (g k:Nat):HC:=⟨H.nodes,H.weights,H.depths,H.par.set g k,H.lots.set k (Yh H k++Yh H g),H.merged++[(k,g)],H.edges++[(a,b,r)],H.forest++[H.edges.length],H.known,repK k (Z2 H k++Z2 H g) (delK g H.abv),H.waiting++Z2 H g,H.rows⟩
theorem Zyy (H:HC) (a b:Nat) (r:AVal) (g k:Nat):hAbv (Zyv (Zkq (Zzx (Zo1 H a b r) g k) H.edges.length) (Z2 H g)) g k=Zmr H a b r g k:=rfl
theorem Core.use_le (O:Core H) (c:Nat):(Z2 H c).length≤2*H.nodes.length:=by
  unfold Z2
  cases e:H.abv.lookup c with
  | none=>exact Z63 _
  | some l=>exact Z6p (Zf1 (f:=λ p:Nat×List Nat=>p.2.length) (Ze4 e)) O.sum
theorem Zpr (O:Core H) (S:Ye H) (c:Nat):(Z2 H c).length≤126:=Z6p (O.use_le c) (Nat.mul_le_mul_left 2 S.n)
theorem Z2m (O:Core H) (S:Ye H):H.abv.length≤16000:=Z6p (O.count▸Z6s _ _) (le63 S.n)
theorem Core.minmax (O:Core H) {a b x y:Nat} (ha:a < H.nodes.length) (hb:b < H.nodes.length) (hx:find H.par a=x) (hy:find H.par b=y) (hne:x≠y):min x y∈H.abv.map (·.1)∧max x y∈H.abv.map (·.1)∧min x y < max x y:=by
  have hrx:x∈H.abv.map (·.1):=hx▸O.find_abv ha
  have hry:y∈H.abv.map (·.1):=hy▸O.find_abv hb
  by_cases h:x≤y
  · rw [Nat.min_eq_left h,Nat.max_eq_right h]; exact ⟨hrx,hry,Nat.lt_of_le_of_ne h hne⟩
  · have h':=Nat.not_le.mp h; rw [Nat.min_eq_right (Z64 h'),Nat.max_eq_left (Z64 h')]; exact ⟨hry,hrx,h'⟩
theorem Zwk {ν:Fm} {r:AVal} {a b:Nat} (R:Rep σ L H) (B:Room H) (hs:ν "self"=some (.ref (L .h))) (ha:ν "a"=some (nA a)) (hb:ν "b"=some (nA b)) (hr:ν "reason"=some r):
    ExS j (.exp (.mth (.att (.loc "self") "edges") "append" [(.tup [(.loc "a"),(.loc "b"),(.loc "reason")])])) ν σ .next ν (σ.put (L .edges) (.list (H.edges.map Zo9++[.tup [nA a,nA b,r]]))):=
  Qa (Qt (Zs (Zc hs) R.hobj) (.append R.edges) (es1 (Yq (es3 (Zc ha) (Zc hb) (Zc hr)))) (.append R.edges (Zf (le15 B.e))))
theorem Z5t {σ:St} {i k:Nat} {o o' v:AObj} (hl:i < σ.n) (hne:i≠k) (h:σ.f i=some v):((σ.put k o).new o').f i=some v:=(Y3 (σ:=σ.put k o) hl).trans ((Zw hne).trans h)
theorem Z3k {σ:St} {k:Nat} {o o':AObj} (hl:k < σ.n):((σ.put k o).new o').f k=some o:=(Y3 (σ:=σ.put k o) hl).trans (Yk ..)
theorem Zt2 (R:Rep σ L H) (O:Core H) (S:Ye H) (B:Room H) {a b x y:Nat} {r:AVal} (ha:a < H.nodes.length) (hb:b < H.nodes.length) (hx:find H.par a=x) (hy:find H.par b=y) (hne:x≠y):
    ∃ σ' L',CallR (j+3) "Heap.join" [.ref (L .h),nA a,nA b,r] σ (.bool true) σ'∧Tr σ L H σ' L' (Zmr H a b r (max x y) (min x y)):=by
  have T1:=Tr.edge R a b r
  obtain ⟨σ2,hm,T2⟩:=Ztw (j:=j) T1.rep (O.edge a b r) ⟨S.n,S.r⟩ ha hb hx hy hne
  obtain ⟨hk,hg,hlt⟩:=O.minmax ha hb hx hy hne
  generalize min x y=k at*
  generalize max x y=g at*
  have T3:=Tr.forest T2.rep H.edges.length
  have T4:=Tr.wait T3.rep (Z2 H g)
  have T5:=Tr.abv (g:=g) T4.rep hk (Nat.ne_of_lt hlt)
  refine ⟨_,_,?_,Zyy H a b r g k▸(((T1.trans T2).trans T3).trans T4).trans T5⟩
  refine Zg Ze7 rfl (Zb (Zwk R B (by kernel_rfl) (by kernel_rfl) (by kernel_rfl) (by kernel_rfl)) (Zb (Yr (Yb (Zs e_lk T1.rep.hobj) T1.rep.uobj (es2 e_lk e_lk) hm))
    (Zb (Zn (Zo e_lk Ze (.isT [nA k,nA g]))) (Zb (Zoh e_lk (.tup [nA k,nA g]) rfl) ?_))))
  refine Zb (Qa (Qt (Zs e_lk T2.rep.hobj) (.append T2.rep.forest) (es1 ((Qi (Yl (es1 (Zs e_lk T2.rep.hobj)) (.len (.lst (.ref T2.rep.edges)) (Zf ?_))) Ze (.subI _ 1)).eqv (w:=nA H.edges.length) ?_)) (.append T2.rep.forest (Zf (le15 B.f))))) ?_
  · show (H.edges++[_]).length≤_
    rw [Z69]; exact Z6p (Z6x B.e _) ble
  · rw [Z68]
    show AVal.int (((H.edges++[(a,b,r)]).length:Nat)-1)=_
    rw [Z69,List.length_singleton]
    exact Z7r AVal.int (Int.add_sub_cancel (H.edges.length:Int) 1)
  have gw:L (.abv g)≠L .waiting:=T3.rep.ne hg trivial λ q=>nomatch q
  refine Zb (Qa (Qt (Zs e_lk T3.rep.hobj) (.extend T3.rep.waiting) (es1 (Ys (Zs e_lk T3.rep.hobj) e_lk (.dict T3.rep.hab Qv (Zar hg)))) (.extend T3.rep.waiting (T3.rep.abv hg) gw
    (by rw [Z68,Z68]; exact Z6p (Nat.add_le_add B.w (Zpr O S g)) ble)))) ?_
  have kab:L (.abv k)≠L .hab:=T4.rep.ne hk trivial λ q=>nomatch q
  have gab:L (.abv g)≠L .hab:=T4.rep.ne hg trivial λ q=>nomatch q
  have hab:L .h≠L .hab:=T4.rep.ne trivial trivial λ q=>nomatch q
  refine Zb (Zt9 (Z6e (Ys (Zs e_lk T4.rep.hobj) e_lk (.dict T4.rep.hab Qv (Zar hk)))
    (Qt (Zs e_lk T4.rep.hobj) (.dpop T4.rep.hab) (es1 e_lk) (.dpop T4.rep.hab Qv rfl (Zf (l:=H.abv) (Z2m O S)) (Zar hg)))
    (.ref ((Zw kab).trans (T4.rep.abv hk))) (.ref ((Zw gab).trans (T4.rep.abv hg))) (by rw [Z68,Z68]; exact Z6p (Nat.add_le_add (Zpr O S k) (Zpr O S g)) ble))
    (Zs e_lk (Z5t (T4.rep.lt .h trivial) hab T4.rep.hobj)) e_lk
    (.dict (k:=nA k) (Z3k (T4.rep.lt .hab trivial)) (by rw [Zri]; exact Qv) (Z6p (List.length_filter_le _ _) (Zf (l:=H.abv) (Z2m O S))))) (Z0 (Ze))
theorem Zrx (R:Rep σ L H) (O:Core H) (S:Ye H) (B:Room H) {a b x:Nat} {r:AVal} (ha:a < H.nodes.length) (hb:b < H.nodes.length) (hx:find H.par a=x) (hy:find H.par b=x):
    ∃ σ',CallR (j+3) "Heap.join" [.ref (L .h),nA a,nA b,r] σ (.bool false) σ'∧Tr σ L H σ' L (Zo1 H a b r):=
  have T1:=Tr.edge R a b r
  ⟨_,Zg Ze7 rfl (Zb (Zwk R B (by kernel_rfl) (by kernel_rfl) (by kernel_rfl) (by kernel_rfl)) (Zb (Yr (Yb (Zs e_lk T1.rep.hobj) T1.rep.uobj (es2 e_lk e_lk) (Zly T1.rep (O.edge a b r) ⟨S.n,S.r⟩ ha hb hx hy)))
    (Ql (Za4 (Zo e_lk Ze .isN) (Zaz Ze))))),T1⟩
end
end PL
end
section
open PySem
namespace PL
section
variable {β:Type} {F F':Nat×β→Nat} {b v:β} {l:List (Nat×β)} {g k:Nat}
theorem Zgm {p:Nat×β} (h:p∈l):p.1∈l.map (·.1):=List.mem_map_of_mem h
theorem Zu7 {q p:Nat×β} (h1:q.1 ∉ l.map (·.1)) (hp:p∈l):p.1≠q.1:=λ e=>h1 (by rw [← e]; exact Zgm hp)
theorem Zzi (h:g ∉ l.map (·.1)):delK g l=l:=List.filter_eq_self.mpr λ r hr=>bne_iff_ne.mpr λ q=>h (by rw [← q]; exact Zgm hr)
theorem Zx5 (h:k ∉ l.map (·.1)):repK k b l=l:=by
  refine (List.map_congr_left (g:=id) λ r hr=>?_).trans (List.map_id _)
  show (if r.1=k then (k,b) else r)=r
  rw [if_neg λ q:r.1=k=>h (by rw [← q]; exact Zgm hr)]
theorem Zjv:∀ {l:List (Nat×β)},(l.map (·.1)).Nodup→(g,v)∈l→((delK g l).map F).sum+F (g,v)=(l.map F).sum
  | q::l,hn,h=>by
    obtain ⟨h1,h2⟩:=Z7y.mp hn
    rw [Z7e,List.sum_cons]
    rcases Z7a.mp h with rfl | h
    · rw [Zrd,Zzi h1,Nat.add_comm]
    · rw [Znl (Zu7 h1 h).symm,Z7e,List.sum_cons,Z60,Zjv h2 h]
theorem Z1n (hF:∀ q∈l,F' q=F q):(l.map F').sum=(l.map F).sum:=by rw [List.map_congr_left hF]
theorem Zju:∀ {l:List (Nat×β)},(l.map (·.1)).Nodup→(k,v)∈l→(∀ q∈l,q.1≠k→F' q=F q)→((repK k b l).map F').sum+F (k,v)=(l.map F).sum+F' (k,b)
  | q::l,hn,h,hF=>by
    obtain ⟨h1,h2⟩:=Z7y.mp hn
    rw [Z7e,List.sum_cons]
    rcases Z7a.mp h with rfl | h
    · rw [Zj7,Zx5 h1,Z7e,List.sum_cons,Z1n λ q hq=>hF q (Z67 _ hq) (Zu7 h1 hq),Nat.add_right_comm,Nat.add_comm (F' _),Nat.add_right_comm]
    · have ne:q.1≠k:=(Zu7 h1 h).symm
      rw [Zge ne,Z7e,List.sum_cons,hF q Z66 ne,Z60,Z60,Zju h2 h λ r hr=>hF r (Z67 _ hr)]
theorem Zuq (h:(l.map (·.1)).Nodup):((delK g l).map (·.1)).Nodup:=List.Nodup.sublist (List.Sublist.map _ List.filter_sublist) h
end
theorem Zpv {α:Type} (l:List α):(l.map λ zz=>1).sum=l.length:=by rw [List.map_const',List.sum_replicate_nat,Nat.mul_one]
section
variable {H:HC} {a b g k:Nat} {r:AVal}
theorem Zki (O:Core H) {i n:Nat} (h:n∈Yh H i):n < H.nodes.length:=by
  unfold Yh at h
  cases e:H.lots[i]? with
  | none=>rw [e] at h; exact nomatch h
  | some l=>rw [e] at h; exact O.lotlt l (Z7z e) n h
theorem Zfq (O:Core H) {c n:Nat} (h:n∈Z2 H c):n < H.nodes.length:=by
  unfold Z2 at h
  cases e:H.abv.lookup c with
  | none=>rw [e] at h; exact nomatch h
  | some l=>rw [e] at h; exact O.abvlt _ (Ze4 e) n h
theorem Core.join (O:Core H) (hg:g∈H.abv.map (·.1)) (hk:k∈H.abv.map (·.1)) (hlt:k < g):Core (Zmr H a b r g k):=by
  obtain ⟨vg,g1,g2⟩:=Zu8 hg O.abvnd
  obtain ⟨vk,k1,k2⟩:=Zu8 hk O.abvnd
  have hne:=Nat.ne_of_lt hlt
  have ug:Z2 H g=vg:=Z7r (λ o:Option (List Nat)=>o.getD []) g2
  have uk:Z2 H k=vk:=Z7r (λ o:Option (List Nat)=>o.getD []) k2
  have hgl:g < H.par.length:=Zfm ((O.roots g).mp hg)
  have hkl:k < H.lots.length:=by rw [O.ll,← O.lp]; exact Zfm ((O.roots k).mp hk)
  have hkd:(k,vk)∈delK g H.abv:=List.mem_filter.mpr ⟨k1,bne_iff_ne.mpr hne⟩
  have hnd:=Zuq (g:=g) O.abvnd
  exact
    { lw:=O.lw,ld:=O.ld,kids:=O.kids,nodup:=O.nodup,knownlt:=O.knownlt
      lp:=(List.length_set ..).trans O.lp
      ll:=(List.length_set ..).trans O.ll
      down:=λ i p hp=>by
        rw [show (Zmr H a b r g k).par=H.par.set g k from rfl,List.getElem?_set] at hp
        by_cases e:g=i
        · rw [if_pos e,if_pos hgl] at hp; exact e▸Z7g hp▸Z64 hlt
        · rw [if_neg e] at hp; exact O.down i p hp
      roots:=λ c=>by
        rw [show (Zmr H a b r g k).par=H.par.set g k from rfl,List.getElem?_set]
        refine (Zgr (H:=H)).trans ?_
        by_cases e:g=c
        · rw [if_pos e,if_pos hgl]; exact ⟨λ h=>absurd e.symm h.2,λ h=>absurd (Z7g h) (e▸hne)⟩
        · rw [if_neg e]; exact ⟨λ h=>(O.roots c).mp h.1,λ h=>⟨(O.roots c).mpr h,Ne.symm e⟩⟩
      abvnd:=by show ((repK ..).map (·.1)).Nodup; rw [Jf]; exact hnd
      abvlt:=λ p hp n hn=>by
        obtain ⟨q,hq,rfl⟩:=Z7b.mp hp
        by_cases e:q.1=k
        · rw [if_pos e] at hn
          exact (List.mem_append.mp hn).elim (λ h=>Zfq (H:=H) O h) λ h=>Zfq (H:=H) O h
        · rw [if_neg e] at hn; exact O.abvlt q (List.mem_filter.mp hq).1 n hn
      waitlt:=λ n hn=>(List.mem_append.mp hn).elim (O.waitlt n) λ h=>Zfq O h
      count:=by
        show (H.merged++[(k,g)]).length+(repK ..).length=_
        have:=Zjv (F:=λ zz=>1) O.abvnd g1
        rw [Zpv,Zpv] at this
        rw [repK,Z68,Z69,List.length_singleton,Z60,Nat.add_comm 1]
        exact (Z7r _ this).trans O.count
      sum:=by
        show ((repK k (Z2 H k++Z2 H g) (delK g H.abv)).map λ p=>p.2.length).sum≤_
        have h1:=Zjv (F:=λ p:Nat×List Nat=>p.2.length) O.abvnd g1
        have h2:=Zju (F:=λ p:Nat×List Nat=>p.2.length) (F':=λ p:Nat×List Nat=>p.2.length) (b:=Z2 H k++Z2 H g) hnd hkd (λ q zz zz=>rfl)
        rw [Z69,ug,uk,Nat.add_comm vk.length,← Z60,h1] at h2
        rw [ug,uk,Nat.add_right_cancel h2]
        exact O.sum
      lotlt:=λ l hl n hn=>(List.mem_or_eq_of_mem_set hl).elim (λ h=>O.lotlt l h n hn) λ h=>by
        rw [h] at hn
        exact (List.mem_append.mp hn).elim (λ h=>Zki (H:=H) O h) λ h=>Zki (H:=H) O h
      lotsum:=by
        show ((repK k (Z2 H k++Z2 H g) (delK g H.abv)).map λ p=>(Yh (Zkp H g k) p.1).length).sum=_
        have h1:=Zjv (F:=λ p:Nat×List Nat=>(Yh H p.1).length) O.abvnd g1
        have h2:=Zju (F:=λ p:Nat×List Nat=>(Yh H p.1).length) (F':=λ p:Nat×List Nat=>(Yh (Zkp H g k) p.1).length) (b:=Z2 H k++Z2 H g) hnd hkd
          (λ q zz hq=>by rw [Zkp,Zdi (g:=g) hkl,if_neg hq])
        have h3:(Yh (Zkp H g k) k).length=(Yh H g).length+(Yh H k).length:=by rw [Zkp,Zdi (g:=g) hkl,if_pos rfl,Z69,Nat.add_comm]
        rw [h3,← Z60,h1] at h2
        exact (Nat.add_right_cancel h2).trans O.lotsum }
end
end PL
end
section
open PySem
namespace PL
noncomputable def tbM (m:Nat):SetTable:=⟨m,#[],#[],0,true,0,true⟩
noncomputable def adv (m:Nat) (p:SetTable.Probe):SetTable.Probe:=(tbM m).advance p
noncomputable def rs (m:Nat) (x:Nat×Nat):SetTable.Probe:=⟨x.1,SetTable.runEnd m x.1-x.1,x.1,x.2,none⟩
noncomputable def lp0 (m:Nat) (h:Int):Nat×Nat:=(SetTable.bits h % (m+1),SetTable.bits h)
noncomputable def stp (m:Nat) (p:SetTable.Probe) (n:Nat):SetTable.Probe:=@Nat.rec (λ zz=>SetTable.Probe) p (λ zz q=>adv m q) n
noncomputable def lps (m:Nat) (x:Nat×Nat) (n:Nat):Nat×Nat:=@Nat.rec (λ zz=>Nat×Nat) x (λ zz y=>SetTable.leap m y.1 y.2) n
theorem Zjw (m:Nat) (p:SetTable.Probe) (a:Nat):∀ b,stp m p (a+b)=stp m (stp m p a) b
  | 0=>rfl
  | b+1=>Z7r (adv m) (Zjw m p a b)
theorem Zor (m:Nat) (x:Nat×Nat) (a:Nat):∀ b,lps m x (a+b)=lps m (lps m x a) b
  | 0=>rfl
  | b+1=>Z7r (λ y:Nat×Nat=>SetTable.leap m y.1 y.2) (Zor m x a b)
theorem Zqk (m:Nat) (x:Nat×Nat) (a:Nat):lps m x (a+1)=lps m (SetTable.leap m x.1 x.2) a:=(Z7r (lps m x) (Nat.add_comm a 1)).trans (Zor m x 1 a)
theorem Z2j (m j k i q:Nat):adv m ⟨j,k+1,i,q,none⟩=⟨j+1,k,i,q,none⟩:=by
  unfold adv SetTable.advance
  rw [if_pos (Nat.succ_pos k)]; rfl
theorem Zzp (m j i q:Nat):adv m ⟨j,0,i,q,none⟩=rs m (SetTable.leap m i q):=by
  unfold adv SetTable.advance
  rw [if_neg (Nat.lt_irrefl 0)]; rfl
theorem Zn2 (m i q:Nat):∀ (d j k:Nat),stp m ⟨j,d+k,i,q,none⟩ d=⟨j+d,k,i,q,none⟩
  | 0,j,k=>by rw [Nat.zero_add]; rfl
  | d+1,j,k=>by
    show adv m (stp m ⟨j,d+1+k,i,q,none⟩ d)=_
    rw [Z60 d 1 k,Nat.add_comm 1 k,Zn2 m i q d j (k+1),Z2j]; rfl
theorem Zzz (m:Nat) (x:Nat×Nat):stp m (rs m x) (SetTable.runEnd m x.1-x.1+1)=rs m (SetTable.leap m x.1 x.2):=by
  show adv m (stp m ⟨x.1,SetTable.runEnd m x.1-x.1+0,x.1,x.2,none⟩ (SetTable.runEnd m x.1-x.1))=_
  rw [Zn2,Zzp]
theorem Z3g (m i:Nat):SetTable.runEnd m i-i≤9:=by
  unfold SetTable.runEnd
  split <;> lia
theorem Z3h (m i:Nat):i≤SetTable.runEnd m i:=by
  unfold SetTable.runEnd
  split <;> lia
theorem Ztp (m:Nat):∀ (k:Nat) (x:Nat×Nat),∃ n,n≤10*k∧stp m (rs m x) n=rs m (lps m x k)
  | 0,x=>⟨0,Z63 _,rfl⟩
  | k+1,x=>by
    obtain ⟨n,h1,h2⟩:=Ztp m k (SetTable.leap m x.1 x.2)
    have:=Z3g m x.1
    exact ⟨SetTable.runEnd m x.1-x.1+1+n,by lia,by rw [Zjw,Zzz,h2,Zqk]⟩
def Zae (m:Nat):Prop:=m=7∨m=31∨m=127
noncomputable def it (m i k:Nat):Nat:=@Nat.rec (λ zz=>Nat) i (λ zz y=>(y*5+1) % (m+1)) k
noncomputable def orb (m:Nat):Nat→List Nat
  | 0=>[0]
  | k+1=>@List.casesOn Nat (λ zz=>List Nat) (orb m k) [] λ y l=>((y*5+1) % (m+1))::y::l
theorem Zui (m:Nat):∀ k,∃ l,orb m k=it m 0 k::l∧∀ c∈it m 0 k::l,∃ b,b≤k∧it m 0 b=c
  | 0=>⟨[],rfl,λ c hc=>⟨0,Z6q _,(Z7c.mp hc).symm⟩⟩
  | k+1=>by
    obtain ⟨l,h1,h2⟩:=Zui m k
    refine ⟨it m 0 k::l,by unfold orb; rw [h1]; rfl,λ c hc=>?_⟩
    rcases Z7a.mp hc with rfl | hc
    · exact ⟨k+1,Z6q _,rfl⟩
    · exact (h2 c hc).elim λ b hb=>⟨b,Nat.le_succ_of_le hb.1,hb.2⟩
theorem Zqw (m i a:Nat):∀ b,it m i (a+b)=it m (it m i a) b
  | 0=>rfl
  | b+1=>Z7r (λ y=>(y*5+1) % (m+1)) (Zqw m i a b)
noncomputable def Z3n (m:Nat):Bool:=(List.range (m+1)).all ((orb m m).contains ·)&&((orb m (m+1)).head? == some 0)
theorem Z09 {m:Nat} (h:Zae m):Z3n m=true:=by
  rcases h with rfl | rfl | rfl <;> kernel_rfl
theorem Zyr {m:Nat} (h:Zae m) {i c:Nat} (hi:i≤m) (hc:c≤m):∃ k,k≤m+1∧it m i k=c:=by
  have ho:=Z09 h
  unfold Z3n at ho
  obtain ⟨h1,h2⟩:=Bool.and_eq_true_iff.mp ho
  have hm:∀ x,x≤m→∃ b,b≤m∧it m 0 b=x:=λ x hx=>by
    obtain ⟨l,e1,e2⟩:=Zui m m
    exact e2 x (e1▸List.contains_iff_mem.mp (List.all_eq_true.mp h1 x (List.mem_range.mpr (Nat.lt_succ_of_le hx))))
  have h0:it m 0 (m+1)=0:=by
    obtain ⟨l,e1,e2⟩:=Zui m (m+1)
    rw [e1] at h2
    exact Z7g (Z7u h2)
  obtain ⟨a,ha,rfl⟩:=hm i hi
  obtain ⟨b,hb,rfl⟩:=hm c hc
  by_cases hab:a≤b
  · exact ⟨b-a,by lia,by rw [← Zqw,Nat.add_sub_of_le hab]⟩
  · refine ⟨m+1-a+b,by lia,?_⟩
    rw [Zqw,← Zqw m 0 a,show a+(m+1-a)=m+1 by lia,h0]
theorem Z4b (m:Nat) (x:Nat×Nat):∀ n,(lps m x n).2=x.2 / 32 ^ n
  | 0=>by rw [Nat.pow_zero,Nat.div_one]; rfl
  | n+1=>by
    show (lps m x n).2 / 32=_
    rw [Z4b m x n,Nat.div_div_eq_div_mul,Nat.pow_succ]
theorem Zqj (m i:Nat):∀ n,lps m (i,0) n=(it m i n,0)
  | 0=>rfl
  | n+1=>by
    show SetTable.leap m (lps m (i,0) n).1 (lps m (i,0) n).2=_
    rw [Zqj m i n]; unfold SetTable.leap; rw [Nat.zero_div,Nat.add_zero]; rfl
theorem Z4c (m:Nat) (x:Nat×Nat) (n:Nat):(lps m x (n+1)).1≤m:=Z65 (Nat.mod_lt _ (Nat.succ_pos m))
theorem Z2e (h:Int):SetTable.bits h < 2 ^ 64:=by unfold SetTable.bits; lia
theorem Z4y {m:Nat} (hm:Zae m) (h:Int) {c:Nat} (hc:c≤m):∃ k,k < SetTable.turns m∧(lps m (lp0 m h) k).1=c:=by
  have h0:(lps m (lp0 m h) 13).2=0:=(Z4b m _ 13).trans (Nat.div_eq_of_lt (Nat.lt_trans (Z2e h) (by decide)))
  obtain ⟨k,hk,e⟩:=Zyr hm (i:=(lps m (lp0 m h) 13).1) (Z4c m _ 12) hc
  refine ⟨13+k,by unfold SetTable.turns; lia,?_⟩
  have:lps m (lp0 m h) 13=((lps m (lp0 m h) 13).1,0):=by rw [← h0]
  rw [Zor,this,Zqj]; exact e
theorem J5 {α:Type} [DecidableEq α]:∀ {l m:List α},l.Nodup→(∀ x∈l,x∈m)→l.length≤m.length
  | [],m,_,_=>Z63 _
  | a::l,m,h,hs=>by
    have ha:a∈m:=hs a Z66
    have ih:=J5 (l:=l) (m:=m.erase a) (Z7y.mp h).2 λ x hx=>
      have hne:x≠a:=λ e=>(Z7y.mp h).1 (e▸hx)
      (List.mem_erase_of_ne hne).mpr (hs x (Z67 _ hx))
    rw [List.length_erase_of_mem ha] at ih
    have:=List.length_pos_of_mem ha
    rw [Z7f]; lia
theorem hole {S:List Nat} {m:Nat} (h:S.length≤m):∃ c,c≤m∧c ∉ S:=Classical.byContradiction λ q=>by
  have:=J5 (m:=S) (List.nodup_range (n:=m+1)) λ x hx=>Classical.byContradiction λ hn=>q ⟨x,Z65 (List.mem_range.mp hx),hn⟩
  rw [List.length_range] at this
  lia
structure J2 (m:Nat) (h:Int) (S:Nat→Prop) (n:Nat):Prop where
  lt:n < 10*SetTable.turns m
  free:¬ S (stp m (rs m (lp0 m h)) n).j
  taken:∀ k,k < n→S (stp m (rs m (lp0 m h)) k).j
theorem Z4d {P:Nat→Prop}:∀ n,P n→∃ k,k≤n∧P k∧∀ i,i < k→¬ P i
  | 0,h=>⟨0,Z6q _,h,λ zz h=>nomatch h⟩
  | n+1,h=>Classical.byCases (λ q:∃ i,i≤n∧P i=>q.elim λ i hi=>let ⟨k,h1,h2⟩:=Z4d i hi.2; ⟨k,by lia,h2⟩) λ q=>⟨n+1,Z6q _,h,λ i hi hp=>q ⟨i,Z65 hi,hp⟩⟩
theorem Zy4 {m:Nat} {h:Int} {S:Nat→Prop} {n:Nat} (hn:n < 10*SetTable.turns m) (hf:¬ S (stp m (rs m (lp0 m h)) n).j):∃ k,k≤n∧J2 m h S k:=by
  obtain ⟨k,h1,h2,h3⟩:=Z4d (P:=λ n=>¬ S (stp m (rs m (lp0 m h)) n).j) n hf
  exact ⟨k,h1,Z6u h1 hn,h2,λ i hi=>Classical.not_not.mp (h3 i hi)⟩
theorem first {m:Nat} (hm:Zae m) (h:Int) {S:List Nat} (hS:S.length≤m):∃ n,J2 m h (·∈S) n:=by
  obtain ⟨c,hc,hn⟩:=hole hS
  obtain ⟨k,hk,e⟩:=Z4y hm h hc
  obtain ⟨n,h1,h2⟩:=Ztp m k (lp0 m h)
  obtain ⟨k,zz,hk⟩:=Zy4 (m:=m) (h:=h) (S:=(·∈S)) (n:=n) (by lia) (by rw [h2]; show (lps m (lp0 m h) k).1 ∉ S; rwa [e])
  exact ⟨k,hk⟩
end PL
end
section
open PySem
namespace PL
abbrev Rise (xs:Array Nat):Prop:=xs.toList.Pairwise (· < ·)
theorem Rise.lt {xs:Array Nat} (h:Rise xs) {i k a b:Nat} (hi:xs[i]? = some a) (hk:xs[k]? = some b) (hik:i < k):a < b:=by
  rw [← Z7i] at hi hk
  obtain ⟨h1,e1⟩:=Z7m.mp hi
  obtain ⟨h2,e2⟩:=Z7m.mp hk
  exact e1▸e2▸List.pairwise_iff_getElem.mp h i k h1 h2 hik
theorem Zle {xs:Array Nat} {j:Nat} (hr:Rise xs):∀ (fuel lo hi:Nat),lo≤hi→hi≤xs.size→hi-lo≤fuel→(∀ i a,i < lo→xs[i]? = some a→a < j)→(∀ i a,hi≤i→xs[i]? = some a→j≤a)→
    SetTable.below.go xs j fuel lo hi≤xs.size∧(∀ i a,i < SetTable.below.go xs j fuel lo hi→xs[i]? = some a→a < j)∧∀ i a,SetTable.below.go xs j fuel lo hi≤i→xs[i]? = some a→j≤a
  | 0,lo,hi,h1,h2,h3,h4,h5=>by
    have:lo=hi:=by lia
    subst this
    exact ⟨h2,h4,h5⟩
  | fuel+1,lo,hi,h1,h2,h3,h4,h5=>by
    by_cases hlt:lo < hi
    · have hm:(lo+hi) / 2 < xs.size:=by lia
      have hx:xs[(lo+hi) / 2]? = some (xs.getD ((lo+hi) / 2) j):=by rw [Array.getD_eq_getD_getElem?,Z7j hm]; rfl
      have eq:SetTable.below.go xs j (fuel+1) lo hi=if xs.getD ((lo+hi) / 2) j < j then SetTable.below.go xs j fuel ((lo+hi) / 2+1) hi else SetTable.below.go xs j fuel lo ((lo+hi) / 2):=if_pos hlt
      rw [eq]
      by_cases hd:xs.getD ((lo+hi) / 2) j < j
      · rw [if_pos hd]
        refine Zle hr fuel ((lo+hi) / 2+1) hi (by lia) h2 (by lia) (λ i a hq ha=>?_) h5
        by_cases e:i=(lo+hi) / 2
        · subst e; rw [hx] at ha; exact Z7g ha▸hd
        · exact Nat.lt_trans (hr.lt ha hx (by lia)) hd
      · rw [if_neg hd]
        refine Zle hr fuel lo ((lo+hi) / 2) (by lia) (by lia) (by lia) h4 λ i a hq ha=>?_
        by_cases e:i=(lo+hi) / 2
        · subst e; rw [hx] at ha; exact Z7g ha▸Nat.not_lt.mp hd
        · exact Z6p (Nat.not_lt.mp hd) (Z64 (hr.lt hx ha (by lia)))
    · have eq:SetTable.below.go xs j (fuel+1) lo hi=lo:=if_neg hlt
      have:lo=hi:=by lia
      subst this
      rw [eq]
      exact ⟨h2,h4,h5⟩
theorem Zfw {xs:Array Nat} (hr:Rise xs) (j:Nat):SetTable.below xs j≤xs.size∧(∀ i a,i < SetTable.below xs j→xs[i]? = some a→a < j)∧∀ i a,SetTable.below xs j≤i→xs[i]? = some a→j≤a:=
  Zle hr xs.size 0 xs.size (Z63 _) (Z6q _) (Z6q _) (λ zz zz h=>nomatch h) λ i a h e=>absurd (Array.getElem?_eq_some_iff.mp e).1 (Nat.not_lt.mpr h)
theorem Zea {xs:Array Nat} (hr:Rise xs) {i j:Nat} (h:xs[i]? = some j):SetTable.below xs j=i:=by
  obtain ⟨h1,h2,h3⟩:=Zfw hr j
  refine Nat.le_antisymm (Nat.not_lt.mp λ q=>Nat.lt_irrefl _ (h2 i j q h)) (Nat.not_lt.mp λ q=>?_)
  have hl:=(Array.getElem?_eq_some_iff.mp h).1
  have hx:xs[SetTable.below xs j]? = some _:=Z7j (Nat.lt_trans q hl)
  exact Nat.lt_irrefl _ (Z6t (hr.lt hx h q) (h3 _ _ (Z6q _) hx))
theorem Zuu {α:Type} {xs:Array α} {j:α}:j∈xs.toList↔∃ i:Nat,xs[i]? = some j:=by
  rw [List.mem_iff_getElem?]
  exact ⟨λ ⟨i,h⟩=>⟨i,Z7i▸h⟩,λ ⟨i,h⟩=>⟨i,Z7i.symm▸h⟩⟩
def RP (m:Nat) (S:List Nat) (h:Int) (j:Nat):Prop:=∃ n,(stp m (rs m (lp0 m h)) n).j=j∧∀ k,k < n→(stp m (rs m (lp0 m h)) k).j∈S
theorem RP.mono {m:Nat} {S S':List Nat} {h:Int} {j:Nat} (x:RP m S h j) (hs:∀ c∈S,c∈S'):RP m S' h j:=x.elim λ n hn=>⟨n,hn.1,λ k hk=>hs _ (hn.2 k hk)⟩
structure TabR (t:SetTable) (es:Array (Int×Value)):Prop where
  mask:Zae t.mask
  dum:t.dummies=#[]
  len:t.place.size=es.size
  few:es.size≤t.mask
  rise:Rise t.place
  reach:∀ x∈t.place.toList.zip es.toList,RP t.mask t.place.toList x.2.1 x.1
variable {t:SetTable} {es:Array (Int×Value)}
theorem TabR.live (T:TabR t es) {i j:Nat} (h:t.place[i]? = some j):t.slot j=.live i:=by
  unfold SetTable.slot
  rw [Zea T.rise h]
  dsimp only
  rw [h,Z7x,if_pos rfl]
theorem TabR.empty (T:TabR t es) {j:Nat} (h:j ∉ t.place.toList):t.slot j=.empty:=by
  unfold SetTable.slot
  rw [T.dum]
  dsimp only
  rw [if_neg λ q=>h (Zuu.mpr ⟨_,Z7u q⟩)]
  rfl
theorem TabR.fits (T:TabR t es):t.fits es.size=true:=by
  unfold SetTable.fits SetTable.fill
  rw [T.dum,T.len,Z7x]
  exact Z7s T.few
theorem TabR.first (T:TabR t es) (h:Int):∃ n,J2 t.mask h (·∈t.place.toList) n:=PL.first T.mask h (by rw [Z7k,T.len]; exact T.few)
noncomputable abbrev pth (t:SetTable) (h:Int) (n:Nat):SetTable.Probe:=stp t.mask (rs t.mask (lp0 t.mask h)) n
theorem Zw3 (m:Nat) (p:SetTable.Probe):(adv m p).dummy=p.dummy:=by
  unfold adv SetTable.advance
  split <;> rfl
theorem Zlv (m:Nat) (x:Nat×Nat):∀ n,(stp m (rs m x) n).dummy=none
  | 0=>rfl
  | n+1=>(Zw3 m _).trans (Zlv m x n)
theorem TabR.probe_go (T:TabR t es) (f:Nat→Int) {h g:Int} {F:Nat} (hF:J2 t.mask h (·∈t.place.toList) F):∀ (d n fuel:Nat),n+d=F→d < fuel→
    (SetTable.probe.go t f g fuel (pth t h n)=some (.empty (pth t h F).j none)∧∀ k i,n≤k→k < F→t.place[i]? = some (pth t h k).j→(f i==g)=false)∨
    ∃ k i,n≤k∧k < F∧t.place[i]? = some (pth t h k).j∧(f i==g)=true∧SetTable.probe.go t f g fuel (pth t h n)=some (.candidate (pth t h k).j i (pth t h (k+1)))∧∀ k' i',n≤k'→k' < k→t.place[i']? = some (pth t h k').j→(f i'==g)=false
  | 0,n,fuel+1,hn,hf=>by
    obtain rfl:n=F:=hn
    refine .inl ⟨?_,λ k i h1 h2=>absurd h2 (Nat.not_lt.mpr h1)⟩
    unfold SetTable.probe.go
    rw [T.empty hF.free]
    dsimp only
    rw [Zlv]
  | d+1,n,fuel+1,hn,hf=>by
    have hnF:n < F:=by lia
    obtain ⟨i,hi⟩:=Zuu.mp (hF.taken n hnF)
    unfold SetTable.probe.go
    rw [T.live hi]
    dsimp only
    by_cases e:(f i==g)=true
    · rw [if_pos e]
      exact .inr ⟨n,i,Z6q _,hnF,hi,e,rfl,λ k' i' h1 h2=>absurd h2 (Nat.not_lt.mpr h1)⟩
    · rw [if_neg e]
      have hu:∀ i',t.place[i']? = some (pth t h n).j→(f i'==g)=false:=λ i' hi'=>by
        have:=(Zea T.rise hi').symm.trans (Zea T.rise hi)
        subst this
        exact (Bool.not_eq_true _).mp e
      rcases T.probe_go f hF d (n+1) fuel (by lia) (by lia) with ⟨h1,h2⟩ | ⟨k,i',h1,h2,h3,h4,h5,h6⟩
      · refine .inl ⟨h1,λ k i' g1 g2 g3=>?_⟩
        rcases Nat.eq_or_lt_of_le g1 with rfl | g1
        · exact hu i' g3
        · exact h2 k i' g1 g2 g3
      · refine .inr ⟨k,i',Z61 h1,h2,h3,h4,h5,λ k' i'' g1 g2 g3=>?_⟩
        rcases Nat.eq_or_lt_of_le g1 with rfl | g1
        · exact hu i'' g3
        · exact h6 k' i'' g1 g2 g3
theorem Z0q {α β:Type} {as:List α} {bs:List β} (h:as.length=bs.length) (p:Nat) (a:α) (b:β):(as.take p++a::as.drop p).zip (bs.take p++b::bs.drop p)=(as.zip bs).take p++(a,b)::(as.zip bs).drop p:=by
  rw [List.zip_append (by rw [List.length_take,List.length_take,h]),List.zip_cons_cons,List.zip_eq_zipWith,List.zip_eq_zipWith,List.zip_eq_zipWith,List.take_zipWith,List.drop_zipWith]
theorem TabR.put (T:TabR t es) {h:Int} {x:Value} {n:Nat} (hF:J2 t.mask h (·∈t.place.toList) n) (hm:es.size+1≤t.mask):
    TabR (t.put (pth t h n).j).1 (SetTable.insertAt es (t.put (pth t h n).j).2 (h,x))∧(t.put (pth t h n).j).1.mask=t.mask:=by
  obtain ⟨b1,b2,b3⟩:=Zfw T.rise (pth t h n).j
  unfold SetTable.put
  generalize hp:SetTable.below t.place (pth t h n).j=p at b1 b2 b3
  generalize hj:(pth t h n).j=j at b1 b2 b3
  have hno:j ∉ t.place.toList:=hj▸hF.free
  have hmem:∀ c,c∈t.place.toList→c∈(SetTable.insertAt t.place p j).toList:=λ c hc=>by
    rw [SetTable.toList_insertAt]
    rw [← List.take_append_drop p t.place.toList] at hc
    rcases List.mem_append.mp hc with hc | hc
    · exact List.mem_append_left _ hc
    · exact List.mem_append_right _ (Z67 _ hc)
  have hd:SetTable.has t.dummies j=false:=by rw [T.dum]; rfl
  have hl:t.place.toList.length=es.toList.length:=by rw [Z7k,Z7k,T.len]
  dsimp only
  rw [hd,if_neg (λ q=>nomatch q)]
  refine ⟨⟨T.mask,T.dum,?_,?_,?_,?_⟩,rfl⟩
  · rw [← Z7k,← Z7k,(SetTable.insertAt_perm ..).length_eq,(SetTable.insertAt_perm ..).length_eq,Z7k,Z7k,Array.size_push,Array.size_push,T.len]
  · rw [← Z7k,(SetTable.insertAt_perm ..).length_eq,Z7k,Array.size_push]; exact hm
  · show List.Pairwise _ (SetTable.insertAt t.place p j).toList
    rw [SetTable.toList_insertAt]
    have hr:=T.rise
    unfold Rise at hr
    rw [← List.take_append_drop p t.place.toList] at hr
    obtain ⟨r1,r2,r3⟩:=List.pairwise_append.mp hr
    have hlo:∀ a∈t.place.toList.take p,a < j:=λ a ha=>by
      obtain ⟨i,hi⟩:=List.mem_iff_getElem?.mp ha
      rw [List.getElem?_take] at hi
      split at hi
      · exact b2 i a ‹_› (Z7i▸hi)
      · exact nomatch hi
    refine List.pairwise_append.mpr ⟨r1,List.pairwise_cons.mpr ⟨λ b hb=>?_,r2⟩,λ a ha b hb=>?_⟩
    · obtain ⟨i,hi⟩:=List.mem_iff_getElem?.mp hb
      rw [List.getElem?_drop] at hi
      exact Nat.lt_of_le_of_ne (b3 (p+i) b (Z6r _ _) (Z7i▸hi)) λ e=>hno (e▸List.mem_of_mem_drop hb)
    · rcases Z7a.mp hb with rfl | hb
      · exact hlo a ha
      · exact r3 a ha b hb
  · show ∀ x∈(SetTable.insertAt t.place p j).toList.zip _,_
    rw [SetTable.toList_insertAt es,SetTable.toList_insertAt t.place,Z0q hl]
    intro y hy
    rw [← SetTable.toList_insertAt]
    have:y∈t.place.toList.zip es.toList∨y=(j,(h,x)):=by
      rcases List.mem_append.mp hy with hy | hy
      · exact .inl (List.mem_of_mem_take hy)
      · exact (Z7a.mp hy).symm.imp List.mem_of_mem_drop id
    rcases this with hy | rfl
    · exact (T.reach y hy).mono hmem
    · exact ⟨n,hj,λ k hk=>hmem _ (hF.taken k hk)⟩
end PL
end
section
open PySem
namespace PL
theorem Z5c {m:Nat} {p:SetTable.Probe} (h:p.j+p.more≤m):(adv m p).j+(adv m p).more≤m:=by
  unfold adv SetTable.advance
  split
  · show p.j+1+(p.more-1)≤m; lia
  · show (SetTable.leap m p.i p.perturb).1+(SetTable.runEnd m (SetTable.leap m p.i p.perturb).1-(SetTable.leap m p.i p.perturb).1)≤m
    have h1:(SetTable.leap m p.i p.perturb).1≤m:=Z65 (Nat.mod_lt _ (Nat.succ_pos m))
    generalize (SetTable.leap m p.i p.perturb).1=i at h1
    unfold SetTable.runEnd
    split <;> lia
theorem Zz2 (m:Nat) (h:Int) (n:Nat):(stp m (rs m (lp0 m h)) n).j≤m:=by
  have:∀ n,(stp m (rs m (lp0 m h)) n).j+(stp m (rs m (lp0 m h)) n).more≤m:=λ n=>by
    induction n with
    | zero=>
      have h1:(lp0 m h).1≤m:=Z65 (Nat.mod_lt _ (Nat.succ_pos m))
      show (lp0 m h).1+(SetTable.runEnd m (lp0 m h).1-(lp0 m h).1)≤m
      generalize (lp0 m h).1=i at h1
      unfold SetTable.runEnd
      split <;> lia
    | succ n ih=>exact Z5c ih
  exact Z6p (Z6r _ _) (this n)
abbrev Zcc (own:Array (Option Nat)) (c:Nat):Prop:=(own.getD c (some 0)).isNone=false
theorem Zmv {m:Nat} {own:Array (Option Nat)} {p:SetTable.Probe}:∀ (fuel:Nat) (x:Nat×Nat) (n:Nat),stp m p n=rs m x→(∀ i,i < n→Zcc own (stp m p i).j)→(∃ k,k < fuel∧¬ Zcc own (lps m x k).1)→
    ∃ n',SetTable.layClean.free m own fuel x.1 x.2=some (stp m p n').j∧¬ Zcc own (stp m p n').j∧∀ i,i < n'→Zcc own (stp m p i).j
  | 0,x,n,h1,h2,h3=>h3.elim λ k hk=>nomatch hk.1
  | fuel+1,x,n,h1,h2,h3=>by
    have hrun:∀ d,d≤SetTable.runEnd m x.1-x.1→(stp m p (n+d)).j=x.1+d:=λ d hd=>by
      rw [Zjw,h1]
      show (stp m ⟨x.1,SetTable.runEnd m x.1-x.1,x.1,x.2,none⟩ d).j=_
      rw [← Nat.add_sub_of_le hd,Zn2]
    have hge:=Z3h m x.1
    have hrt:∀ d,d≤SetTable.runEnd m x.1-x.1→(∀ e,e < d→Zcc own (x.1+e))→∀ i,i < n+d→Zcc own (stp m p i).j:=λ d hd he i hi=>by
      by_cases q:i < n
      · exact h2 i q
      · have:=he (i-n) (by lia)
        rw [← hrun (i-n) (by lia),show n+(i-n)=i by lia] at this
        exact this
    unfold SetTable.layClean.free
    cases hf:(List.range (SetTable.runEnd m x.1+1-x.1)).find? λ k=>(own.getD (x.1+k) (some 0)).isNone with
    | some k=>
      obtain ⟨g1,g2,g3⟩:=List.find?_range_eq_some.mp hf
      have hk:k≤SetTable.runEnd m x.1-x.1:=by have:=List.mem_range.mp g2; lia
      refine ⟨n+k,Z7r some (hrun k hk).symm,λ q=>?_,hrt k hk λ e he=>?_⟩
      · rw [hrun k hk] at q; unfold Zcc at q; rw [g1] at q; exact nomatch q
      · have:=g3 e he; simpa using this
    | none=>
      have hall:∀ e,e≤SetTable.runEnd m x.1-x.1→Zcc own (x.1+e):=λ e he=>by
        have:=List.find?_eq_none.mp hf e (List.mem_range.mpr (by lia))
        exact (Bool.not_eq_true _).mp this
      obtain ⟨k,hk,hn⟩:=h3
      have hk0:k≠0:=λ e=>hn (e▸hall 0 (Z63 _))
      obtain ⟨k,rfl⟩:=Nat.exists_eq_succ_of_ne_zero hk0
      rw [Nat.succ_eq_add_one,Zqk] at hn
      refine Zmv fuel (SetTable.leap m x.1 x.2) (n+(SetTable.runEnd m x.1-x.1+1)) (by rw [Zjw,h1,Zzz]) (λ i hi=>?_) ⟨k,by lia,hn⟩
      by_cases q:i < n+(SetTable.runEnd m x.1-x.1)
      · exact hrt _ (Z6q _) (λ e he=>hall e (Z64 he)) i q
      · obtain rfl:i=n+(SetTable.runEnd m x.1-x.1):=by lia
        rw [hrun _ (Z6q _)]; exact hall _ (Z6q _)
noncomputable def Qz (m:Nat) (own:Array (Option Nat)):List (Nat×Nat):=(List.range (m+1)).filterMap λ j=>(own.getD j none).map (j,·)
theorem Zbb {m:Nat} {own:Array (Option Nat)} (hs:own.size=m+1) {j i:Nat}:(j,i)∈Qz m own↔own[j]? = some (some i):=by
  unfold Qz
  rw [List.mem_filterMap]
  constructor
  · rintro ⟨c,hc,e⟩
    obtain ⟨k,hk,e⟩:=Z7h.mp e
    cases e
    have hl:j < own.size:=by rw [hs]; exact List.mem_range.mp hc
    rw [Array.getD_eq_getD_getElem?,Z7j hl] at hk
    rw [Z7j hl]; exact Z7r some hk
  · intro e
    have hl:=(Array.getElem?_eq_some_iff.mp e).1
    exact ⟨j,List.mem_range.mpr (hs▸hl),by rw [Array.getD_eq_getD_getElem?,e]; rfl⟩
theorem Zen (m:Nat) (own:Array (Option Nat)):((Qz m own).map (·.1)).Pairwise (· < ·):=by
  refine List.pairwise_map.mpr (List.pairwise_filterMap.mpr (List.pairwise_lt_range.imp λ h b hb b' hb'=>?_))
  obtain ⟨k,zz,rfl⟩:=Z7h.mp hb
  obtain ⟨k',zz,rfl⟩:=Z7h.mp hb'
  exact h
theorem Ziq {l:List Nat} (h:l.Pairwise (· < ·)):l.Nodup:=h.imp λ h=>Nat.ne_of_lt h
theorem Zmd {α β:Type} {l:List (α×β)} (h:(l.map (·.1)).Nodup):l.Nodup:=(List.pairwise_map.mp h).imp λ h e=>h (Z7r _ e)
structure LC (m:Nat) (hs:List Int) (own:Array (Option Nat)):Prop where
  size:own.size=m+1
  perm:((Qz m own).map (·.2)).Perm (List.range hs.length)
  reach:∀ x∈Qz m own,∀ h,hs[x.2]? = some h→RP m ((Qz m own).map (·.1)) h x.1
theorem Zei {m:Nat} {own:Array (Option Nat)} (hs:own.size=m+1) {c:Nat} (hc:c≤m):Zcc own c↔c∈(Qz m own).map (·.1):=by
  have hl:c < own.size:=by rw [hs]; exact Nat.lt_succ_of_le hc
  unfold Zcc
  rw [Array.getD_eq_getD_getElem?,Z7b]
  constructor
  · intro h
    rw [Z7j hl] at h
    cases e:own[c] with
    | none=>rw [Option.getD_some,e] at h; exact nomatch h
    | some i=>exact ⟨(c,i),(Zbb hs).mpr (by rw [Z7j hl,e]),rfl⟩
  · rintro ⟨⟨c',i⟩,h,rfl⟩
    rw [(Zbb hs).mp h]; rfl
theorem LC.step {m:Nat} {hs:List Int} {own:Array (Option Nat)} (C:LC m hs own) (hm:Zae m) (hl:hs.length≤m) (h:Int):
    ∃ j,SetTable.layClean.free m own (SetTable.turns m) (SetTable.bits h % (m+1)) (SetTable.bits h)=some j∧LC m (hs++[h]) (own.setIfInBounds j (some hs.length)):=by
  have hlen:((Qz m own).map (·.1)).length=hs.length:=by rw [Z68,← Z68 (f:=(·.2)),C.perm.length_eq,List.length_range]
  obtain ⟨c,hc,hn⟩:=hole (S:=(Qz m own).map (·.1)) (m:=m) (by rw [hlen]; exact hl)
  obtain ⟨k,hk,e⟩:=Z4y hm h hc
  obtain ⟨n,f1,f2,f3⟩:=Zmv (m:=m) (own:=own) (p:=rs m (lp0 m h)) (SetTable.turns m) (lp0 m h) 0 rfl (λ i hi=>nomatch hi) ⟨k,hk,λ q=>hn ((Zei C.size hc).mp (e▸q))⟩
  have hle:=Zz2 m h n
  have hfree:(stp m (rs m (lp0 m h)) n).j ∉ (Qz m own).map (·.1):=λ q=>f2 ((Zei C.size hle).mpr q)
  have htk:∀ i,i < n→(stp m (rs m (lp0 m h)) i).j∈(Qz m own).map (·.1):=λ i hi=>(Zei C.size (Zz2 m h i)).mp (f3 i hi)
  refine ⟨_,f1,?_⟩
  generalize hj:(stp m (rs m (lp0 m h)) n).j=j at hle hfree
  have hs':(own.setIfInBounds j (some hs.length)).size=m+1:=by rw [Array.size_setIfInBounds,C.size]
  have hp:(Qz m (own.setIfInBounds j (some hs.length))).Perm ((j,hs.length)::Qz m own):=by
    refine (List.perm_ext_iff_of_nodup (Zmd (Ziq (Zen m _))) (Z7y.mpr ⟨λ q=>hfree (Z7b.mpr ⟨_,q,rfl⟩),Zmd (Ziq (Zen m own))⟩)).mpr λ x=>?_
    obtain ⟨a,i⟩:=x
    rw [Zbb hs',Z7a,Zbb C.size,Array.getElem?_setIfInBounds]
    by_cases q:j=a
    · subst q
      rw [if_pos rfl,if_pos (by rw [C.size]; exact Nat.lt_succ_of_le hle)]
      constructor
      · intro e; cases e; exact .inl rfl
      · rintro (e | e)
        · cases e; rfl
        · exact absurd (Z7b.mpr ⟨_,(Zbb C.size).mpr e,rfl⟩) hfree
    · rw [if_neg q]
      exact ⟨.inr,λ h=>h.elim (λ e=>absurd (Z7r Prod.fst e).symm q) id⟩
  refine ⟨hs',?_,λ x hx g hg=>?_⟩
  · rw [Z69,List.length_singleton,List.range_succ]
    exact (hp.map _).trans ((C.perm.cons _).trans (List.perm_append_singleton _ _).symm)
  · have hsub:∀ c∈(Qz m own).map (·.1),c∈(Qz m (own.setIfInBounds j (some hs.length))).map (·.1):=λ c hc=>(hp.map (·.1)).mem_iff.mpr (Z67 _ hc)
    rcases Z7a.mp (hp.mem_iff.mp hx) with rfl | hx
    · rw [List.getElem?_append_right (Z6q _),Nat.sub_self] at hg
      cases hg
      exact ⟨n,hj,λ k hk=>hsub _ (htk k hk)⟩
    · have hi:x.2 < hs.length:=List.mem_range.mp (C.perm.mem_iff.mp (Z7b.mpr ⟨x,hx,rfl⟩))
      rw [List.getElem?_append_left hi] at hg
      exact (C.reach x hx g hg).mono hsub
end PL
end
section
open PySem
namespace PL
theorem Zgl (m:Nat):Qz m (Array.replicate (m+1) none)=[]:=by
  refine List.filterMap_eq_nil_iff.mpr λ j hj=>?_
  rw [Array.getD_eq_getD_getElem?,Array.getElem?_replicate]
  split <;> rfl
theorem LC.nil (m:Nat):LC m [] (Array.replicate (m+1) none):=
  ⟨Array.size_replicate,by rw [Zgl]; exact .nil,λ x hx=>by rw [Zgl] at hx; exact nomatch hx⟩
noncomputable def Zot (m:Nat) (acc:Option (Array (Option Nat)×Nat)) (h:Int):Option (Array (Option Nat)×Nat):=do
  let (owner,k) ← acc
  let j ← SetTable.layClean.free m owner (SetTable.turns m) (SetTable.bits h % (m+1)) (SetTable.bits h)
  pure (owner.setIfInBounds j (some k),k+1)
theorem Zqq {m:Nat} (hm:Zae m):∀ (l hs:List Int) (own:Array (Option Nat)),LC m hs own→(hs++l).length≤m+1→
    ∃ own',l.foldl (Zot m) (some (own,hs.length))=some (own',(hs++l).length)∧LC m (hs++l) own'
  | [],hs,own,C,h=>⟨own,by rw [List.append_nil]; rfl,by rw [List.append_nil]; exact C⟩
  | a::l,hs,own,C,h=>by
    rw [Z69,Z7f] at h
    obtain ⟨j,h1,h2⟩:=C.step hm (by lia) a
    obtain ⟨own',h3,h4⟩:=Zqq hm l (hs++[a]) _ h2 (by rw [Z69,Z69,List.length_singleton]; lia)
    refine ⟨own',?_,by rw [Z7d] at h4; exact h4⟩
    rw [Z7d,Z69 (as:=hs) (bs:=[a])] at h3
    have hst:Zot m (some (own,hs.length)) a=some (own.setIfInBounds j (some hs.length),hs.length+1):=by
      unfold Zot
      show (SetTable.layClean.free m own _ _ _ >>= _)=_
      rw [h1]; rfl
    rw [List.foldl_cons,hst]
    exact h3
theorem Zou {m:Nat} (hm:Zae m) {hs:Array Int} (h:hs.size≤m+1):∃ own,SetTable.layClean m hs=some own∧LC m hs.toList own:=by
  obtain ⟨own,h1,h2⟩:=Zqq hm hs.toList [] _ (LC.nil m) (by rw [List.nil_append,Z7k]; exact h)
  refine ⟨own,?_,h2⟩
  unfold SetTable.layClean
  rw [← Array.foldl_toList]
  exact Z7r (Option.map (·.1)) h1
theorem Ze9 {α:Type} {es:Array α}:∀ {l:List (Nat×Nat)},(∀ x∈l,x.2 < es.size)→((l.map (·.1)).zip ((l.map (·.2)).filterMap (es[·]?)))=l.filterMap (λ x=>(es[x.2]?).map (x.1,·))∧((l.map (·.2)).filterMap (es[·]?)).length=l.length
  | [],_=>⟨rfl,rfl⟩
  | a::l,h=>by
    obtain ⟨h1,h2⟩:=Ze9 (l:=l) λ x hx=>h x (Z67 _ hx)
    have hl:a.2 < es.size:=h a Z66
    have ha:es[a.2]? = some es[a.2]:=Z7j hl
    rw [Z7e,Z7e,List.filterMap_cons_some (b:=es[a.2]) ha,List.filterMap_cons_some (b:=(a.1,es[a.2])) (by rw [ha]; rfl),List.zip_cons_cons,h1,Z7f,Z7f,h2]
    exact ⟨rfl,rfl⟩
theorem Z1p {m:Nat} (hm:Zae m) {es:Array (Int×Value)} (h:es.size≤m) (finger moves:Nat) (led plain:Bool):∃ t' order,SetTable.laid m finger moves led plain (es.map (·.1))=some (t',order)∧
    order.toList.Perm (List.range es.size)∧TabR t' (order.filterMap (es[·]?))∧t'.mask=m∧t'.led=led∧t'.plain=plain:=by
  obtain ⟨own,h1,C⟩:=Zou hm (hs:=es.map (·.1)) (by rw [Array.size_map]; lia)
  have hp:=C.perm
  rw [Z7k,Array.size_map] at hp
  unfold SetTable.laid
  rw [h1]
  refine ⟨_,_,rfl,?_⟩
  show (((Qz m own).map (·.2)).toArray.toList).Perm _∧TabR ⟨m,((Qz m own).map (·.1)).toArray,#[],finger,led,moves,plain⟩ (((Qz m own).map (·.2)).toArray.filterMap (es[·]?))∧_
  have hlt:∀ x∈Qz m own,x.2 < es.size:=λ x hx=>List.mem_range.mp (hp.mem_iff.mp (Z7b.mpr ⟨x,hx,rfl⟩))
  obtain ⟨z1,z2⟩:=Ze9 (es:=es) hlt
  have hll:(Qz m own).length=es.size:=by rw [← Z68 (f:=(·.2)),hp.length_eq,List.length_range]
  have hsz:(((Qz m own).map (·.2)).toArray.filterMap (es[·]?)).size=es.size:=by rw [← Z7k,Array.toList_filterMap,z2,hll]
  refine ⟨hp,⟨hm,rfl,?_,by rw [hsz]; exact h,Zen m own,?_⟩,rfl,rfl,rfl⟩
  · rw [hsz,List.size_toArray,Z68,hll]
  · show ∀ x∈((Qz m own).map (·.1)).zip (((Qz m own).map (·.2)).toArray.filterMap (es[·]?)).toList,RP m ((Qz m own).map (·.1)) x.2.1 x.1
    rw [Array.toList_filterMap,z1]
    intro x hx
    obtain ⟨y,hy,e⟩:=List.mem_filterMap.mp hx
    obtain ⟨v,hv,rfl⟩:=Z7h.mp e
    exact C.reach y hy _ (by rw [Z7i,Array.getElem?_map,hv]; rfl)
end PL
end
section
open PySem PySem.W PyProof.Rows
namespace PL
section
variable {M:Model} {A:Around} {α:Type} {Q:α→Shared→Prop} {E:Value→Shared→Prop} {s:Shared} {c:Prop} [Decidable c] {a b:Sem α}
theorem wpI (h:c) (k:wpAny M A a Q E s):wpAny M A (if c then a else b) Q E s:=eqE (if_pos h) k
theorem wpN (h:¬c) (k:wpAny M A b Q E s):wpAny M A (if c then a else b) Q E s:=eqE (if_neg h) k
end
variable {t:SetTable} {es:Array (Int×Value)}
theorem TabR.fill (T:TabR t es):t.fill=es.size:=by unfold SetTable.fill; rw [T.dum,T.len]; rfl
theorem TabR.plain (T:TabR t es) (b:Bool):TabR { t with plain:=b } es:=⟨T.mask,T.dum,T.len,T.few,T.rise,T.reach⟩
structure TabL (t:SetTable) (es:Array (Int×Value)):Prop extends TabR t es where
  load:es.size*5 < t.mask*3
theorem TabR.grow (T:TabR t es) (hf:t.tooFull=true) (hl:es.size*5 < t.mask*3+5) (hz:es.size≤64):Zae (SetTable.sizeAbove (SetTable.grown es.size)-1)∧es.size*5 < (SetTable.sizeAbove (SetTable.grown es.size)-1)*3∧SetTable.sizeAbove (SetTable.grown es.size)≤sizeLine:=by
  have hf:t.mask*3≤t.fill*5:=of_decide_eq_true hf
  rw [T.fill] at hf
  rw [sizeLine_eq]
  rcases T.mask with h | h | h <;> rw [h] at hf hl
  · obtain e:es.size=5:=by lia
    rw [e]; exact ⟨.inr (.inl (by decide)),by decide,by decide⟩
  · obtain e:es.size=19:=by lia
    rw [e]; exact ⟨.inr (.inr (by decide)),by decide,by decide⟩
  · lia
theorem TabR.relaid (T:TabR t es) (hf:t.tooFull=true) (hl:es.size*5 < t.mask*3+5) (hz:es.size≤64):∃ t' order,t.relaid (es.map (·.1)) (SetTable.grown es.size)=some (t',order)∧
    order.toList.Perm (List.range es.size)∧TabL t' (order.filterMap (es[·]?))∧(order.filterMap (es[·]?)).toList.Perm es.toList∧t'.led=t.led∧t'.plain=t.plain:=by
  obtain ⟨h1,h2,h3⟩:=T.grow hf hl hz
  obtain ⟨t',order,e1,e2,e3,e4,e5,e6⟩:=Z1p h1 (es:=es) (by lia) t.finger (t.movedTo (SetTable.sizeAbove (SetTable.grown es.size)-1)) t.led t.plain
  have hp:(order.filterMap (es[·]?)).toList.Perm es.toList:=by
    rw [Array.toList_filterMap,← filterMap_getElem?_range es]
    exact e2.filterMap _
  exact ⟨t',order,e1,e2,⟨e3,by rw [← Z7k,hp.length_eq,Z7k,e4]; exact h2⟩,hp,e5,e6⟩
end PL
end
section
open PySem PySem.W PyProof.Rows
namespace PL
variable {X:Cx} {W:Wd} {σ:St} {s:Shared} {A:Around} {E:Value→Shared→Prop}
theorem Zr9 {n:Nat} {v:Value} (h:carriedByValue v=true):ofAClassStatement n v=pure false:=by
  cases v with
  | ref a=>exact nomatch (h:carriedByValue (.ref a)=true)
  | _=>cases n <;> rfl
theorem Zma {ks:List AVal} {a:Addr} {Q:Bool→Shared→Prop} (hk:(tupK X).is s.heap ks a) (h:Q false s):wpAny (model pp X.w) A (ofAClassStatement 8 (.ref a)) Q E s:=by
  have hT:=hk.typeIs
  obtain ⟨o,items,n,ho,zz,hd,hi⟩:=hk
  unfold ofAClassStatement
  refine Z7p (wpAny_typeOf hT (Z7p (Z7q ?_)))
  refine Z7p (m:=seqItems? (.ref a)) (wpAny_seqItems ho hd ?_)
  dsimp only
  rw [← Array.forIn_toList]
  refine Z7p (wpAny_forIn_list _ (λ rest r s'=>r.1=none∧s'=s∧∀ v∈rest,carriedByValue v=true) _ ?_ ?_ _ _ ⟨rfl,rfl,hi.byValue⟩)
  · rintro v rest r s' ⟨hr,rfl,hall⟩
    rw [Zr9 (hall v Z66)]
    refine Z7p (Z7q ?_)
    simp only [Bool.false_eq_true,if_false]
    exact Z7q ⟨rfl,rfl,λ u hu'=>hall u (Z67 _ hu')⟩
  · rintro ⟨r1,r2⟩ s' ⟨hr,rfl,zz⟩
    simp only at hr
    subst hr
    exact Z7q h
theorem Zx2 {ks:List AVal} {a:Addr} {l:List Value} {Q:Bool→Shared→Prop} (hk:(tupK X).is s.heap ks a) (hl:∀ v∈l,∃ b js,v=.ref b∧(tupK X).is s.heap js b) (h:Q false s):wpAny (model pp X.w) A (searchCouldBeSeen (.ref a) l) Q E s:=by
  unfold searchCouldBeSeen
  refine Z7p (wpAny_forIn_list _ (λ rest r s'=>r.1=none∧s'=s∧∀ v∈rest,∃ b js,v=.ref b∧(tupK X).is s.heap js b) _ ?_ ?_ _ _ ⟨rfl,rfl,hl⟩)
  · rintro v rest r s' ⟨hr,rfl,hall⟩
    obtain ⟨b,js,rfl,hb⟩:=hall v Z66
    have hnext:∀ u∈rest,∃ b js,u=.ref b∧(tupK X).is s'.heap js b:=λ u hu=>hall u (Z67 _ hu)
    dsimp only
    split
    · exact Z7q ⟨rfl,rfl,hnext⟩
    · refine Z7p ((tupK X).quiet hk ?_)
      simp only [Bool.not_true,Bool.false_eq_true,if_false]
      refine Z7p ((tupK X).quiet hb ?_)
      simp only [Bool.not_true,Bool.false_eq_true,if_false]
      refine Z7p (Zma hk ?_)
      simp only [Bool.false_eq_true,if_false]
      refine Z7p (Zma hb ?_)
      simp only [Bool.false_eq_true,if_false]
      exact Z7q ⟨rfl,rfl,hnext⟩
  · rintro ⟨r1,r2⟩ s' ⟨hr,rfl,zz⟩
    simp only at hr
    subst hr
    exact Z7q h
end PL
end
section
open PySem PySem.W PyProof.Rows
namespace PL
variable {X:Cx} {W:Wd} {σ:St} {s:Shared} {A:Around} {E:Value→Shared→Prop}
structure EntS (X:Cx) (W:Wd) (e:Int×Value) (c:AVal):Prop where
  val:VRel W e.2 c
  hash:e.1=Yd X.w c
structure SetC (X:Cx) (W:Wd) (h:Heap) (S:Addr) (led:Bool) (es:Array (Int×Value)) (t:SetTable) (cs:List AVal):Prop where
  obj:∃ ep,h.get? S=some { cls:=.type "set",dict:=none,data:=.set es ep t }
  tab:TabR t es
  ents:F2 (EntS X W) es.toList cs
  nodup:cs.Nodup
  led:t.led=led
theorem SetC.state {S:Addr} {led:Bool} {es:Array (Int×Value)} {t:SetTable} {cs:List AVal} (C:SetC X W s.heap S led es t cs) {Q:(Array (Int×Value)×Nat×SetTable)→Shared→Prop} (h:∀ ep,Q (es,ep,t) s):wpAny (model pp X.w) A (setState S) Q E s:=
  C.obj.elim λ ep ho=>wpAny_setState_of ho rfl C.tab.fits (h ep)
theorem Zyj {m:Nat} (h:Zae m):(m % 2==0)=false:=by rcases h with h | h | h <;> rw [h] <;> rfl
theorem Zx3 (t:SetTable):t.sameMemory t.moves t.mask=some true:=by unfold SetTable.sameMemory; rw [if_pos (Z7x _)]
inductive Meet (X:Cx) (h:Heap) (es:Array (Int×Value)) (t:SetTable) (cs:List AVal) (ks:List AVal) (F n:Nat):Option SetTable.Met→Prop
  | empty (hno:AVal.tup ks ∉ cs):Meet X h es t cs ks F n (some (.empty (pth t (Yd X.w (.tup ks)) F).j none))
  | cand (k i:Nat) (h':Int) (b:Addr) (js:List AVal) (k1:n≤k) (k2:k < F) (k3:t.place[i]? = some (pth t (Yd X.w (.tup ks)) k).j) (hx:es[i]? = some (h',.ref b)) (hc:cs[i]? = some (.tup js)) (hb:(tupK X).is h js b)
      (ne:js≠ks→∀ k' i':Nat,k' < k+1→t.place[i']? = some (pth t (Yd X.w (.tup ks)) k').j→cs[i']?≠some (.tup ks)):Meet X h es t cs ks F n (some (.candidate (pth t (Yd X.w (.tup ks)) k).j i (pth t (Yd X.w (.tup ks)) (k+1))))
@[elab_as_elim] theorem Meet.el {h:Heap} {es:Array (Int×Value)} {t:SetTable} {cs:List AVal} {ks:List AVal} {F n:Nat} {motive:Option SetTable.Met→Prop} {r:Option SetTable.Met} (x:Meet X h es t cs ks F n r) (h1:AVal.tup ks ∉ cs→motive (some (.empty (pth t (Yd X.w (.tup ks)) F).j none)))
    (h2:∀ (k i:Nat) (h':Int) (b:Addr) (js:List AVal),n≤k→k < F→t.place[i]? = some (pth t (Yd X.w (.tup ks)) k).j→es[i]? = some (h',.ref b)→cs[i]? = some (.tup js)→(tupK X).is h js b→
      (js≠ks→∀ k' i':Nat,k' < k+1→t.place[i']? = some (pth t (Yd X.w (.tup ks)) k').j→cs[i']?≠some (.tup ks))→motive (some (.candidate (pth t (Yd X.w (.tup ks)) k).j i (pth t (Yd X.w (.tup ks)) (k+1))))):motive r:=Meet.casesOn (motive:=λ r zz=>motive r) x h1 h2
theorem Z51 {S:Addr} {led:Bool} {es:Array (Int×Value)} {t:SetTable} {cs:List AVal} (I:Inv X W σ s) (C:SetC X W s.heap S led es t cs) {ks:List AVal} (ht:∀ c∈cs,∃ js,c=.tup js∧js.all AVal.flat=true)
    {F:Nat} (hF:J2 t.mask (Yd X.w (.tup ks)) (·∈t.place.toList) F) {d n:Nat} (hn:n+d=F) (hbe:∀ k i:Nat,k < n→t.place[i]? = some (pth t (Yd X.w (.tup ks)) k).j→cs[i]?≠some (.tup ks)):
    Meet X s.heap es t cs ks F n (SetTable.probe t (λ i=>(es[i]?.map (·.1)).getD 0) (Yd X.w (.tup ks)) (pth t (Yd X.w (.tup ks)) n)):=by
  have hat:∀ {i:Nat} {x:Int×Value},es[i]? = some x→∃ c,cs[i]? = some c∧EntS X W x c:=λ h=>C.ents.get' (Z7i.symm▸h:es.toList[_]? = some _)
  have hsome:∀ {i j:Nat},t.place[i]? = some j→∃ x,es[i]? = some x:=λ h=>⟨_,Z7j (C.tab.len▸(Array.getElem?_eq_some_iff.mp h).1)⟩
  have hbef:∀ k i:Nat,((es[i]?.map (·.1)).getD 0==Yd X.w (.tup ks))=false→t.place[i]? = some (pth t (Yd X.w (.tup ks)) k).j→cs[i]?≠some (.tup ks):=λ k i q h e=>by
    obtain ⟨x,hx⟩:=hsome h
    obtain ⟨c,hc,rx⟩:=hat hx
    rw [hx] at q
    exact absurd (rx.hash.trans (Z7r (Yd X.w) (Z7g (hc.symm.trans e)))) (ne_of_beq_false q)
  rcases C.tab.probe_go (λ i=>(es[i]?.map (·.1)).getD 0) (g:=Yd X.w (.tup ks)) hF d n (10*SetTable.turns t.mask) hn (Z6u (hn▸Z6s d n) hF.lt) with ⟨g1,g2⟩ | ⟨k,i,k1,k2,k3,k4,k5,k6⟩
  · unfold SetTable.probe
    rw [g1]
    refine .empty λ hm=>?_
    obtain ⟨i,hi⟩:=List.mem_iff_getElem?.mp hm
    obtain ⟨x,hx,rx⟩:=C.ents.get hi
    rw [Z7i] at hx
    have hl:i < t.place.size:=C.tab.len▸(Array.getElem?_eq_some_iff.mp hx).1
    have hp:t.place[i]? = some t.place[i]:=Z7j hl
    obtain ⟨m,m1,m2⟩:=C.tab.reach (t.place[i],x) (List.mem_iff_getElem?.mpr ⟨i,List.getElem?_zip_eq_some.mpr ⟨by rw [Z7i]; exact hp,by rw [Z7i]; exact hx⟩⟩)
    dsimp only at m1 m2
    rw [rx.hash] at m1 m2
    have hmF:m < F:=Nat.not_le.mp λ q=>by
      rcases Nat.eq_or_lt_of_le q with rfl | q
      · exact hF.free (Zuu.mpr ⟨i,m1.symm▸hp⟩)
      · exact hF.free (m2 F q)
    have hpm:t.place[i]? = some (pth t (Yd X.w (.tup ks)) m).j:=m1.symm▸hp
    by_cases q:m < n
    · exact hbe m i q hpm hi
    · exact hbef m i (g2 m i (Nat.not_lt.mp q) hmF hpm) hpm hi
  · unfold SetTable.probe
    rw [k5]
    obtain ⟨⟨h',y⟩,hx⟩:=hsome k3
    obtain ⟨c,hc,rx⟩:=hat hx
    obtain ⟨js,rfl,hjf⟩:=ht c (Z7z hc)
    obtain ⟨b,ey,hkb⟩:=Zc6 I rx.val hjf
    refine .cand k i h' b js k1 k2 k3 (ey▸hx) hc hkb λ e k' i' q1 q2 q3=>?_
    rcases Nat.lt_or_eq_of_le (Z65 q1) with q1 | rfl
    · by_cases q:k' < n
      · exact hbe k' i' q q2 q3
      · exact hbef k' i' (k6 k' i' (Nat.not_lt.mp q) q1 q2) q2 q3
    · have:i=i':=(Zea C.tab.rise k3).symm.trans (Zea C.tab.rise q2)
      subst this
      exact e (by injection Z7g (hc.symm.trans q3))
theorem Z2i {S:Addr} {led:Bool} {es:Array (Int×Value)} {t:SetTable} {cs:List AVal} (I:Inv X W σ s) (C:SetC X W s.heap S led es t cs) (ht:∀ c∈cs,∃ js,c=.tup js∧js.all AVal.flat=true) {h:Int}:∀ v∈(es.filter (·.1==h)).toList.map (·.2),∃ b js,v=.ref b∧(tupK X).is s.heap js b:=λ v hv=>by
  obtain ⟨e,he,rfl⟩:=Z7b.mp hv
  obtain ⟨c,hc,rx⟩:=C.ents.mem_left (Array.mem_toList_iff.mpr (Array.mem_filter.mp (Array.mem_toList_iff.mp he)).1)
  obtain ⟨js,rfl,hjf⟩:=ht c hc
  obtain ⟨b,ey,hkb⟩:=Zc6 I rx.val hjf
  exact ⟨b,js,ey,hkb⟩
theorem Zrk {b:Bool} {m:Sem Bool} {k:PUnit→Sem SetFound} {u:Sem PUnit} {Q:SetFound→Shared→Prop} (h:∀ {Q:Bool→Shared→Prop},Q false s→wpAny (model pp X.w) A m Q E s) (hk:wpAny (model pp X.w) A (k ⟨⟩) Q E s):
    wpAny (model pp X.w) A (if b=true then (do if ← m then u >>= k else k ⟨⟩) else k ⟨⟩) Q E s:=by
  cases b with
  | true=>exact Z7p (h hk)
  | false=>exact hk
theorem Zog {S:Addr} {led:Bool} {es:Array (Int×Value)} {t:SetTable} {cs:List AVal} (I:Inv X W σ s) (C:SetC X W s.heap S led es t cs) {a:Addr} {ks:List AVal} (hka:(tupK X).is s.heap ks a) (ht:∀ c∈cs,∃ js,c=.tup js∧js.all AVal.flat=true)
    (hA:A.units < cLine) {F:Nat} (hF:J2 t.mask (Yd X.w (.tup ks)) (·∈t.place.toList) F) {Q:SetFound→Shared→Prop} (h1:AVal.tup ks∈cs→Q (.there none) s) (h2:AVal.tup ks ∉ cs→Q (.free (pth t (Yd X.w (.tup ks)) F).j false) s):
    ∀ (d n fuel:Nat) (st:Option SetTable.Probe),n+d=F→d < fuel→st.getD (t.probeStart (Yd X.w (.tup ks)))=pth t (Yd X.w (.tup ks)) n→(∀ k i:Nat,k < n→t.place[i]? = some (pth t (Yd X.w (.tup ks)) k).j→cs[i]?≠some (.tup ks))→
    wpAny (model pp X.w) A (setSearchFrom S (.ref a) (Yd X.w (.tup ks)) true fuel st) Q E s:=by
  intro d
  induction d using Nat.strongRecOn with
  | _ d ih=>
  intro n fuel st hn hfu hst hbe
  cases fuel with
  | zero=>exact absurd hfu (Nat.not_lt_zero d)
  | succ fuel=>
  have M:=Z51 I C ht hF hn hbe
  rw [← hst] at M
  refine Z7p (C.state λ ep=>wpN (λ q=>nomatch (Zyj C.tab.mask).symm.trans q) ?_)
  generalize hp:SetTable.probe t _ _ _=met
  have M:Meet X s.heap es t cs ks F n met:=by rw [← hp]; exact M
  clear hp
  refine M.el (λ hno=>Z7q (h2 hno)) λ k i h' b js k1 k2 k3 hx hc hb ne=>?_
  dsimp only
  refine Zrk (λ hq=>Zx2 hka (Z2i I C ht) hq) ?_
  refine eqE hx (Z7p (wpAny_holding ((tupK X).eqBool hA hb hka (Z7p (C.state λ ep=>?_)))))
  by_cases e:js=ks
  · exact wpI (Z7s e) (Z7q (h1 (e▸Z7z hc)))
  · refine wpN (λ q=>e (of_decide_eq_true q)) (eqE (Zx3 t) ?_)
    dsimp only
    refine eqE (if_pos rfl) (eqE (C.tab.live k3) ?_)
    dsimp only
    refine eqE hx ?_
    refine Z7p (wpAny_isSame_ref_self (Z7p (Z7q ?_)))
    refine (wpN (λ q=>e (of_decide_eq_true q)) ?_:wpAny _ _ (if decide (js=ks)=true then _ else _) _ _ _)
    have hk:F-(k+1) < d:=Nat.lt_of_lt_of_eq (Nat.sub_lt_sub_left (Z6u k1 k2) (Nat.lt_succ_of_le k1)) (hn▸Nat.add_sub_cancel_left n d)
    exact ih (F-(k+1)) hk (k+1) fuel (some (pth t (Yd X.w (.tup ks)) (k+1))) (Nat.add_sub_of_le k2) (Z6t hk (Z65 hfu)) rfl (ne e)
end PL
end
section
open PySem PySem.W PyProof.Rows
namespace PL
variable {X:Cx} {W:Wd} {σ:St} {s:Shared} {A:Around} {E:Value→Shared→Prop}
theorem F2.perm {α β:Type} {R:α→β→Prop} {as as':List α} (p:as'.Perm as):∀ {bs:List β},F2 R as bs→∃ bs':List β,bs'.Perm bs∧F2 R as' bs':=by
  induction p with
  | nil=>exact λ h=>⟨_,.refl _,h⟩
  | @cons a l l' _ ih=>
    intro bs h
    rcases bs with zz | ⟨b,bs⟩
    · exact h.elim
    · obtain ⟨bs',p,r⟩:=ih h.2
      exact ⟨b::bs',p.cons b,h.1,r⟩
  | swap a b l=>
    intro bs h
    rcases bs with zz | ⟨c,zz | ⟨d,bs⟩⟩
    · exact h.elim
    · exact h.2.elim
    · exact ⟨d::c::bs,.swap ..,h.2.1,h.1,h.2.2⟩
  | trans _ _ i1 i2=>
    intro bs h
    obtain ⟨b1,p1,r1⟩:=i2 h
    obtain ⟨b2,p2,r2⟩:=i1 r1
    exact ⟨b2,p2.trans p1,r2⟩
structure SetI (X:Cx) (W:Wd) (h:Heap) (S:Addr) (led:Bool) (cs:List AVal):Prop where
  ex:∃ es t,SetC X W h S led es t cs∧es.size*5 < t.mask*3
theorem SetC.store {S:Addr} {led:Bool} {es es':Array (Int×Value)} {t t':SetTable} {cs cs':List AVal} {h:Heap} (C:SetC X W h S led es t cs) (T:TabR t' es') (r:F2 (EntS X W) es'.toList cs') (nd:cs'.Nodup) (hl:t'.led=led):
    SetC X W (h.update S (Obj.putSet es' t')) S led es' t' cs':=
  ⟨C.obj.elim λ ep ho=>⟨ep+1,Heap.get?_update_self (Obj.putSet es' t') ho rfl⟩,T,r,nd,hl⟩
theorem Zi3 {n:Nat} (h:n≤64):n≤sizeLine:=by rw [sizeLine_eq]; lia
structure Zas (X:Cx) (W:Wd) (S:Addr) (led:Bool) (cs:List AVal) (c:AVal) (h:Heap) (h':Heap):Prop where
  same:Heap.SameBut S h h'
  set:∃ cs',SetI X W h' S led cs'∧∀ x,x∈cs'↔x=c∨x∈cs
theorem SetC.size {S:Addr} {led:Bool} {es:Array (Int×Value)} {t:SetTable} {cs:List AVal} {h:Heap} (C:SetC X W h S led es t cs):es.size=cs.length:=C.ents.size
structure SetPut (X:Cx) (W:Wd) (led:Bool) (cs:List AVal) (c:AVal) (es1:Array (Int×Value)) (t1:SetTable) (cs1:List AVal):Prop where
  tab:TabR t1 es1
  ents:F2 (EntS X W) es1.toList cs1
  nodup:cs1.Nodup
  led:t1.led=led
  load:es1.size*5 < t1.mask*3+5
  size:es1.size≤64
  mem:∀ x,x∈cs1↔x=c∨x∈cs
  one:es1.size=cs.length+1
theorem SetPut.plain {led:Bool} {cs cs1:List AVal} {c:AVal} {es1:Array (Int×Value)} {t1:SetTable} (P:SetPut X W led cs c es1 t1 cs1) (b:Bool):SetPut X W led cs c es1 { t1 with plain:=b } cs1:=⟨P.tab.plain b,P.ents,P.nodup,P.led,P.load,P.size,P.mem,P.one⟩
theorem SetC.put {S:Addr} {led:Bool} {es:Array (Int×Value)} {t:SetTable} {cs:List AVal} {h:Heap} (C:SetC X W h S led es t cs) (hl:es.size*5 < t.mask*3) (hz:cs.length < 64) {c:AVal} {x:Value} (hc:c ∉ cs) (hv:VRel W x c) {F:Nat} (hF:J2 t.mask (Yd X.w c) (·∈t.place.toList) F):
    ∃ cs1,SetPut X W led cs c (SetTable.insertAt es (t.put (pth t (Yd X.w c) F).j).2 (Yd X.w c,x)) (t.put (pth t (Yd X.w c) F).j).1 cs1:=by
  obtain ⟨T,hm⟩:=C.tab.put (x:=x) hF (by have:=C.tab.mask; unfold Zae at this; lia)
  have hp:=SetTable.insertAt_perm es (t.put (pth t (Yd X.w c) F).j).2 (Yd X.w c,x)
  rw [Array.toList_push] at hp
  obtain ⟨cs1,p1,r1⟩:=F2.perm hp (C.ents.append (F2.one ⟨hv,rfl⟩))
  have hsz:(SetTable.insertAt es (t.put (pth t (Yd X.w c) F).j).2 (Yd X.w c,x)).size=cs.length+1:=by
    rw [← Z7k,hp.length_eq,Z69,Z7k,C.size]; rfl
  have p2:cs1.Perm (c::cs):=p1.trans (List.perm_append_singleton c cs)
  refine ⟨cs1,T,r1,p2.nodup_iff.mpr (Z7y.mpr ⟨hc,C.nodup⟩),C.led,?_,hsz▸hz,λ x=>(p2.mem_iff).trans Z7a,hsz⟩
  rw [hsz,hm,← C.size]; lia
section
variable {S:Addr} {led:Bool} {es es1:Array (Int×Value)} {t t1:SetTable} {cs cs1:List AVal} {c:AVal}
theorem SetPut.done (P:SetPut X W led cs c es1 t1 cs1) {h:Heap} (C:SetC X W h S led es t cs) (hf:t1.tooFull=false):Zas X W S led cs c h (h.update S (Obj.putSet es1 t1)):=by
  have hf:¬ t1.mask*3≤t1.fill*5:=of_decide_eq_false hf
  rw [P.tab.fill] at hf
  exact ⟨.update ..,cs1,⟨_,_,C.store P.tab P.ents P.nodup P.led,Nat.not_le.mp hf⟩,P.mem⟩
theorem SetPut.relay (P:SetPut X W led cs c es1 t1 cs1) {h:Heap} (C:SetC X W h S led es t cs) (hf:t1.tooFull=true):∃ t2 order,t1.relaid (es1.map (·.1)) (SetTable.grown es1.size)=some (t2,order)∧order.toList.Perm (List.range es1.size)∧
    (order.filterMap (es1[·]?)).size=es1.size∧TabR t2 (order.filterMap (es1[·]?))∧Zas X W S led cs c h ((h.update S (Obj.putSet es1 t1)).update S (Obj.putSet (order.filterMap (es1[·]?)) t2)):=by
  obtain ⟨t2,order,e1,e2,e3,e4,e5,zz⟩:=P.tab.relaid hf P.load P.size
  obtain ⟨cs2,p2,r2⟩:=F2.perm e4 P.ents
  exact ⟨t2,order,e1,e2,by rw [← Z7k,e4.length_eq,Z7k],e3.toTabR,Heap.SameBut.trans (.update ..) (.update ..),cs2,⟨_,_,(C.store P.tab P.ents P.nodup P.led).store e3.toTabR r2 (p2.nodup_iff.mpr P.nodup) (e5.trans P.led),e3.load⟩,λ x=>p2.mem_iff.trans (P.mem x)⟩
end
end PL
end
section
open PySem PySem.W PyProof.Rows
namespace PL
variable {X:Cx} {W:Wd} {σ:St} {s:Shared} {A:Around} {E:Value→Shared→Prop}
theorem Zjp {ks:List AVal} {a:Addr} {Q:Bool→Shared→Prop} (hk:(tupK X).is s.heap ks a) (h:∀ b,Q b s):wpAny (model pp X.w) A (hashByValue 8 (.ref a)) Q E s:=by
  have hT:=hk.typeIs
  obtain ⟨o,items,n,ho,zz,hd,hi⟩:=hk
  refine Z7p (wpAny_specialOf hT F.slot_tuple_hash.lookup ?_)
  refine Z7p (m:=seqItems? (.ref a)) (wpAny_seqItems ho hd ?_)
  rw [Option.getD_some,← Array.forIn_toList]
  refine Z7p (wpAny_forIn_list _ (λ rest r s'=>r.1=none∧s'=s∧∀ v∈rest,carriedByValue v=true) _ ?_ ?_ _ _ ⟨rfl,rfl,hi.byValue⟩)
  · rintro v rest r s' ⟨hr,rfl,hall⟩
    have hn:∀ u∈rest,carriedByValue u=true:=λ u hu'=>hall u (Z67 _ hu')
    have hp:∃ b,hashByValue 7 v=pure b:=by
      have:=hall v Z66
      cases v with
      | ref a=>exact nomatch (this:carriedByValue (.ref a)=true)
      | _=>exact ⟨_,rfl⟩
    obtain ⟨b,hb⟩:=hp
    rw [hb]
    refine Z7p (Z7q ?_)
    cases b with
    | true=>exact Z7q ⟨rfl,rfl,hn⟩
    | false=>exact Z7q (Z7q (h false))
  · rintro ⟨r1,r2⟩ s' ⟨hr,rfl,zz⟩
    simp only at hr
    subst hr
    exact Z7q (h true)
theorem Zli {S:Addr} {led:Bool} {es es1:Array (Int×Value)} {t t1:SetTable} {cs cs1:List AVal} {c:AVal} (C:SetC X W s.heap S led es t cs) (P:SetPut X W led cs c es1 t1 cs1) {Q:Bool→Shared→Prop} (h:∀ h' b,Zas X W S led cs c s.heap h'→Q b { s with heap:=h' }):
    wpAny (model pp X.w) A (do
        storeSet S es1 t1
        if !false&&t1.tooFull then
          setRelay S (SetTable.grown (es.size+1))
          return true
        else return true) Q E s:=by
  refine Z7p (C.obj.elim λ ep ho=>wpAny_storeSet_of ho rfl ?_ (Zi3 P.size))
  cases hf:t1.tooFull with
  | false=>exact Z7q (h _ true (P.done C hf))
  | true=>
    obtain ⟨t2,order,e1,e2,e3,e4,G⟩:=P.relay C hf
    have C1:=C.store P.tab P.ents P.nodup P.led
    rw [← show es.size+1=es1.size from C.size▸P.one.symm] at e1
    have hg:=(P.tab.grow hf P.load P.size).2.2
    rw [← show es.size+1=es1.size from C.size▸P.one.symm] at hg
    refine Z7p (m:=setRelay S _) (Z7p (C1.state (s:={ s with heap:=_ }) λ ep=>wpN (Nat.not_lt.mpr hg) (eqE e1 ?_)))
    refine Z7p (show wpAny _ _ (ite (((order.filterMap (es1[·]?)).size != es1.size)=true) _ _) _ _ _ from wpN (by rw [e3,bne_self_eq_false]; exact Z7w) ?_)
    exact Z7q (C1.obj.elim λ ep ho=>wpAny_storeSet_of (s:={ s with heap:=_ }) ho rfl (Z7q (h _ true G)) (Zi3 (e3▸P.size)))
theorem Z2k {S:Addr} {led:Bool} {cs:List AVal} {ks:List AVal} {a:Addr} (I:Inv X W σ s) (C:SetI X W s.heap S led cs) (hv:VRel W (.ref a) (.tup ks)) (hf:ks.all AVal.flat=true) (ht:∀ c∈cs,∃ js,c=.tup js∧js.all AVal.flat=true)
    (hA:A.units < cLine) (hz:cs.length < 64) {Q:Bool→Shared→Prop} (h:∀ h' b,Zas X W S led cs (.tup ks) s.heap h'→Q b { s with heap:=h' }):wpAny (model pp X.w) A (setAddHashed S (.ref a) (Yd X.w (.tup ks))) Q E s:=by
  obtain ⟨es,t,C,hl⟩:=C.ex
  obtain ⟨a',ea,hka⟩:=Zc6 I hv hf
  obtain rfl:=Zah ea
  obtain ⟨F,hF⟩:=C.tab.first (Yd X.w (.tup ks))
  unfold setAddHashed setAddHashedIn
  refine wpAny_holding (Z7p (C.state λ ep=>wpN (λ q=>nomatch (q:false=true)) ?_))
  refine Z7p (Zog I C hka ht hA hF (λ hm=>?_) (λ hn=>?_) F 0 100000 none (Nat.zero_add _) (by have:=hF.lt; have:=C.tab.mask; unfold Zae at this; unfold SetTable.turns at *; lia) rfl λ k i hk=>nomatch hk)
  · exact Z7q (h s.heap false ⟨.refl _ _,cs,⟨_,_,C,hl⟩,λ x=>⟨.inr,λ q=>q.elim (λ e=>e▸hm) id⟩⟩)
  · obtain ⟨cs1,P⟩:=C.put hl hz hn hv hF
    dsimp only
    refine Z7p (C.state λ ep=>?_)
    dsimp only
    generalize t.put (pth t (Yd X.w (.tup ks)) F).j=pr at P ⊢
    obtain ⟨t1,p⟩:=pr
    dsimp only at P ⊢
    generalize SetTable.insertAt es p (Yd X.w (.tup ks),.ref a)=es1 at P ⊢
    by_cases hp:t1.plain=true
    · refine wpI hp (Z7p (Zjp hka λ b=>?_))
      cases b with
      | true=>exact Zli C P h
      | false=>exact Zli C (P.plain false) h
    · exact wpN hp (Z7p (Z7q (Zli C P h)))
theorem TabR.freeSlot {t:SetTable} {es:Array (Int×Value)} (T:TabR t es) {h:Int} {F:Nat} (hF:J2 t.mask h (·∈t.place.toList) F):t.freeSlot h=some ((pth t h F).j,false):=by
  unfold SetTable.freeSlot
  generalize hp:SetTable.probe t _ _ _=met
  rcases T.probe_go (λ zz=>h+1) (g:=h) hF F 0 (10*SetTable.turns t.mask) (Nat.zero_add _) hF.lt with ⟨g1,zz⟩ | ⟨zz,zz,zz,zz,zz,k4,zz,zz⟩
  · obtain rfl:_=met:=g1.symm.trans hp
    rfl
  · exact absurd (Z7u k4) (by lia)
theorem TabR.layNew {t:SetTable} {es:Array (Int×Value)} (T:TabR t es) {h:Int} {x:Value} {F:Nat} (hF:J2 t.mask h (·∈t.place.toList) F) (T1:TabR (t.put (pth t h F).j).1 (SetTable.insertAt es (t.put (pth t h F).j).2 (h,x))):
    PySem.layNew t es h x=(SetTable.insertAt es (t.put (pth t h F).j).2 (h,x),(t.put (pth t h F).j).1,false,false):=by
  unfold PySem.layNew
  rw [T.freeSlot hF]
  dsimp only
  unfold SetTable.orStandIn
  rw [T1.fits,if_pos rfl]; rfl
theorem Zm7 {v:Value} {k:AVal} (h:FlatP k v):v.scannable=true:=FlatP.cases (C:=λ zz v=>v.scannable=true) h (λ zz zz=>rfl) λ zz zz=>rfl
theorem Zsv {es:List (Int×Value)} {cs:List AVal} (r:F2 (EntS X W) es cs) (hf:∀ c∈cs,c.flat=true):ElemsOf (flK X) es:=λ e he=>
  let ⟨c,hc,rc⟩:=r.mem_left he
  have hi:=Z8 (Y5 rc.val (hf c hc))
  ⟨⟨c,Y5 rc.val (hf c hc),rc.hash.trans (Zdq hi).symm⟩,Zm7 hi⟩
theorem Zuc {es1:Array (Int×Value)} {t1 t2:SetTable} {order:Array Nat} {n:Nat} (e1:t1.relaid (es1.map (·.1)) n=some (t2,order)) (e2:order.toList.Perm (List.range es1.size)) (e4:TabR t2 (order.filterMap (es1[·]?))):relayAll t1 es1 n=(order.filterMap (es1[·]?),t2,false):=by
  unfold relayAll
  rw [e1]
  dsimp only
  rw [e4.fits,show coversAll order es1.size=true from List.isPerm_iff.mpr e2]; rfl
theorem Zgb {S:Addr} {led:Bool} {es es1:Array (Int×Value)} {t t1:SetTable} {cs cs1:List AVal} {c:AVal} (C:SetC X W s.heap S led es t cs) (P:SetPut X W led cs c es1 t1 cs1) {g:Bool→Sem Unit} (hg:g false=pure ()) {Q:Option Bool→Shared→Prop} (h:∀ h' b,Zas X W S led cs c s.heap h'→Q (some b) { s with heap:=h' }):
    wpAny (model pp X.w) A (do
        storeSet S es1 t1
        if (!false&&t1.tooFull)=true then do
            g (relayAll t1 es1 (SetTable.grown es1.size)).2.2
            storeSet S (relayAll t1 es1 (SetTable.grown es1.size)).1 (relayAll t1 es1 (SetTable.grown es1.size)).2.1
            pure (some true)
          else pure (some true)) Q E s:=by
  refine Z7p (C.obj.elim λ ep ho=>wpAny_storeSet_of ho rfl ?_ (Zi3 P.size))
  cases hf:t1.tooFull with
  | false=>exact Z7q (h _ true (P.done C hf))
  | true=>
    obtain ⟨t2,order,e1,e2,e3,e4,G⟩:=P.relay C hf
    have C1:=C.store P.tab P.ents P.nodup P.led
    refine eqE (if_pos (c:=(!false&&true)=true) rfl) (eqE (Zuc e1 e2 e4) (eqE hg ?_))
    exact Z7p (Z7q (Z7p (C1.obj.elim λ ep ho=>wpAny_storeSet_of (s:={ s with heap:=_ }) ho rfl (Z7q (h _ true G)) (Zi3 (e3▸P.size)))))
theorem Zzq {S:Addr} {led:Bool} {cs:List AVal} {k:AVal} {v:Value} (C:SetI X W s.heap S led cs) (hv:VRel W v k) (hf:k.flat=true) (ht:∀ c∈cs,c.flat=true)
    (hz:cs.length < 64) {Q:Bool→Shared→Prop} (h:∀ h' b,Zas X W S led cs k s.heap h'→Q b { s with heap:=h' }):wpAny (model pp X.w) A (setAddHashed S v (Zfn X.w k)) Q E s:=by
  obtain ⟨es,t,C,hl⟩:=C.ex
  have hi:=Y5 hv hf
  have hk:=Z8 hi
  have hsc:=Zm7 hk
  have hel:=Zsv C.ents ht
  have hb:es.size < scanBound:=C.size▸Nat.lt_trans hz (Z6y rfl)
  have hh:=Zdq (w:=X.w) hk
  by_cases hm:k∈cs
  · obtain ⟨e,he,re⟩:=C.ents.mem_right hm
    have hr:∃ j,es.toList.findIdx? (λ e=>(flK X).is k e.2)=some j:=Option.isSome_iff_exists.mp ((Option.isSome_iff_ne_none).mpr λ q=>nomatch (Y5 re.val hf).symm.trans (List.findIdx?_eq_none_iff.mp q e he))
    obtain ⟨j,hr⟩:=hr
    unfold setAddHashed setAddHashedIn setAddByScan
    refine wpAny_holding (Z7p (C.state λ ep=>wpI (byScan_of hsc hb hel) (Z7p (Z7p (wpAny_rule (Z7p (C.obj.elim λ ep ho=>wpAny_setScan_of (knd:=flK X) hi ho rfl C.tab.fits hel ?_)))))))
    exact eqE hr (Z7q (Z7q (h s.heap false ⟨.refl _ _,cs,⟨_,_,C,hl⟩,λ x=>⟨.inr,λ q=>q.elim (λ e=>e▸hm) id⟩⟩)))
  · have hr:es.toList.findIdx? (λ e=>(flK X).is k e.2)=none:=List.findIdx?_eq_none_iff.mpr λ e he=>(Bool.not_eq_true _).mp λ q=>by
      obtain ⟨c,hc,rc⟩:=C.ents.mem_left he
      exact hm (Zq7 (Z8 q) (Z8 (Y5 rc.val (ht c hc)))▸hc)
    obtain ⟨F,hF⟩:=C.tab.first (Yd X.w k)
    have hp:∃ es1 t1 cs1,layNew t es (Yd X.w k) v=(es1,t1,false,false)∧SetPut X W led cs k es1 t1 cs1:=(C.put hl hz hm hv hF).elim λ cs1 P=>⟨_,_,cs1,C.tab.layNew hF P.tab,P⟩
    obtain ⟨es1,t1,cs1,hL,P⟩:=hp
    rw [← hh] at hL
    unfold setAddHashed setAddHashedIn setAddByScan
    refine wpAny_holding (Z7p (C.state λ ep=>wpI (byScan_of hsc hb hel) (Z7p (Z7p (wpAny_rule (Z7p (C.obj.elim λ ep ho=>wpAny_setScan_of (knd:=flK X) hi ho rfl C.tab.fits hel ?_)))))))
    refine eqE hr ?_
    dsimp only
    refine eqE hL (Z7p (Z7q ?_))
    dsimp only
    by_cases hp:t1.plain=true
    · refine wpI hp (eqE (hashByValue_scannable 8 hsc) (Z7p (Z7q ?_)))
      cases plainKind v with
      | true=>exact Zgb C P rfl λ h' b G=>Z7q (h h' b G)
      | false=>exact Zgb C (P.plain false) rfl λ h' b G=>Z7q (h h' b G)
    · exact wpN hp (Z7p (Z7q (Zgb C P rfl λ h' b G=>Z7q (h h' b G))))
end PL
end
section
open PySem PySem.W PyProof.Rows
namespace PL
variable {X:Cx} {W:Wd} {σ:St} {s:Shared} {A:Around} {E:Value→Shared→Prop}
structure Kin (b:Bool) (c:AVal):Prop where
  key:c.isKey=true
  tup:c.isTup=b
theorem Z02 {S:Addr} {led b:Bool} {cs:List AVal} {c:AVal} {v:Value} (I:Inv X W σ s) (C:SetI X W s.heap S led cs) (hv:VRel W v c) (hc:Kin b c) (ht:∀ c∈cs,Kin b c) (hA:A.units < cLine) (hz:cs.length < 64)
    {Q:Bool→Shared→Prop} (h:∀ h' tk b,s.toks≤tk→Zas X W S led cs c s.heap h'→Q b { s with heap:=h',toks:=tk }):wpAny (model pp X.w) A (setAdd S v) Q E s:=by
  unfold setAdd
  refine wpAny_holding ?_
  cases b with
  | true=>
    obtain ⟨ks,rfl,hf⟩:=Ji hc.key hc.tup
    obtain ⟨a,rfl,ha⟩:=Zc6 I hv hf
    exact Z7p ((tupK X).pyHash hA ha (Z2k (s:={ s with toks:=s.toks+(tupK X).draws ks }) (I.toks _) C hv hf (λ c h=>Ji (ht c h).key (ht c h).tup) hA hz λ h' b G=>h h' _ b (Z6r _ _) G))
  | false=>
    have hf:=Jd hc.key hc.tup
    exact Z7p ((flK X).pyHash (Y5 hv hf) (Zzq (s:={ s with toks:=s.toks+1 }) C hv hf (λ c h=>Jd (ht c h).key (ht c h).tup) hz λ h' b G=>h h' _ b (Nat.le_succ _) G))
structure Upd (X:Cx) (W:Wd) (σ:St) (S:Addr) (led:Bool) (xs:List AVal) (i:Nat) (s:Shared):Prop where
  inv:Inv X W σ s
  set:∃ cs,SetI X W s.heap S led cs∧∀ x,x∈cs↔x∈xs.take i
theorem SetI.move {S:Addr} {led:Bool} {cs:List AVal} {h h':Heap} (C:SetI X W h S led cs) (hk:∀ o,h.get? S=some o→h'.get? S=some o):SetI X W h' S led cs:=
  let ⟨es,t,C,hl⟩:=C.ex
  ⟨es,t,⟨C.obj.elim λ ep ho=>⟨ep,hk _ ho⟩,C.tab,C.ents,C.nodup,C.led⟩,hl⟩
theorem SetI.nodup {S:Addr} {led:Bool} {cs:List AVal} {h:Heap} (C:SetI X W h S led cs):cs.Nodup:=let ⟨_,_,C,_⟩:=C.ex; C.nodup
theorem Inv.moved (I:Inv X W σ s) {wr:List Addr} {s':Shared} (m:Moved wr (λ a b=>b=a) s s') (hw:∀ a∈wr,W a=.free):Inv X W σ s':=by
  obtain ⟨h',g',d',tk',os'⟩:=s'
  obtain rfl:g'=s.gens:=m.gens
  obtain rfl:d'=s.drawn:=m.drawn
  obtain rfl:os'=s.os:=m.os
  exact I.grow (s:=s) (h':=h') (tk:=tk') λ a o ha e=>m.heap a o (λ q=>ha (hw a q)) e
theorem Zkf {α:Type} {xs:List α} {i:Nat} {x:α} (h:xs[i]? = some x) (c:α):c∈xs.take (i+1)↔c=x∨c∈xs.take i:=by
  rw [List.take_add_one,h,List.mem_append,Or.comm]
  exact or_congr_left Z7c
variable {I fp wr:List Addr} {n:Nat} {P:Nat→Value→Prop} {St:Nat→Shared→Prop} {R:Result→Shared→Prop}
theorem Zny {it:Addr} {fp wr:List Addr} {S:Addr} {led b:Bool} {xs:List AVal} (Wk:WalksS pp X.w A.in1 it fp wr (λ a b=>b=a) xs.length (λ i v=>∃ c,xs[i]? = some c∧VRel W v c) St) (hSf:S ∉ fp) (hS:W S=.free) (hw:∀ a∈wr,W a=.free)
    (hk:∀ c∈xs,Kin b c) (hA:A.units+1 < cLine) (hz:xs.length≤63):
    ∀ (k i:Nat) (s:Shared),xs.length-i=k→i≤xs.length→St i s→Upd X W σ S led xs i s→(∀ s',Moved (S::wr) (λ a b=>b=a) s s'→Upd X W σ S led xs xs.length s'→R (.ok (.ret .none)) s')→
      codeAny (model pp X.w) A (.builtin "set.update.loop" ⟨[.ref S,.ref it],[]⟩) R s:=by
  have hSw:S ∉ wr:=λ h=>hSf (Wk.sub _ h)
  have hsub:∀ b∈wr,b∈S::wr:=λ b hb=>Z67 _ hb
  intro k
  induction k with
  | zero=>
    intro i s hk' hi hst U hR
    obtain rfl:i=xs.length:=by lia
    refine codeAny_builtin F.entry_set_update_loop ?_
    rw [Around.under_plainId F.plain_set_update_loop _]
    show wpAny _ A.in1 (pyNext (.ref it) >>= _) _ _ s
    refine Z7p (Wk.done s _ _ hst λ s' hm=>?_)
    show wpAny _ A.in1 (ret Value.none) _ _ s'
    exact Z7q (hR s' (hm.mono hsub) ⟨U.inv.moved hm hw,let ⟨cs,C,h⟩:=U.set; ⟨cs,C.move λ o e=>hm.heap S o hSw e,h⟩⟩)
  | succ k ih=>
    intro i s hk' hi hst U hR
    have hlt:i < xs.length:=by lia
    refine codeAny_builtin F.entry_set_update_loop ?_
    rw [Around.under_plainId F.plain_set_update_loop _]
    show wpAny _ A.in1 (pyNext (.ref it) >>= _) _ _ s
    refine Z7p (Wk.item i s _ _ hlt hst λ v s' hP hst' hm=>?_)
    obtain ⟨c,hc,hv⟩:=hP
    obtain ⟨cs,C,hcs⟩:=U.set
    have I':=U.inv.moved hm hw
    have hmem:∀ x∈cs,x∈xs:=λ x hx=>List.mem_of_mem_take ((hcs x).mp hx)
    have hlen:cs.length < 64:=Z6u (J5 C.nodup hmem) (Nat.lt_succ_of_le hz)
    show wpAny _ A.in1 (holding [v] (setAdd S v) >>= _) _ _ s'
    refine Z7p (wpAny_holding (Z02 I' (C.move λ o e=>hm.heap S o hSw e) hv (hk c (Z7z hc)) (λ x hx=>hk x (hmem x hx)) hA hlen λ h' tk zz htk G=>?_))
    obtain ⟨cs',C',hcs'⟩:=G.set
    refine Z7q ⟨plainId_quiet F.plain_set_update_loop _,ih (i+1) _ (by lia) hlt (Wk.frame _ s' _ _ hst' htk λ b hb o e=>(G.same.2 b (λ q=>hSf (q▸hb))).trans e) ⟨I'.grow λ a o ha e=>(G.same.2 a (λ q=>ha (q▸hS))).trans e,cs',C',λ x=>(hcs' x).trans ((or_congr_right (hcs x)).trans (Zkf hc x).symm)⟩ λ s'' hm'' U''=>?_⟩
    exact hR s'' (Moved.trans (λ zz zz zz h1 h2=>h2.trans h1) ((hm.mono hsub).then_heap htk λ b o hb e=>(G.same.2 b (λ q=>hb (q▸Z66))).trans e) hm'') U''
end PL
end
section
open PySem PySem.W PyProof.Rows
namespace PL
variable {X:Cx} {W:Wd} {σ:St} {s:Shared} {A:Around} {E:Value→Shared→Prop}
noncomputable def byT (X:Cx):Bool:=X.w.params.followText "set-order"
noncomputable abbrev nst (X:Cx):Obj:={ cls:=.type "set",dict:=none,data:=.set #[] 0 (.fresh 0 0 (!byT X)) }
theorem Zzj (a:Value) {Q₁:Value→Shared→Prop} (h:Q₁ (.ref s.heap.objs.size) { s with heap:=s.heap.push (nst X) }):
    codeAny (model pp X.w) A (.call (.builtin "set.__new__") ⟨[.type "set",a],[]⟩) (wants Q₁ E) s:=by
  refine codeAny_of_tree ?_
  show wpAny _ A.in1 (do checkBuiltinCall "set.__new__" ⟨[.type "set",a],[]⟩; again (.builtin "set.__new__" ⟨[.type "set",a],[]⟩)) _ _ s
  refine Z7p (wpAny_of_eq (F.newCall_set_1 a) (Z7q ⟨plainId_quiet F.plain_set_new _,codeAny_builtin F.entry_set_new ?_⟩))
  rw [Around.under_plainId F.plain_set_new _]
  unfold Builtin.«set.__new__» Builtin.Frozenset.newClass
  have hsub:=sub_set_self
  obtain ⟨hp,g,d,tk,os⟩:=s
  dsimp only
  wp_walk
  refine wpAny_askSetting (Z7q ?_)
  dsimp only
  simp only [newObj]
  refine Z7p (wpAny_alloc (Z7q ?_))
  exact Z7q h
theorem Zvq {h:Heap} {S:Addr} {led:Bool} (ho:h.get? S=some { cls:=.type "set",dict:=none,data:=.set #[] 0 (.fresh 0 0 led) }):SetI X W h S led []:=
  ⟨#[],.fresh 0 0 led,⟨⟨0,ho⟩,⟨.inl rfl,rfl,rfl,Z63 _,.nil,λ zz h=>nomatch h⟩,trivial,.nil,rfl⟩,Nat.lt_of_sub_eq_succ rfl⟩
set_option maxRecDepth 100000 in
set_option maxHeartbeats 3200000 in
theorem Zzm {b:Bool} {l:Addr} {items:Array Value} {xs:List AVal} {Q:Value→Shared→Prop} (I:Inv X W σ s) (hh:A.handled=none) (hl:s.heap.IsList l items) (hr:VRels W items.toList xs) (hk:∀ c∈xs,Kin b c) (hA:A.units+30 < cLine) (hz:xs.length≤63)
    (h:∀ s' cs,Inv X W σ s'→W s.heap.objs.size=.free→SetI X W s'.heap s.heap.objs.size (!byT X) cs→(∀ x,x∈cs↔x∈xs)→Q (.ref s.heap.objs.size) s'):
    wpAny (model pp X.w) A (call (.type "set") [.ref l]) Q E s:=by
  obtain ⟨c,tl,hmro⟩:=F.called_set.mro
  have hmade:=F.called_set.made
  have hsub:=F.called_set.sub
  refine wpAny_call (codeAny_of_tree ?_)
  show wpAny _ _ (callAny (.type "set") _) _ _ _
  refine Z7q ⟨Code.quiet_builtin _ (by decide +kernel),codeAny_builtin F.entry_type_call ?_⟩
  rw [Around.under_plain (weight_type_call_type "set" [.ref l] []) rfl]
  have h1:=F.called_set.notType
  have h2:=F.called_set.canCreate
  have hct:=F.typeCall_set_1 (.ref l)
  repeat (any_goals (first | assumption | wp_step))
  refine codeAny_mono (Zzj (X:=X) (.ref l) (E:=E) (Q₁:=λ obj s₁=>obj=.ref s.heap.objs.size∧s₁={ s with heap:=s.heap.push (nst X) }) ⟨rfl,rfl⟩) λ r s₁ hr'=>?_
  cases r with
  | error e=>exact hr'
  | ok fl=>
    cases fl with
    | ret obj=>
      obtain ⟨rfl,rfl⟩:=hr'
      have hS:(s.heap.push (nst X)).get? s.heap.objs.size=some (nst X):=Z7o _ rfl
      have hT:Shared.TypeIs { s with heap:=s.heap.push (nst X) } (.ref s.heap.objs.size) "set":=⟨_,hS,rfl⟩
      have hli:=F.called_set.init.lookup
      have hbi:=F.called_set.init.bind (.ref s.heap.objs.size)
      repeat (any_goals (first | assumption | wp_step))
      have hf:=I.free (a:=s.heap.objs.size) (Z6q _)
      refine codeAny_mono (codeAny_call_builtin (R:=wants (λ r s₂=>r=.none∧Upd X W σ s.heap.objs.size (!byT X) xs xs.length s₂) E) F.called_set.init.plain F.entry_set_init (check_set_init_1 hT ?_)) λ r₂ s₂ hr₂=>?_
      · obtain ⟨ol,hol,hcl,nl,hdl⟩:=hl
        obtain ⟨ocls,odict,odata,oslots⟩:=ol
        simp only at hcl hdl
        subst hcl; subst hdl
        have hol':(s.heap.push (nst X)).get? l=some { cls:=.type "list",dict:=odict,data:=.seq items nl,slots:=oslots }:=Z7n _ hol
        have hsls:=F.sub_list_set
        have hslf:=F.sub_list_frozenset
        have hne:(Value.type "list"==Value.type "dict")=false:=by decide
        have hl1:(s.heap.push (nst X)).IsList l items:=⟨_,hol',rfl,nl,rfl⟩
        unfold Builtin.«set.__init__» noKeywords Builtin.Frozenset.updateFrom
        generalize hPI:pyIter=PI
        wp_walk
        subst hPI
        refine wpAny_pyIter_list hl1 ?_
        refine Z7p (wpAny_runValue ?_)
        have hlS:l < s.heap.objs.size:=Heap.lt_size hol
        have hh3:A.in1.in1.in1.handled=none:=by simp [hh]
        have hneI:l≠(s.heap.push (nst X)).objs.size:=by
          rw [Heap.size_push]; exact Nat.ne_of_lt (Nat.lt_succ_of_lt hlS)
        have hSf:s.heap.objs.size ∉ [(s.heap.push (nst X)).objs.size,l]:=by
          rw [Heap.size_push]; simp only [Z7a,List.not_mem_nil,or_false,not_or]
          exact ⟨Nat.ne_of_lt (Z6z _),Nat.ne_of_gt hlS⟩
        have hfl:∀ a∈[(s.heap.push (nst X)).objs.size],W a=.free:=λ a ha=>by
          rw [Z7c.mp ha,Heap.size_push]; exact I.free (Nat.le_succ _)
        have hP:∀ (i:Nat) (v:Value),items[i]? = some v→∃ c,xs[i]? = some c∧VRel W v c:=λ i v hv=>hr.get' (Z7i.trans hv)
        have Wk:=WalksS.imp (prog:=pp) (w:=X.w) (Walks.list hh3 (s.heap.push (nst X)).objs.size l hneI items).toS hP
        rw [hr.size] at Wk
        have I2:Inv X W σ { s with heap:=(s.heap.push (nst X)).push { cls:=.type "list_iterator",data:=.fields #[.ref l,.int 0 0] } }:=I.keeps (tk:=s.toks) λ a o e=>Z7n _ (Z7n _ e)
        refine Zny (led:=!byT X) (σ:=σ) Wk hSf hf hfl hk (Z6u (Z6w (Z6y rfl:3≤30) A.units) hA) hz (xs.length-0) 0 _ rfl (Z63 _) ⟨⟨_,Z7o _ rfl,rfl,rfl⟩,(hl1.push _)⟩
          ⟨I2,[],Zvq (Z7n _ hS),λ x=>.rfl⟩ λ s' hm U=>?_
        exact Z7q (Z7q ⟨rfl,U⟩)
      · cases r₂ with
        | error e=>exact hr₂
        | ok fl₂=>
          cases fl₂ with
          | ret r=>
            obtain ⟨rfl,U⟩:=hr₂
            repeat (any_goals (first | assumption | wp_step))
            obtain ⟨cs,C,hcs⟩:=U.set
            exact h _ cs U.inv hf C λ x=>by rw [hcs,List.take_length]
          | _=>exact hr₂.elim
    | _=>exact hr'.elim
end PL
end
section
open PySem PySem.W PyProof.Rows
namespace PL
theorem Zz3:Manifest.owners.lookup (String.ofList ['r','o','t','a','r','e','t','i','_','t','e','s'].reverse)=some Manifest.sig_set_iterator:=by kernel_rfl
theorem Yt:Slot "set_iterator" "__next__" "set_iterator.__next__":=
  .of (owner:="set_iterator") (n:="__next__") (by rw [typeLookup_type,builtinLookup_eq_fast]; kernel_rfl) (by decide +kernel) (by decide +kernel) (by decide +kernel)
    (by first | exact .inl (by decide +kernel) | exact .inr (by decide +kernel)) (by rw [isSubtype_type]; kernel_rfl)
theorem Zd2:entryFor table "set_iterator.__next__"=some Builtin.«set_iterator.__next__»:=entryFor_of_tree (by kernel_rfl)
theorem Zfk (a:Value):argsOk "set_iterator.__next__" ⟨[a],[]⟩:=by
  unfold argsOk; rw [signature?_of (id:="set_iterator.__next__") (n:=['_','_','t','x','e','n','_','_']) (o:=['r','o','t','a','r','e','t','i','_','t','e','s']) (by kernel_rfl) Zz3]; kernel_rfl
theorem Ze1:Slot "set_iterator" "__iter__" "set_iterator.__iter__":=
  .of (owner:="set_iterator") (n:="__iter__") (by rw [typeLookup_type,builtinLookup_eq_fast]; kernel_rfl) (by decide +kernel) (by decide +kernel) (by decide +kernel)
    (by first | exact .inl (by decide +kernel) | exact .inr (by decide +kernel)) (by rw [isSubtype_type]; kernel_rfl)
theorem Zk8:entryFor table "set_iterator.__iter__"=some Builtin.«dict_keyiterator.__iter__»:=
  entryFor_alias (id':="dict_keyiterator.__iter__") (by kernel_rfl) rfl (by decide +kernel) (by kernel_rfl)
theorem Znw (a:Value):argsOk "set_iterator.__iter__" ⟨[a],[]⟩:=by
  unfold argsOk; rw [signature?_of (id:="set_iterator.__iter__") (n:=['_','_','r','e','t','i','_','_']) (o:=['r','o','t','a','r','e','t','i','_','t','e','s']) (by kernel_rfl) Zz3]; kernel_rfl
theorem Zia:entryFor table "set.__iter__"=some Builtin.«frozenset.__iter__»:=
  entryFor_alias (id':="frozenset.__iter__") (by kernel_rfl) rfl (by decide +kernel) (by kernel_rfl)
variable {M:Model} {A:Around} {E:Value→Shared→Prop}
theorem Zlm {src:Source} {n:Nat} {Q:Nat→Shared→Prop} {s:Shared} (hn:n≠0) (h:∀ k d,k < n→Q k { s with drawn:=d }):wpAny M A (choose src n) Q E s:=λ Γ p hΓ=>by
  show Sem.wp M Γ (.choose src n .pure) _ _ p s
  rw [Sem.wp_choose]
  exact ⟨hn,h _ _ (Nat.mod_lt _ (Nat.pos_of_ne_zero hn))⟩
theorem Zi9 {α:Type} {l:List α} {i:Nat} (h:i < l.length):(l[i]::l.eraseIdx i).Perm l:=by
  have e:l.take i++l[i]::l.drop (i+1)=l:=by rw [← List.drop_eq_getElem_cons h,List.take_append_drop]
  have p:=(List.perm_middle (a:=l[i]) (l₁:=l.take i) (l₂:=l.drop (i+1))).symm
  rw [e] at p
  rwa [List.eraseIdx_eq_take_drop_succ]
theorem Zje {α:Type}:∀ (n:Nat) (xs:List α) {s:Shared} {Q:List α→Shared→Prop},xs.length≤n→(∀ ys d,ys.Perm xs→Q ys { s with drawn:=d })→wpAny M A (drawOrder n xs) Q E s
  | 0,xs,s,Q,hn,h=>by
    obtain rfl:=List.eq_nil_of_length_eq_zero (Nat.le_zero.mp hn)
    exact Z7q (h [] s.drawn (.refl _))
  | n+1,[],s,Q,hn,h=>Z7q (h [] s.drawn (.refl _))
  | n+1,x::xs,s,Q,hn,h=>by
    refine Z7p (m:=choose .order (x::xs).length) (Zlm (Nat.succ_ne_zero _) λ k d hk=>?_)
    refine eqE (Z7l hk) ?_
    refine Z7p (Zje n _ ?_ λ ys d' hp=>Z7q (h _ d' ?_))
    · rw [List.length_eraseIdx_of_lt hk]; exact Nat.sub_le_of_le_add hn
    · exact (hp.cons _).trans (Zi9 hk)
theorem Zl8 {α:Type} (next:Nat→Nat):∀ (fuel k:Nat) (left:List α) (out:Array α),left.length≤fuel→(pickOrder.go next fuel k left out).toList.Perm (out.toList++left)
  | 0,k,left,out,h=>by
    rw [List.eq_nil_of_length_eq_zero (Nat.le_zero.mp h),List.append_nil]; exact .refl _
  | fuel+1,k,left,out,h=>by
    cases left with
    | nil=>rw [List.append_nil]; exact .refl _
    | cons x xs=>
      have hk:next k % (x::xs).length < (x::xs).length:=Nat.mod_lt _ (Nat.succ_pos _)
      show (match (x::xs)[next k % (x::xs).length]? with | some y=>pickOrder.go next fuel (k+1) ((x::xs).eraseIdx (next k % (x::xs).length)) (out.push y) | none=>out).toList.Perm _
      refine eqE (Z7l hk) ?_
      refine (Zl8 next fuel (k+1) _ _ ?_).trans ?_
      · rw [List.length_eraseIdx_of_lt hk]; exact Nat.sub_le_of_le_add h
      · rw [Array.toList_push,Z7d]
        exact (Zi9 hk).append_left _
theorem Zh0 {α:Type} (next:Nat→Nat) (xs:Array α):(pickOrder next xs).toList.Perm xs.toList:=Zl8 next xs.size 0 xs.toList #[] (Z62 Z7k)
end PL
end
section
open PySem PySem.W PyProof.Rows
namespace PL
variable {X:Cx} {W:Wd} {σ:St} {s:Shared} {A:Around} {E:Value→Shared→Prop}
noncomputable abbrev siO (S:Addr) (first:Value) (i n ep:Nat):Obj:={ cls:=.type "set_iterator",data:=.fields #[first,.int i 0,.ref S,.int n 0,.int ep 0] }
noncomputable abbrev seO (es:Array (Int×Value)) (ep:Nat) (t:SetTable):Obj:={ cls:=.type "set",dict:=none,data:=.set es ep t }
inductive Road (X:Cx) (S:Addr) (es:Array (Int×Value)) (ep:Nat) (t:SetTable) (ord:List (Int×Value)) (T:Addr) (h:Heap) (i:Nat):Value→Prop where
  | text (hb:byT X=true) (k:Nat) (e:ord=(pickOrder (X.w.params.setOrder S ep) es).toList):Road X S es ep t ord T h i (.int k 0)
  | place (hb:byT X=false) (hp:(!t.plain&&decide (es.size > 1))=false) (hl:t.led=true) (e:ord=es.toList) (k:Nat) (hk:SetTable.below t.place k=i):Road X S es ep t ord T h i (.int k 0)
  | drawn (ps:List Nat) (ht:h.IsTuple T (ps.map λ (p:Nat)=>rawInt p).toArray) (e:ord=ps.map λ p=>es.getD p (0,.none)) (hp:∀ p∈ps,p < es.size):Road X S es ep t ord T h i (.ref T)
@[elab_as_elim] theorem Road.el {S:Addr} {es:Array (Int×Value)} {ep:Nat} {t:SetTable} {ord:List (Int×Value)} {T:Addr} {h:Heap} {i:Nat} {motive:Value→Prop} {v:Value} (r:Road X S es ep t ord T h i v) (h1:∀ k:Nat,byT X=true→ord=(pickOrder (X.w.params.setOrder S ep) es).toList→motive (.int k 0))
    (h2:∀ k:Nat,byT X=false→(!t.plain&&decide (es.size > 1))=false→t.led=true→ord=es.toList→SetTable.below t.place k=i→motive (.int k 0))
    (h3:∀ ps:List Nat,h.IsTuple T (ps.map λ (p:Nat)=>rawInt p).toArray→(ord=ps.map λ p=>es.getD p (0,.none))→(∀ p∈ps,p < es.size)→motive (.ref T)):motive v:=
  Road.casesOn (motive:=λ v zz=>motive v) r (λ hb k e=>h1 k hb e) (λ hb hp hl e k hk=>h2 k hb hp hl e hk) h3
theorem Zvi {n:Nat}:¬ (((n:Int) != (n:Int))=true):=by rw [bne_self_eq_false]; exact Z7w
theorem Zoo {n:Nat}:¬ ((n != (n:Int).toNat)=true):=by rw [Int.toNat_natCast,bne_self_eq_false]; exact Z7w
structure SiSt (X:Cx) (I S:Addr) (es:Array (Int×Value)) (ep:Nat) (t:SetTable) (ord:List (Int×Value)) (T:Addr) (i:Nat) (s:Shared):Prop where
  it:∃ first,s.heap.get? I=some (siO S first i es.size ep)∧Road X S es ep t ord T s.heap i first
  set:s.heap.get? S=some (seO es ep t)
theorem Road.move {S:Addr} {es:Array (Int×Value)} {ep:Nat} {t:SetTable} {ord:List (Int×Value)} {T:Addr} {h h':Heap} {i:Nat} {v:Value} (r:Road X S es ep t ord T h i v) (hT:∀ o,h.get? T=some o→h'.get? T=some o):Road X S es ep t ord T h' i v:=by
  cases r with
  | text hb k e=>exact .text hb k e
  | place hb hp hl e k hk=>exact .place hb hp hl e k hk
  | drawn ps ht e hp=>exact .drawn ps (ht.at hT) e hp
theorem Zf6 {I S:Addr} {first:Value} {i n ep:Nat} (h:s.heap.get? I=some (siO S first i n ep)):s.TypeIs (.ref I) "set_iterator":=⟨_,h,rfl⟩
theorem Zb3 {Q:Bool→Shared→Prop} (h:Q (byT X) s):wpAny (model pp X.w) A setsByText Q E s:=Z7p (wpAny_askSetting (Z7q h))
theorem Zln {S:Addr} {es:Array (Int×Value)} {ep:Nat} {t:SetTable} (hS:s.heap.get? S=some (seO es ep t)) (hf:t.fits es.size=true) (hb:byT X=true) {Q:Array (Int×Value)→Shared→Prop} (h:Q (pickOrder (X.w.params.setOrder S ep) es) s):wpAny (model pp X.w) A (setWalk S) Q E s:=by
  unfold setWalk
  refine Z7p (wpAny_setState_of hS rfl hf (Z7p (Zb3 ?_)))
  rw [hb]
  exact Z7p (wpAny_askSetting (Z7q h))
theorem Zt5 {I S:Addr} {first:Value} {i n ep:Nat} {x:Value} {P:PySem.Fin→Shared→Prop} (ho:s.heap.get? I=some (siO S first i n ep)) (h:∀ h',Heap.SameBut I s.heap h'→h'.get? I=some (siO S first (i+1) n ep)→P (.done (.ret x)) { s with heap:=h' }):
    wpAny (model pp X.w) A (do setField (.ref I) 1 (rawInt ((i:Int)+1)); ret x) P E s:=
  Z7p (wpAny_setField_rec ho (Nat.lt_of_sub_eq_succ rfl) λ h' g hs=>Z7q (h h' hs g))
theorem Zp3 {I S:Addr} {first first':Value} {i n ep:Nat} {x:Value} {P:PySem.Fin→Shared→Prop} (ho:s.heap.get? I=some (siO S first i n ep)) (h:∀ h',Heap.SameBut I s.heap h'→h'.get? I=some (siO S first' (i+1) n ep)→P (.done (.ret x)) { s with heap:=h' }):
    wpAny (model pp X.w) A (do setField (.ref I) 0 first'; setField (.ref I) 1 (rawInt ((i:Int)+1)); ret x) P E s:=
  Z7p (wpAny_setField_rec ho (Nat.lt_of_sub_eq_succ rfl) λ h1 g1 hs1=>Zt5 (s:={ s with heap:=h1 }) (first:=first') g1 λ h' hs g=>h h' (hs1.trans hs) g)
theorem Zs6 {xs:Array Nat} (hr:Rise xs) {i j:Nat} (h:xs[i]? = some j):SetTable.below xs (j+1)=i+1:=by
  obtain ⟨h1,h2,h3⟩:=Zfw hr (j+1)
  have hi:=(Array.getElem?_eq_some_iff.mp h).1
  refine Nat.le_antisymm (Nat.not_lt.mp λ q=>?_) (Nat.not_le.mp λ q=>Nat.lt_irrefl _ (Nat.lt_of_succ_le (h3 i j q h)))
  have hl:=Z6t q h1
  have hx:xs[i+1]? = some xs[i+1]:=Z7j hl
  exact absurd (hr.lt h hx (Z6z i)) (Nat.not_lt.mpr (Z65 (h2 (i+1) _ q hx)))
theorem Zyg {I S:Addr} {i:Nat} {es:Array (Int×Value)} {ep:Nat} {t:SetTable} {ord:List (Int×Value)} {T:Addr} (hIS:S≠I) (hIT:T≠I) (T0:TabR t es) (hlen:ord.length=es.size) {Q:Option Value→Shared→Prop} (st:SiSt X I S es ep t ord T i s) {e:Int×Value} (he:ord[i]? = some e)
    (h:∀ h',Heap.SameBut I s.heap h'→SiSt X I S es ep t ord T (i+1) { s with heap:=h' }→Q (some e.2) { s with heap:=h' }):wpAny (model pp X.w) A (pyNext (.ref I)) Q E s:=by
  obtain ⟨⟨first,ho,hr⟩,hS⟩:=st
  refine Z7p (wpAny_attempt (wpAny_callSpecial?_slot (name:=Str.ofString "__next__") (Zf6 ho) Yt
    (wpAny_call_entry Yt (Zf6 ho) Zd2 ?_ (Zfk _))))
  refine Z7p (m:=slotArgs _ _ _) (Z7q ?_)
  refine Z7p (wpAny_fieldsOf ho rfl ?_)
  dsimp only
  refine Z7p (wpAny_setEntries_of hS rfl T0.fits (wpN Zvi ?_))
  have e1:(pickOrder (X.w.params.setOrder S ep) es)[i]? = (pickOrder (X.w.params.setOrder S ep) es).toList[i]?:=Z7i.symm
  revert ho
  refine hr.el (λ k hb e' ho=>?_) (λ k hb hp hl e' hk ho=>?_) λ ps ht e' hp ho=>?_
  · refine Z7p (m:=setNext S _ _ _) (Z7p (wpAny_setState_of hS rfl T0.fits (Z7p (Zb3 (wpI hb (wpN Zoo (Z7p (Zln hS T0.fits hb (Z7q ?_)))))))))
    refine eqE (e1.trans (e'▸he)) ?_
    exact Zp3 ho λ h' hs g=>⟨_,rfl,Z7q (h h' hs ⟨⟨_,g,.text hb _ e'⟩,(hs.2 S hIS).trans hS⟩)⟩
  · refine Z7p (m:=setNext S _ _ _) (Z7p (wpAny_setState_of hS rfl T0.fits (Z7p (Zb3 (wpN (λ q=>nomatch hb.symm.trans q) (wpN (λ q=>nomatch hp.symm.trans q) ?_))))))
    refine Z7p (show wpAny _ _ (if (!t.led&&!es.isEmpty)=true then unsupported _ else pure ()) _ _ _ from wpN (by rw [hl]; exact Z7w) (Z7q ?_))
    have hei:es[i]? = some e:=by rw [← Z7i,← e']; exact he
    obtain ⟨j,hpl⟩:∃ j,t.place[i]? = some j:=⟨_,Z7j (T0.len▸(Array.getElem?_eq_some_iff.mp hei).1)⟩
    refine eqE (show SetTable.below t.place (k:Int).toNat=i from hk) ?_
    dsimp only
    refine eqE hei (eqE hpl ?_)
    exact Z7q (Zp3 ho λ h' hs g=>⟨_,rfl,Z7q (h h' hs ⟨⟨_,g,.place hb hp hl e' (j+1) (Zs6 T0.rise hpl)⟩,(hs.2 S hIS).trans hS⟩)⟩)
  · obtain ⟨oT,hoT,zz,nT,hdT⟩:=ht
    have hpi:∃ p,ps[i]? = some p∧es.getD p (0,.none)=e:=by
      rw [e',List.getElem?_map] at he
      exact Z7h.mp he
    obtain ⟨p,hpp,hpe⟩:=hpi
    have hpl:=hp p (Z7z hpp)
    have hep:es[p]? = some e:=by rw [← hpe,Array.getD_eq_getD_getElem?,Z7j hpl]; rfl
    refine Z7p (m:=seqItems? (.ref T)) (wpAny_seqItems hoT hdT ?_)
    dsimp only
    refine eqE (show (ps.map λ (p:Nat)=>rawInt p).toArray[(i:Int).toNat]? = some (rawInt p) by rw [Int.toNat_natCast,List.getElem?_toArray,List.getElem?_map,hpp]; rfl) ?_
    refine Z7p (m:=setNextDrawn S _ _) (Z7p (wpAny_setState_of hS rfl T0.fits (wpN Zoo ?_)))
    refine eqE (show es[(p:Int).toNat]? = some e from hep) ?_
    exact Z7q (Zt5 ho λ h' hs g=>⟨_,rfl,Z7q (h h' hs ⟨⟨_,g,.drawn ps ⟨oT,(hs.2 T hIT).trans hoT,‹_›,nT,hdT⟩ e' hp⟩,(hs.2 S hIS).trans hS⟩)⟩)
end PL
end
section
open PySem PySem.W PyProof.Rows
namespace PL
variable {X:Cx} {W:Wd} {σ:St} {s:Shared} {A:Around} {E:Value→Shared→Prop}
theorem Zn3 {B:Around} {Q:Option Value→Shared→Prop} {P:PySem.Fin→Shared→Prop} (hh:A.handled=none) (h:∀ h',(∀ a o,s.heap.get? a=some o→h'.get? a=some o)→Q none { s with heap:=h' }):
    wpAny (model pp X.w) A (do let e ← newExc (.type "StopIteration") []; raiseNew e) P (λ e s'=>wpAny (model pp X.w) B (do let b ← isInstance e (.type "StopIteration"); if b=true then pure none else throw e) Q E s') s:=by
  refine Z7p ?_
  simp only [newExc,newTuple]
  refine Z7p (wpAny_newObj_type ?_ (by size_fits))
  refine Z7p (m:=firstArgMember _ _) (wpAny_of_eq (a:=Value.none) (by first | rfl | (simp only [firstArgMember]; rfl)) ?_)
  refine wpAny_newObj_type ?_ (by size_fits)
  refine Z7p (wpAny_handled (eqE hh ?_))
  refine Z7p (Z7q (wpAny_throw ?_))
  refine Z7p (wpAny_isInstance (T:="StopIteration") (b:=true) ⟨_,Z7o _ rfl,rfl⟩ isSubtype_stop ?_)
  exact Z7q (h _ λ a o e=>Z7n _ (Z7n _ e))
theorem Zyh {I S:Addr} {es:Array (Int×Value)} {ep:Nat} {t:SetTable} {ord:List (Int×Value)} {T:Addr} (hh:A.handled=none) (T0:TabR t es) (hlen:ord.length=es.size) {Q:Option Value→Shared→Prop} (st:SiSt X I S es ep t ord T es.size s)
    (h:∀ h',(∀ a o,a≠I→s.heap.get? a=some o→h'.get? a=some o)→Q none { s with heap:=h' }):wpAny (model pp X.w) A (pyNext (.ref I)) Q E s:=by
  obtain ⟨⟨first,ho,hr⟩,hS⟩:=st
  refine Z7p (wpAny_attempt (wpAny_callSpecial?_slot (name:=Str.ofString "__next__") (Zf6 ho) Yt
    (wpAny_call_entry Yt (Zf6 ho) Zd2 ?_ (Zfk _))))
  refine Z7p (m:=slotArgs _ _ _) (Z7q ?_)
  refine Z7p (wpAny_fieldsOf ho rfl ?_)
  dsimp only
  refine Z7p (wpAny_setEntries_of hS rfl T0.fits (wpN Zvi ?_))
  have hend:∀ {h1:Heap},Heap.SameBut I s.heap h1→∀ h',(∀ a o,h1.get? a=some o→h'.get? a=some o)→Q none { s with heap:=h' }:=λ hs h' hk=>h h' λ a o ha e=>hk a o ((hs.2 a ha).trans e)
  have hno:ord[es.size]? = none:=List.getElem?_eq_none (Z62 hlen)
  revert ho
  refine hr.el (λ k hb e' ho=>?_) (λ k hb hp hl e' hk ho=>?_) λ ps ht e' hp ho=>?_
  · refine Z7p (m:=setNext S _ _ _) (Z7p (wpAny_setState_of hS rfl T0.fits (Z7p (Zb3 (wpI hb (wpN Zoo (Z7p (Zln hS T0.fits hb (Z7q ?_)))))))))
    refine eqE (show (pickOrder (X.w.params.setOrder S ep) es)[(es.size:Int).toNat]? = none from Z7i.symm.trans (e'▸hno)) ?_
    exact Z7p (wpAny_setField_rec ho (Nat.lt_of_sub_eq_succ rfl) λ h1 zz hs=>Zn3 (s:={ s with heap:=h1 }) (A:=A.in1) hh (hend hs))
  · refine Z7p (m:=setNext S _ _ _) (Z7p (wpAny_setState_of hS rfl T0.fits (Z7p (Zb3 (wpN (λ q=>nomatch hb.symm.trans q) (wpN (λ q=>nomatch hp.symm.trans q) ?_))))))
    refine Z7p (show wpAny _ _ (if (!t.led&&!es.isEmpty)=true then unsupported _ else pure ()) _ _ _ from wpN (by rw [hl]; exact Z7w) (Z7q ?_))
    refine eqE (show SetTable.below t.place (k:Int).toNat=es.size from hk) ?_
    dsimp only
    refine eqE (Array.getElem?_eq_none (xs:=es) (Z6q _)) ?_
    exact Z7q (Z7p (wpAny_setField_rec ho (Nat.lt_of_sub_eq_succ rfl) λ h1 zz hs=>Zn3 (s:={ s with heap:=h1 }) (A:=A.in1) hh (hend hs)))
  · obtain ⟨oT,hoT,zz,nT,hdT⟩:=ht
    refine Z7p (m:=seqItems? (.ref T)) (wpAny_seqItems hoT hdT ?_)
    dsimp only
    refine eqE (show (ps.map λ (p:Nat)=>rawInt p).toArray[(es.size:Int).toNat]? = none by rw [Int.toNat_natCast,List.getElem?_toArray]; exact List.getElem?_eq_none (by rw [Z68,← hlen,e',Z68]; exact Z6q _)) ?_
    exact Z7p (wpAny_setField_rec ho (Nat.lt_of_sub_eq_succ rfl) λ h1 g1 hs=>Z7p (wpAny_setField_rec (s:={ s with heap:=h1 }) g1 (Nat.lt_of_sub_eq_succ rfl) λ h2 zz hs2=>Zn3 (s:={ s with heap:=h2 }) (A:=A.in1) hh (hend (hs.trans hs2))))
theorem Ztc {I S T:Addr} {es:Array (Int×Value)} {ep:Nat} {t:SetTable} {ord:List (Int×Value)} (hh:A.handled=none) (hIS:S≠I) (hIT:T≠I) (T0:TabR t es) (hlen:ord.length=es.size):
    WalksS pp X.w A I [I,S,T] [I] (λ a b=>b=a) es.size (λ i v=>∃ e,ord[i]? = some e∧v=e.2) (SiSt X I S es ep t ord T) where
  sub:=λ b hb=>Z7a.mpr (.inl (Z7c.mp hb))
  grefl:=λ zz=>rfl
  gtrans:=λ zz zz zz h1 h2=>h2.trans h1
  frame:=λ i s h' tk st zz hk=>⟨let ⟨f,e,r⟩:=st.it; ⟨f,hk I Z66 _ e,r.move (hk T (Z67 _ (Z67 _ Z66)))⟩,hk S (Z67 _ Z66) _ st.set⟩
  item:=λ i s Q E hi st hQ=>by
    have he:ord[i]? = some ord[i]:=Z7l (hlen▸hi)
    exact Zyg hIS hIT T0 hlen st he λ h' hs st'=>hQ _ _ ⟨_,he,rfl⟩ st' ⟨λ b o hb e=>(hs.2 b (λ q=>hb (q▸Z66))).trans e,rfl,rfl,rfl,Z6q _⟩
  done:=λ s Q E st hQ=>Zyh hh T0 hlen st λ h' hk=>hQ _ ⟨λ b o hb e=>hk b o (λ q=>hb (q▸Z66)) e,rfl,rfl,rfl,Z6q _⟩
  self:=λ i s Q E st hQ=>let ⟨f,e,r⟩:=st.it; wpAny_pyIter_slot (Zf6 e) Ze1 (wpAny_call_entry Ze1 (Zf6 e) Zk8 (Z7q ⟨_,rfl,"set_iterator",_,Zf6 e,Yt.lookup,hQ⟩) (Znw _))
end PL
end
section
open PySem PySem.W PyProof.Rows
namespace PL
variable {X:Cx} {W:Wd} {σ:St} {s:Shared} {A:Around} {E:Value→Shared→Prop}
theorem Zj3 {S:Addr} {es:Array (Int×Value)} {ep:Nat} {t:SetTable} (h:s.heap.get? S=some (seO es ep t)):s.TypeIs (.ref S) "set":=⟨_,h,rfl⟩
theorem Zuw {es:Array (Int×Value)} {d:Int×Value}:(List.range es.size).map (λ p=>es.getD p d)=es.toList:=by
  refine List.ext_getElem? λ i=>?_
  rw [List.getElem?_map,Z7i (xs:=es)]
  by_cases h:i < es.size
  · rw [List.getElem?_range h,Z7j h,Option.map_some,Array.getD_eq_getD_getElem?,Z7j h]; rfl
  · rw [Array.getElem?_eq_none (Nat.not_lt.mp h),List.getElem?_eq_none (by rw [List.length_range]; exact Nat.not_lt.mp h)]; rfl
theorem Zs5 (xs:Array Nat) (hr:Rise xs):SetTable.below xs 0=0:=by
  obtain ⟨h1,h2,zz⟩:=Zfw hr 0
  refine Nat.eq_zero_of_not_pos λ q=>?_
  exact Nat.not_lt_zero _ (h2 0 _ q (Z7j (Z6t q h1)))
theorem Za9 (h:Heap) (o:Obj):h.objs.size < (h.push o).objs.size:=by rw [Heap.size_push]; exact Z6z _
theorem Zyq {S:Addr} {es:Array (Int×Value)} {ep:Nat} {t:SetTable} (hS:s.heap.get? S=some (seO es ep t)) (T0:TabR t es) (hled:t.led=!byT X) (hz:es.size≤64) {Q:Value→Shared→Prop}
    (h:∀ h' d I T ord,ord.Perm es.toList→SiSt X I S es ep t ord T 0 { s with heap:=h',drawn:=d }→(∀ a o,s.heap.get? a=some o→h'.get? a=some o)→I < h'.objs.size→s.heap.objs.size≤I→(T=S∨s.heap.objs.size≤T)→T≠I→Q (.ref I) { s with heap:=h',drawn:=d }):
    wpAny (model pp X.w) A (pyIter (.ref S)) Q E s:=by
  refine wpAny_pyIter_slot (Zj3 hS) F.slot_set_iter (wpAny_call_entry F.slot_set_iter (Zj3 hS) Zia ?_ (F.args_set_iter_1 _))
  refine Z7p (m:=Builtin.Frozenset.slot0 _ _) (Z7q (a:=S) ?_)
  refine Z7p (m:=Builtin.Frozenset.sizeOf S) (Z7p (wpAny_setEntries_of hS rfl T0.fits (Z7q ?_)))
  refine Z7p (m:=setDrawn S) (Z7p (wpAny_setState_of hS rfl T0.fits (Z7p (Zb3 ?_))))
  have hlt:=Heap.lt_size hS
  refine Z7q ?_
  split
  · rename_i q
    refine Z7p (Zje es.size (List.range es.size) (Z62 List.length_range) λ ps d hp=>?_)
    have hps:∀ p∈ps,p < es.size:=λ p h=>List.mem_range.mp (hp.mem_iff.mp h)
    have hlen:ps.length≤64:=by rw [hp.length_eq,List.length_range]; exact hz
    refine Z7p (wpAny_newTuple ?_ (by rw [Z68]; exact Zi3 hlen))
    have hS1:(s.heap.push { cls:=.type "tuple",data:=.seq (ps.map λ (p:Nat)=>rawInt p).toArray }).get? S=some (seO es ep t):=Z7n _ hS
    refine Z7p (wpAny_setEpoch_of hS1 rfl T0.fits ?_)
    refine Z7p (m:=newFields _ _) (wpAny_newObj_type (Z7q ⟨_,rfl,"set_iterator",_,⟨_,Z7o _ rfl,rfl⟩,Yt.lookup,?_⟩) (by size_fits))
    refine h _ d _ s.heap.objs.size (ps.map λ p=>es.getD p (0,.none)) ((hp.map _).trans (.of_eq Zuw)) ⟨⟨.ref s.heap.objs.size,Z7o _ rfl,.drawn ps ⟨_,Z7n _ (Z7o _ rfl),rfl,0,rfl⟩ rfl hps⟩,Z7n _ hS1⟩ (λ a o e=>Z7n _ (Z7n _ e)) (Za9 _ _) (Z64 (Za9 _ _)) (.inr (Z6q _)) (Nat.ne_of_lt (Za9 _ _))
  · rename_i q
    refine Z7p (Z7q ?_)
    refine Z7p (wpAny_setEpoch_of hS rfl T0.fits ?_)
    refine Z7p (m:=newFields _ _) (wpAny_newObj_type (Z7q ⟨_,rfl,"set_iterator",_,⟨_,Z7o _ rfl,rfl⟩,Yt.lookup,?_⟩) (by size_fits))
    have fin:∀ ord,ord.Perm es.toList→Road X S es ep t ord S (s.heap.push (siO S (.int 0 0) 0 es.size ep)) 0 (.int 0 0)→Q (.ref s.heap.objs.size) { s with heap:=s.heap.push (siO S (.int 0 0) 0 es.size ep) }:=λ ord p r=>
      h _ s.drawn _ S ord p ⟨⟨_,Z7o _ rfl,r⟩,Z7n _ hS⟩ (λ a o e=>Z7n _ e) (Za9 _ _) (Z6q _) (.inl rfl) (Nat.ne_of_lt hlt)
    cases hb:byT X with
    | true=>exact fin _ (Zh0 _ _) (.text hb 0 rfl)
    | false=>
      rw [hb] at q hled
      exact fin _ (.refl _) (.place hb ((Bool.not_eq_true _).mp q) hled rfl 0 (Zs5 _ T0.rise))
end PL
end
section
open PySem PySem.W PyProof.Rows
namespace PL
variable {X:Cx} {W:Wd} {σ:St} {s:Shared} {A:Around} {E:Value→Shared→Prop}
theorem Zn0:isSubtype (.type "set") (.type "set")=pure true:=by rw [isSubtype_type]; kernel_rfl
theorem Zyu {S:Addr} {Q:Bool→Shared→Prop} (hT:s.TypeIs (.ref S) "set") (h:Q false s):wpAny (model pp X.w) A (Builtin.List.listLengthHint (.ref S)) Q E s:=by
  refine Z7p (wpAny_specialOf hT F.slot_set_len.lookup ?_)
  dsimp only
  refine eqE (show splitId "set.__len__"=some ("set","__len__") by decide +kernel) ?_
  refine Z7p (wpAny_isInstance (b:=true) hT Zn0 (wpN (λ q=>nomatch q) (wpI (by decide +kernel) ?_)))
  exact Z7p (wpAny_typeOf hT (Z7q h))
theorem Zpf {S:Addr} {cs:List AVal} (I:Inv X W σ s) (C:SetI X W s.heap S (!byT X) cs) (hh:A.handled=none) (hz:cs.length≤64) {Q:List Value→Shared→Prop}
    (h:∀ s' acc cs',Inv X W σ s'→cs'.Perm cs→VRels W acc cs'→Q acc s'):wpAny (model pp X.w) A (collect (.ref S)) Q E s:=by
  obtain ⟨es,t,C,hl⟩:=C.ex
  obtain ⟨ep,ho⟩:=C.obj
  have hlt:=Heap.lt_size ho
  refine Z7p (wpAny_runValue (codeAny_builtin F.entry_proto_collect ?_))
  rw [Around.under_plainId F.plain_proto_collect _]
  show wpAny _ A.in1 (newList [] >>= λ l=>again (.builtin "list.__iadd__" ⟨[l,.ref S],[]⟩)) _ _ s
  refine Z7p (wpAny_newObj_type ?_)
  refine Z7q ⟨plainId_quiet F.plain_list_iadd _,codeAny_builtin F.entry_list_iadd ?_⟩
  rw [Around.under_plainId F.plain_list_iadd _]
  have hL:(s.heap.push (seqObj "list" ([]:List Value).toArray 0)).get? s.heap.objs.size=some (seqObj "list" ([]:List Value).toArray 0):=Z7o _ rfl
  have hS1:(s.heap.push (seqObj "list" ([]:List Value).toArray 0)).get? S=some (seO es ep t):=Z7n _ ho
  have h1:Builtin.List.listSameRef (.ref s.heap.objs.size) (.ref S)=false:=Z7v.mpr (Nat.ne_of_gt hlt)
  show wpAny _ A.in1 (Builtin.List.listExtendWith (.ref s.heap.objs.size) (.ref S) (.ref s.heap.objs.size)) _ _ _
  refine Z7p (wpAny_typeOf (Zj3 hS1) ?_)
  refine wpN (by rw [h1]; decide) ?_
  have hsz:es.size≤64:=C.size▸hz
  refine Z7p (Zyq hS1 C.tab C.led hsz λ h2 d it T ord hp st hk hI1 hI2 hT1 hT2=>?_)
  have hL2:=hk _ _ hL
  refine Z7p (wpAny_holding (Zyu (Zj3 st.set) (wpI (by decide +kernel) (Z7p (wpAny_rule ?_)))))
  refine Z7p (m:=Builtin.List.listTouch _) (Z7p (listUpdate_at hL2 rfl ?_ (Z63 _) (Z6s _ _)))
  have hL3:=get?_update_seq hL2 (·.push Value.none)
  refine listUpdate_at (s:={ s with heap:=h2.update s.heap.objs.size _,drawn:=d }) hL3 rfl ?_ (by rw [sizeLine_eq]; exact Z6y rfl) (Z63 _)
  obtain ⟨e4,hL4⟩:∃ e,((h2.update s.heap.objs.size (Obj.mapSeq (·.push Value.none))).update s.heap.objs.size (Obj.mapSeq (·.pop))).get? s.heap.objs.size=some (seqObj "list" #[] e):=⟨_,get?_update_seq hL3 (·.pop)⟩
  have hsb:=(Heap.SameBut.update h2 s.heap.objs.size (Obj.mapSeq (·.push Value.none))).trans (Heap.SameBut.update _ s.heap.objs.size (Obj.mapSeq (·.pop)))
  generalize (h2.update s.heap.objs.size (Obj.mapSeq (·.push Value.none))).update s.heap.objs.size (Obj.mapSeq (·.pop))=h4 at hL4 hsb
  have hit:s.heap.objs.size≠it:=Nat.ne_of_lt (Z6t (Za9 _ _) hI2)
  have hLT:s.heap.objs.size≠T:=hT1.elim (λ e=>e▸Nat.ne_of_gt hlt) λ e=>Nat.ne_of_lt (Z6t (Za9 _ _) e)
  have hnot:s.heap.objs.size ∉ [it,S,T]:=λ q=>by
    rcases Z7a.mp q with q | q
    · exact hit q
    rcases Z7a.mp q with q | q
    · exact Nat.ne_of_gt hlt q
    · exact hLT (Z7c.mp q)
  have hlen:ord.length=es.size:=hp.length_eq.trans Z7k
  have Wk:=Ztc (X:=X) (A:=A.in1) (ep:=ep) hh (Nat.ne_of_lt (Nat.lt_trans hlt (Z6t (Za9 _ _) hI2))) hT2 C.tab hlen
  have hfr:∀ a∈s.heap.objs.size::[it],W a=.free:=λ a ha=>by
    rcases Z7a.mp ha with rfl | ha
    · exact I.free (Z6q _)
    · rw [Z7c.mp ha]; exact I.free (Z6p (Z64 (Za9 _ _)) hI2)
  have I4:Inv X W σ { s with heap:=h4,drawn:=d }:=(I.drew d).grow (h':=h4) (tk:=s.toks) λ a o ha e=>(hsb.2 a (λ q=>ha (q▸hfr _ Z66))).trans (hk a o (Z7n _ e))
  refine Z7q ⟨plainId_quiet F.plain_extend_loop _,codeAny_extend_loopS Wk (Zi3 hsz) _ hnot _ es.size 0 _ #[] e4 rfl (Z63 _) (Wk.frame 0 { s with heap:=h2,drawn:=d } h4 s.toks st (Z6q _) λ b hb o e=>(hsb.2 b (λ q=>hnot (q▸hb))).trans e) hL4 (ItemsOf.nil _) λ s' acc' c' hm hS' hacc=>?_⟩
  refine Z7p (wpAny_load hS' (Z7q ?_))
  obtain ⟨cs',p1,r1⟩:=F2.perm hp C.ents
  have hacc':acc'.toList=ord.map (·.2):=List.ext_getElem? λ i=>by
    rw [Z7i,List.getElem?_map]
    cases hq:acc'[i]? with
    | none=>rw [List.getElem?_eq_none (by rw [hlen,← hacc.1]; exact Array.getElem?_eq_none_iff.mp hq)]; rfl
    | some v=>obtain ⟨e,he,rfl⟩:=hacc.2 i v hq; rw [he]; rfl
  rw [hacc']
  exact h s' _ cs' (I4.moved hm hfr) p1 (List.map_id cs'▸F2.map (g:=id) (λ e c r=>r.val) r1)
end PL
end
section
open PySem PySem.W PyProof.Rows
namespace PL
noncomputable def TW (lt:Nat→Nat→Bool) (n:Nat) {α:Type} (t:KasT α):(α→Prop)→Prop:=@KasT.rec α (λ zz=>(α→Prop)→Prop) (λ a Q=>Q a) (λ i j zz ih Q=>i < n∧j < n∧ih (lt i j) Q) t
section
variable {lt:Nat→Nat→Bool} {n:Nat} {α β:Type}
theorem TW.bind {f:α→KasT β} {Q:β→Prop}:∀ {t:KasT α},TW lt n t (λ a=>TW lt n (f a) Q)→TW lt n (t.bind f) Q
  | .ret a,h=>h
  | .ask i j k,h=>⟨h.1,h.2.1,TW.bind (t:=k (lt i j)) h.2.2⟩
theorem TW.mono {Q Q':α→Prop}:∀ {t:KasT α},TW lt n t Q→(∀ a,Q a→Q' a)→TW lt n t Q'
  | .ret a,h,hq=>hq a h
  | .ask i j k,h,hq=>⟨h.1,h.2.1,TW.mono (t:=k (lt i j)) h.2.2 hq⟩
theorem TW.wp {cmp:Nat→Nat→(Bool→Shared→Prop)→Shared→Prop} {s:Shared} (hc:∀ i j C,i < n→j < n→C (lt i j) s→cmp i j C s) {Q:α→Shared→Prop}:∀ {t:KasT α},TW lt n t (λ a=>Q a s)→t.kasWp cmp Q s
  | .ret a,h=>h
  | .ask i j k,h=>hc i j _ h.1 h.2.1 (TW.wp hc (t:=k (lt i j)) h.2.2)
end
structure SO (lt:Nat→Nat→Bool) (n:Nat):Prop where
  irr:∀ i,lt i i=false
  tr:∀ i j k,lt i j=true→lt j k=true→lt i k=true
  tot:∀ i j,i < n→j < n→i≠j→lt i j=true∨lt j i=true
abbrev Pm (n:Nat) (p:Array Nat):Prop:=p.toList.Perm (List.range n)
variable {lt:Nat→Nat→Bool} {n:Nat} {p:Array Nat}
theorem Pm.size (P:Pm n p):p.size=n:=by rw [← Z7k,P.length_eq,List.length_range]
theorem Pm.get (P:Pm n p) {i:Nat} (h:i < n):p[i]? = some (p.getD i 0):=by
  have:=P.size.symm▸h
  rw [Array.getD_eq_getD_getElem?,Z7j this]; rfl
theorem Pm.bd (P:Pm n p) {i:Nat} (h:i < n):p.getD i 0 < n:=List.mem_range.mp (P.mem_iff.mp (List.mem_iff_getElem?.mpr ⟨i,Z7i.trans (P.get h)⟩))
theorem Pm.ne (P:Pm n p) {i j:Nat} (hi:i < n) (hj:j < n) (h:i≠j):p.getD i 0≠p.getD j 0:=λ e=>by
  have hn:p.toList.Nodup:=P.nodup_iff.mpr List.nodup_range
  have h1:=Z7i.trans (P.get hi)
  have h2:=Z7i.trans (P.get hj)
  exact h ((List.getElem?_inj (by rw [Z7k,P.size]; exact hi) hn).mp (h1.trans (e▸h2.symm)))
theorem Pm.rev (P:Pm n p) (i j:Nat):Pm n (kas_rev p i j):=(Array.perm_iff_toList_perm.mp (mirror_perm p i j _)).trans P
theorem Pm.bub (P:Pm n p) (i j:Nat):Pm n (bubble p i j):=(Array.perm_iff_toList_perm.mp (bubble_perm p i j)).trans P
abbrev ltA (lt:Nat→Nat→Bool) (p:Array Nat) (i j:Nat):Prop:=lt (p.getD i 0) (p.getD j 0)=true
theorem SO.no (O:SO lt n) (P:Pm n p) {i j:Nat} (hi:i < n) (hj:j < n) (h:i≠j) (q:¬ ltA lt p i j):ltA lt p j i:=(O.tot _ _ (P.bd hi) (P.bd hj) (P.ne hi hj h)).resolve_left q
abbrev Srt (lt:Nat→Nat→Bool) (p:Array Nat) (m:Nat):Prop:=∀ i j,i < j→j < m→ltA lt p i j
theorem Srt.more (O:SO lt n) {m:Nat} (S:Srt lt p (m+1)) (h:ltA lt p m (m+1)):Srt lt p (m+2):=λ i j hij hj=>by
  rcases Nat.lt_or_eq_of_le (Z65 hj) with hj | rfl
  · exact S i j hij hj
  · rcases Nat.lt_or_eq_of_le (Z65 hij) with hi | rfl
    · exact O.tr _ _ _ (S i m hi (Z6z _)) h
    · exact h
theorem Ztg (O:SO lt n) (P:Pm n p):∀ (f m:Nat),m+1+f=n→Srt lt p (m+1)→TW lt n (kas_asc p f (m+1)) λ r=>m+1≤r∧r≤n∧Srt lt p r∧(r=n∨ltA lt p r (r-1))
  | 0,m,h,S=>⟨Z6q _,Z62 h,S,.inl h⟩
  | f+1,m,h,S=>by
    have hm:m+1 < n:=by lia
    refine ⟨P.bd hm,P.bd (Nat.lt_of_succ_lt hm),?_⟩
    cases q:lt (p.getD (m+1) 0) (p.getD m 0) with
    | true=>
      show TW lt n (if lt (p.getD (m+1) 0) (p.getD m 0)=true then _ else _) _
      rw [if_pos q]
      exact ⟨Z6q _,Z64 hm,S,.inr q⟩
    | false=>
      have q0:¬ ltA lt p (m+1) m:=λ e=>nomatch q.symm.trans e
      show TW lt n (if lt (p.getD (m+1) 0) (p.getD m 0)=true then _ else _) _
      rw [if_neg q0]
      exact (Ztg O P f (m+1) (by lia) (S.more O (O.no P hm (Nat.lt_of_succ_lt hm) (Nat.succ_ne_self m) q0))).mono λ r h=>⟨Z61 h.1,h.2⟩
abbrev Dsc (lt:Nat→Nat→Bool) (p:Array Nat) (m:Nat):Prop:=∀ i j,i < j→j < m→ltA lt p j i
theorem Ztf (O:SO lt n) (P:Pm n p):∀ (f m:Nat),m+1+f=n→Dsc lt p (m+1)→TW lt n (kas_desc f p (m+1) 0) λ r=>r.1=p∧r.2.2=0∧m+1≤r.2.1∧r.2.1≤n∧Dsc lt p r.2.1
  | 0,m,h,S=>⟨rfl,rfl,Z6q _,Z62 h,S⟩
  | f+1,m,h,S=>by
    have hm:m+1 < n:=by lia
    refine ⟨P.bd hm,P.bd (Nat.lt_of_succ_lt hm),?_⟩
    cases q:lt (p.getD (m+1) 0) (p.getD m 0) with
    | true=>
      show TW lt n (if lt (p.getD (m+1) 0) (p.getD m 0)=true then _ else _) _
      rw [if_pos q,if_neg (Nat.lt_irrefl 0)]
      refine (Ztf O P f (m+1) (by lia) λ i j hij hj=>?_).mono λ r h=>⟨h.1,h.2.1,Z61 h.2.2.1,h.2.2.2⟩
      rcases Nat.lt_or_eq_of_le (Z65 hj) with hj | rfl
      · exact S i j hij hj
      · rcases Nat.lt_or_eq_of_le (Z65 hij) with hi | rfl
        · exact O.tr _ _ _ q (S i m hi (Z6z _))
        · exact q
    | false=>
      have q0:¬ ltA lt p (m+1) m:=λ e=>nomatch q.symm.trans e
      show TW lt n (if lt (p.getD (m+1) 0) (p.getD m 0)=true then _ else _) _
      have q':=O.no P hm (Nat.lt_of_succ_lt hm) (Nat.succ_ne_self m) q0
      rw [if_neg q0]
      refine ⟨P.bd (Nat.lt_of_succ_lt hm),P.bd hm,?_⟩
      show TW lt n (if lt (p.getD m 0) (p.getD (m+1) 0)=true then _ else _) _
      rw [if_pos q']
      exact ⟨rfl,rfl,Z6q _,Z64 hm,S⟩
end PL
end
section
open PySem PySem.W PyProof.Rows
namespace PL
variable {lt:Nat→Nat→Bool} {n:Nat} {p:Array Nat}
theorem Z4n (P:Pm n p) {r i:Nat} (hr:r≤n) (hi:i < r):(kas_rev p 0 r).getD i 0=p.getD (r-1-i) 0:=by
  have h1:=getElem?_mirror_all (i:=0) (P.size.symm▸hr) i
  rw [if_pos ⟨Z63 _,hi⟩,Nat.zero_add] at h1
  rw [Array.getD_eq_getD_getElem?,Array.getD_eq_getD_getElem?]
  exact Z7r (·.getD 0) h1
theorem Dsc.rev (P:Pm n p) {r:Nat} (hr:r≤n) (D:Dsc lt p r):Srt lt (kas_rev p 0 r) r:=λ i j hij hj=>by
  unfold ltA
  rw [Z4n P hr (Nat.lt_trans hij hj),Z4n P hr hj]
  exact D _ _ (Nat.sub_lt_sub_left (Z6t hij (Nat.le_sub_one_of_lt hj)) hij) (Z6u (Nat.sub_le _ _) (Nat.sub_lt (Z6u (Z63 _) hj) Nat.zero_lt_one))
theorem Zxf (O:SO lt n) (P:Pm n p) (hn:1≤n):TW lt n (kas_count n p) λ r=>1≤r.1∧r.1≤n∧Pm n r.2∧Srt lt r.2 r.1:=by
  refine TW.bind ((Ztg O P (n-1) 0 (by omega) λ i j hij hj=>absurd hj (by omega)).mono λ r ⟨h1,h2,S,h3⟩=>?_)
  show TW lt n (if (r==n)=true then _ else _) _
  by_cases e:(r==n)=true
  · rw [if_pos e]; exact ⟨h1,h2,P,S⟩
  · rw [if_neg e]
    have hrn:r < n:=Nat.lt_of_le_of_ne h2 λ q=>e (beq_iff_eq.mpr q)
    by_cases h:r > 1
    · rw [if_pos h]
      refine ⟨P.bd (by omega),P.bd (by omega),?_⟩
      show TW lt n (if lt (p.getD 0 0) (p.getD (r-1) 0)=true then _ else _) _
      rw [if_pos (S 0 (r-1) (by omega) (by omega))]
      exact ⟨h1,h2,P,S⟩
    · rw [if_neg h]
      obtain rfl:r=1:=by omega
      have hd:ltA lt p 1 0:=h3.resolve_left (Nat.ne_of_lt hrn)
      refine TW.bind ((Ztf O P (n-2) 1 (by omega) λ i j hij hj=>?_).mono ?_)
      · obtain rfl:j=1:=by omega
        obtain rfl:i=0:=by lia
        exact hd
      rintro ⟨p',m,q⟩ ⟨rfl,rfl,h4,h5,D⟩
      show TW lt n (if 0 > 0 then _ else _) _
      rw [if_neg (Nat.lt_irrefl 0)]
      obtain ⟨m,rfl⟩:∃ k,m=k+1:=⟨m-1,by simp only at h4; omega⟩
      exact TW.bind ((Ztg O (P.rev 0 (m+1)) (n-(m+1)) m (Nat.add_sub_of_le h5) (Dsc.rev P h5 D)).mono λ r h=>⟨Z6p (Z6s _ _) h.1,h.2.1,P.rev 0 (m+1),h.2.2.1⟩)
structure Plc (lt:Nat→Nat→Bool) (p:Array Nat) (k l r:Nat):Prop where
  le:l≤r
  rk:r≤k
  lo:∀ i,i < l→ltA lt p i k
  hi:∀ i,r≤i→i < k→ltA lt p k i
theorem Z39 {l r:Nat} (h:l < r):l≤(l+r) / 2∧(l+r) / 2 < r:=⟨(Nat.le_div_iff_mul_le Nat.two_pos).mpr (Nat.mul_two l▸Z6w (Z64 h) l),(Nat.div_lt_iff_lt_mul Nat.two_pos).mpr (Nat.mul_two r▸Nat.add_lt_add_right h r)⟩
theorem Zjq (O:SO lt n) (P:Pm n p) {k:Nat} (hk:k < n) (S:Srt lt p k):∀ (f l r:Nat),r-l≤f→Plc lt p k l r→TW lt n (kas_place p k f l r) λ x=>Plc lt p k x x
  | 0,l,r,h,L=>by
    obtain rfl:l=r:=Nat.le_antisymm L.le (Nat.le_of_sub_eq_zero (Nat.le_zero.mp h))
    exact L
  | f+1,l,r,h,L=>by
    show TW lt n (if l ≥ r then _ else _) _
    by_cases e:l ≥ r
    · rw [if_pos e]
      obtain rfl:l=r:=Nat.le_antisymm L.le e
      exact L
    · rw [if_neg e]
      obtain ⟨m1,m2⟩:=Z39 (Nat.not_le.mp e)
      have hm:(l+r) / 2 < k:=Z6t m2 L.rk
      refine ⟨P.bd hk,P.bd (Nat.lt_trans hm hk),?_⟩
      show TW lt n (if lt (p.getD k 0) (p.getD ((l+r) / 2) 0)=true then _ else _) _
      generalize (l+r) / 2=m at*
      by_cases q:ltA lt p k m
      · rw [if_pos q]
        exact Zjq O P hk S f l m (Z65 (Z6t (Nat.sub_lt_sub_right m1 m2) h)) ⟨m1,Z64 hm,L.lo,λ i h2 h3=>(Nat.eq_or_lt_of_le h2).elim (λ e=>e▸q) λ h2=>O.tr _ _ _ q (S _ _ h2 h3)⟩
      · rw [if_neg q]
        have q':=O.no P hk (Nat.lt_trans hm hk) (Nat.ne_of_gt hm) q
        exact Zjq O P hk S f (m+1) r (Z6p (Nat.sub_le_sub_left (Z6v m1) r) (Z6p (Z62 (Nat.sub_add_eq r l 1)) (Nat.sub_le_of_le_add h))) ⟨m2,L.rk,λ i h2=>(Nat.eq_or_lt_of_le (Z65 h2)).elim (λ e=>e▸q') λ h2=>O.tr _ _ _ (S _ _ h2 hm) q',L.hi⟩
theorem Z1w (P:Pm n p) {k l i:Nat} (hk:k < n) (hl:l≤k):(bubble p k (k-l)).getD i 0=if i=l then p.getD k 0 else if l < i∧i≤k then p.getD (i-1) 0 else p.getD i 0:=by
  have h1:=getElem?_bubble (P.size.symm▸hk) (k-l) (Nat.sub_le _ _) i
  rw [Nat.sub_sub_self hl] at h1
  rw [Array.getD_eq_getD_getElem?,h1]
  split
  · rw [Array.getD_eq_getD_getElem?]
  · split <;> rw [Array.getD_eq_getD_getElem?]
theorem Srt.put (O:SO lt n) (P:Pm n p) {k l:Nat} (hk:k < n) (S:Srt lt p k) (L:Plc lt p k l l):Srt lt (bubble p k (k-l)) (k+1):=λ i j hij hj=>by
  have lo:∀ {i},i < l→(bubble p k (k-l)).getD i 0=p.getD i 0:=λ h=>by rw [Z1w P hk L.rk,if_neg (Nat.ne_of_lt h),if_neg λ q=>Nat.lt_asymm h q.1]
  have at':(bubble p k (k-l)).getD l 0=p.getD k 0:=by rw [Z1w P hk L.rk,if_pos rfl]
  have hi:∀ {i},l < i→i≤k→(bubble p k (k-l)).getD i 0=p.getD (i-1) 0:=λ h h2=>by rw [Z1w P hk L.rk,if_neg (Nat.ne_of_gt h),if_pos ⟨h,h2⟩]
  have hj:=Z65 hj
  unfold ltA
  rcases Nat.lt_trichotomy j l with c | rfl | c
  · rw [lo c,lo (Nat.lt_trans hij c)]
    exact S i j hij (Z6t c L.rk)
  · rw [at',lo hij]
    exact L.lo i hij
  · have b1:=Nat.le_sub_one_of_lt c
    have b2:j-1 < k:=Z6t (Nat.sub_lt (Z6u (Z63 l) c) Nat.zero_lt_one) hj
    rw [hi c hj]
    rcases Nat.lt_trichotomy i l with d | rfl | d
    · rw [lo d]
      exact S i (j-1) (Z6t d b1) b2
    · rw [at']
      exact L.hi (j-1) b1 b2
    · rw [hi d (Z6p (Z64 hij) hj)]
      exact S (i-1) (j-1) (Nat.sub_lt_sub_right (Nat.succ_le_of_lt (Z6u (Z63 l) d)) hij) b2
theorem Zzy (O:SO lt n):∀ (f:Nat) {p:Array Nat} (k:Nat),Pm n p→k+f=n→Srt lt p k→TW lt n (kas_bin f p k) λ q=>Pm n q∧Srt lt q n
  | 0,p,k,P,h,S=>⟨P,(show k=n from h)▸S⟩
  | f+1,p,k,P,h,S=>TW.bind ((Zjq O P (h▸Nat.lt_add_of_pos_right (Nat.succ_pos f)) S k 0 k (Nat.sub_le _ _) ⟨Z63 _,Z6q _,λ i h=>absurd h (Nat.not_lt_zero _),λ i h1 h2=>absurd h2 (Nat.not_lt.mpr h1)⟩).mono λ l L=>Zzy O f (k+1) (P.bub _ _) ((Nat.succ_add_eq_add_succ k f).trans h) (S.put O P (h▸Nat.lt_add_of_pos_right (Nat.succ_pos f)) L))
theorem Z0t (O:SO lt n) (hn:1≤n):TW lt n (kas_sort n) λ q=>Pm n q∧Srt lt q n:=by
  refine TW.bind ((Zxf O (p:=(List.range n).toArray) (.refl _) hn).mono λ r ⟨h1,h2,P,S⟩=>?_)
  show TW lt n (if r.1 < n then _ else _) _
  by_cases h:r.1 < n
  · rw [if_pos h,Nat.max_eq_left h1]
    exact Zzy O _ _ P (Nat.add_sub_of_le h2) S
  · rw [if_neg h]
    exact ⟨P,(Nat.le_antisymm h2 (Nat.not_lt.mp h))▸S⟩
end PL
end
section
open PySem PySem.W PyProof.Rows
namespace PL
variable {prog:Program} {w:World} {A:Around} {E:Value→Shared→Prop} {s:Shared}
theorem lt64 {n:Nat} (h:n < 64):n≤sizeLine:=by rw [sizeLine_eq]; lia
theorem Zxy {a:Addr} {vs:List Value} {n:Nat} {κ:SortKind} {lt:Nat→Nat→Bool} {P:PySem.Fin→Shared→Prop} (ho:s.heap.get? a=some (seqObj "list" vs.toArray n)) (h64:vs.length < 64) (O:SO lt vs.length)
    (hk:∀ {h':Heap} {Q:SortKind→Shared→Prop},(∀ b o,b≠a→s.heap.get? b=some o→h'.get? b=some o)→2≤vs.length→Q κ { s with heap:=h' }→wpAny (model prog w) A (keyKind' vs.toArray) Q E { s with heap:=h' })
    (hc:∀ {h':Heap} {Q:Bool→Shared→Prop} {i j:Nat},(∀ b o,b≠a→s.heap.get? b=some o→h'.get? b=some o)→i < vs.length→j < vs.length→Q (lt i j) { s with heap:=h' }→wpAny (model prog w) A (keyLt' κ (vs.getD i .none) (vs.getD j .none)) Q (λ zz zz=>False) { s with heap:=h' })
    (h:∀ h' p e,Pm vs.length p→Srt lt p vs.length→(∀ b o,b≠a→s.heap.get? b=some o→h'.get? b=some o)→h'.get? a=some (seqObj "list" (p.toList.map λ i=>vs.getD i Value.none).toArray e)→P (.done (.ret .none)) { s with heap:=h' }):
    wpAny (model prog w) A (Builtin.«list.sort» ⟨[.ref a],[]⟩) P E s:=by
  have ha:=Heap.lt_size ho
  obtain ⟨e1,h1⟩:∃ e1,(s.heap.update a (Obj.mapSeq λ zz=>(#[]:Array Value))).get? a=some (seqObj "list" #[] e1):=⟨_,get?_update_seq ho λ zz=>#[]⟩
  rw [list_sort_plain]
  refine Z7p (listItems_at ho rfl ?_)
  refine Z7p (listUpdate_at ho rfl ?_ (lt64 h64) (Z63 _))
  refine Z7p (seqEpoch_at h1 rfl ?_)
  refine Z7p (wpAny_newTuple ?_ (lt64 h64))
  refine Z7p (wpAny_newList ?_ (Z63 _))
  refine wpAny_holding ?_
  have h6:(((s.heap.update a (Obj.mapSeq λ zz=>(#[]:Array Value))).push (seqObj "tuple" vs.toArray 0)).push (seqObj "list" #[] 0)).get? a=some (seqObj "list" #[] e1):=
    Z7n _ (Z7n _ h1)
  have keep:∀ b o,b≠a→s.heap.get? b=some o→(((s.heap.update a (Obj.mapSeq λ zz=>(#[]:Array Value))).push (seqObj "tuple" vs.toArray 0)).push (seqObj "list" #[] 0)).get? b=some o:=λ b o hb e=>
    Z7n _ (Z7n _ ((Heap.get?_update_ne _ _ _ _ hb).trans e))
  show wpAny (model prog w) A _ P E { s with heap:=((s.heap.update a (Obj.mapSeq λ zz=>(#[]:Array Value))).push (seqObj "tuple" vs.toArray 0)).push (seqObj "list" #[] 0) }
  generalize ((s.heap.update a (Obj.mapSeq λ zz=>(#[]:Array Value))).push (seqObj "tuple" vs.toArray 0)).push (seqObj "list" #[] 0)=h7 at h6 keep
  dsimp only
  have fin:∀ (st':SortSt),failedOf st'=none→(∃ p,Pm vs.length p∧Srt lt p vs.length∧(arrOf st').map (·.2)=(p.toList.map λ i=>vs.getD i Value.none).toArray)→wpAny (model prog w) A (do
      let touched:=(← seqEpoch a) != e1
      Builtin.List.listUpdate (.ref a) λ zz=>(arrOf st').map (·.2)
      if let some e:=failedOf st' then rule "list.sort.comparison-raised"; throw e
      if touched then rule "list.sort.modified"; raiseError "ValueError" "list modified during sort"
      ret .none) P E { s with heap:=h7 }:=λ st' hf ⟨p,P1,S1,ha⟩=>by
    have hz:(p.toList.map λ i=>vs.getD i Value.none).toArray.size=vs.length:=by rw [List.size_toArray,Z68,Z7k,P1.size]
    refine Z7p (seqEpoch_at h6 rfl ?_)
    refine Z7p (listUpdate_at h6 rfl ?_ (Z63 _) (by rw [ha,hz]; exact Nat.le_succ_of_le (lt64 h64)))
    rw [hf,ha]
    simp only [bne_self_eq_false,Bool.false_eq_true,if_false]
    exact Z7q (h _ p _ P1 S1 (λ b o hb e=>(Heap.get?_update_ne _ _ _ _ hb).trans (keep b o hb e)) (get?_update_seq h6 _))
  by_cases h2:vs.toArray.size < 2
  · rw [if_pos h2,if_pos h2]
    refine Z7p (Z7q ?_)
    rw [StateT.run_pure]
    refine Z7p (Z7q (fin _ rfl ⟨(List.range vs.length).toArray,.refl _,λ i j hij hj=>?_,?_⟩))
    · rw [List.size_toArray] at h2; omega
    · show (vs.toArray.zip vs.toArray).map (·.2)=_
      refine (Z7r (Array.map (·.2)) (kas_range (pairsOf vs)).symm).trans ?_
      rw [pairsOf_size]
      apply Array.toList_inj.mp
      rw [Array.map_map,Array.toList_map]
      exact List.map_congr_left λ i zz=>by show (kas_item (pairsOf vs) i).2=_; rw [kas_item_eq]
  · rw [if_neg h2,if_neg h2]
    rw [List.size_toArray] at h2
    have h2:=Nat.not_lt.mp h2
    refine Z7p (hk keep h2 ?_)
    have est:SortSt.mk' κ (vs.toArray.zip vs.toArray) #[] 7 none=kas_st κ (pairsOf vs) (List.toArray (List.range vs.length)):=by
      have e:=kas_range (pairsOf vs)
      rw [pairsOf_size] at e
      show SortSt.mk' κ (pairsOf vs) #[] 7 none=SortSt.mk' κ ((List.toArray (List.range vs.length)).map (kas_item (pairsOf vs))) #[] 7 none
      rw [e]
    have run:=kas_runs (prog:=prog) (w:=w) (A:=A) (E:=E) (κ:=κ) (it:=pairsOf vs) (s:={ s with heap:=h7 }) (G:=λ p s'=>s'={ s with heap:=h7 }∧Pm vs.length p∧Srt lt p vs.length) (Q:=λ zz st' s'=>s'={ s with heap:=h7 }∧∃ p:Array Nat,arrOf st'=p.map (kas_item (pairsOf vs))∧failedOf st'=none∧Pm vs.length p∧Srt lt p vs.length)
      h2 h64 (λ p' st' s' a1 a2 a3 a4=>⟨a4.1,p',a2,a3,a4.2⟩) (TW.wp (lt:=lt) (n:=vs.length) (λ i j C hi hj hC=>by unfold kas_cmp; rw [kas_item_eq,kas_item_eq]; exact hc keep hi hj hC) ((Z0t O (Z61 h2)).mono λ p hp=>⟨rfl,hp⟩))
    rw [← est] at run
    refine Z7p (wpAny_mono run ?_ λ zz zz e=>e)
    rintro ⟨⟨⟩,st'⟩ s' ⟨rfl,p,har,hf,P1,S1⟩
    refine fin st' hf ⟨p,P1,S1,?_⟩
    apply Array.toList_inj.mp
    rw [har,Array.map_map,Array.toList_map]
    exact List.map_congr_left λ i zz=>by show (kas_item (pairsOf vs) i).2=_; rw [kas_item_eq]
end PL
end
section
open PySem PySem.W PyProof.Rows
namespace PL
variable {X:Cx} {W:Wd} {σ:St} {s:Shared} {A:Around} {E:Value→Shared→Prop}
theorem Zqn (a:List Nat):¬ a < a:=List.lt_irrefl a
theorem Z1o {a b c:List Nat} (h:a < b) (k:b < c):a < c:=List.lt_trans h k
theorem Zu1 {a b:List Nat} (h:a≠b):a < b∨b < a:=Classical.byCases .inl λ q=>Classical.byCases .inr λ q'=>absurd (List.le_antisymm (List.not_lt.mp q') (List.not_lt.mp q)) h
abbrev NdLt (p q:Nd):Prop:=p.1 < q.1∨p.1=q.1∧p.2 < q.2
structure Ord (κ:Type) (R:κ→κ→Bool):Prop where
  irr:∀ a,R a a=false
  tr:∀ a b c,R a b=true→R b c=true→R a c=true
  tot:∀ a b,a≠b→R a b=true∨R b a=true
theorem Zuh:Ord Nat λ a b=>decide (a < b):=⟨λ a=>Z7t (Nat.lt_irrefl a),λ a b c h k=>Z7s (Nat.lt_trans (of_decide_eq_true h) (of_decide_eq_true k)),λ a b h=>(Nat.lt_or_gt_of_ne h).imp Z7s Z7s⟩
theorem Z08:Ord CS λ a b=>decide (a < b):=⟨λ a=>Z7t (Zqn a),λ a b c h k=>Z7s (Z1o (of_decide_eq_true h) (of_decide_eq_true k)),λ a b h=>(Zu1 h).imp Z7s Z7s⟩
theorem Z3m:Ord Nd λ a b=>decide (NdLt a b) where
  irr a:=Z7t λ h=>h.elim (Zqn _) λ h=>Zqn _ h.2
  tr a b c h k:=by
    have h:=of_decide_eq_true h
    have k:=of_decide_eq_true k
    refine Z7s ?_
    rcases h with h | ⟨e,h⟩
    · rcases k with k | ⟨e,k⟩
      · exact .inl (Z1o h k)
      · exact .inl (e▸h)
    · rcases k with k | ⟨e',k⟩
      · exact .inl (e▸k)
      · exact .inr ⟨e.trans e',Z1o h k⟩
  tot a b h:=by
    by_cases e:a.1=b.1
    · have:a.2≠b.2:=λ q=>h (Prod.ext e q)
      exact (Zu1 this).imp (λ q=>Z7s (.inr ⟨e,q⟩)) λ q=>Z7s (.inr ⟨e.symm,q⟩)
    · exact (Zu1 e).imp (λ q=>Z7s (.inl q)) λ q=>Z7s (.inl q)
theorem Ord.uniq {κ:Type} {R:κ→κ→Bool} (O:Ord κ R):∀ {l m:List κ},l.Pairwise (R · ·=true)→m.Pairwise (R · ·=true)→(∀ x,x∈l↔x∈m)→l=m
  | [],[],_,_,_=>rfl
  | [],b::m,_,_,h=>nomatch (h b).mpr Z66
  | a::l,[],_,_,h=>nomatch (h a).mp Z66
  | a::l,b::m,hl,hm,h=>by
    obtain ⟨l1,l2⟩:=List.pairwise_cons.mp hl
    obtain ⟨m1,m2⟩:=List.pairwise_cons.mp hm
    have nn:∀ {x y:κ},R x y=true→R y x=true→False:=λ p q=>nomatch (O.irr _).symm.trans (O.tr _ _ _ p q)
    have ne:∀ {x y:κ},R x y=true→x≠y:=λ p e=>by subst e; exact nomatch (O.irr _).symm.trans p
    have e:a=b:=by
      rcases Z7a.mp ((h a).mp Z66) with e | ha
      · exact e
      rcases Z7a.mp ((h b).mpr Z66) with e | hb
      · exact e.symm
      exact (nn (l1 b hb) (m1 a ha)).elim
    subst e
    rw [O.uniq l2 m2 λ x=>⟨λ q=>(Z7a.mp ((h x).mp (Z67 _ q))).resolve_left λ e=>ne (l1 x q) e.symm,λ q=>(Z7a.mp ((h x).mpr (Z67 _ q))).resolve_left λ e=>ne (m1 x q) e.symm⟩]
end PL
end
section
open PySem PySem.W PyProof.Rows
namespace PL
structure Kd (κ:Type) (R:κ→κ→Bool) (f:κ→AVal) (sk:SortKind) (b:Bool):Prop where
  ord:Ord κ R
  kin:∀ x,Kin b (f x)
  inj:∀ x y,f x=f y→x=y
  kind:∀ {X:Cx} {W:Wd} {σ:St} {s:Shared} {A:Around} {E:Value→Shared→Prop} {vs:List Value} {xs:List κ} {Q:SortKind→Shared→Prop},Inv X W σ s→VRels W vs (xs.map f)→2≤vs.length→Q sk s→wpAny (model pp X.w) A (keyKind' vs.toArray) Q E s
  cmp:∀ {X:Cx} {W:Wd} {σ:St} {s:Shared} {A:Around} {u v:Value} {x y:κ} {Q:Bool→Shared→Prop},Inv X W σ s→VRel W u (f x)→VRel W v (f y)→Q (R x y) s→wpAny (model pp X.w) A (keyLt' sk u v) Q (λ zz zz=>False) s
theorem Z4f:Kd Nat (λ a b=>decide (a < b)) nA oneType' false where
  ord:=Zuh
  kin x:=⟨rfl,rfl⟩
  inj x y h:=Int.ofNat.inj (by injection h)
  kind {X W σ s A E vs xs Q} I r h2 h:=kas_kind (T:=.type "int") h2 (λ v hv=>by
    obtain ⟨c,hc,rc⟩:=r.mem_left hv
    obtain ⟨n,zz,rfl⟩:=Z7b.mp hc
    obtain ⟨t,rfl⟩:=rc
    exact .of_pure rfl) (by decide) (by decide) h
  cmp {X W σ s A u v x y Q} I hu hv h:=by
    obtain ⟨t,rfl⟩:=hu
    obtain ⟨t',rfl⟩:=hv
    refine kat_lt_int ?_
    rw [show decide ((x:Int) < y)=decide (x < y) from decide_eq_decide.mpr Int.ofNat_lt]
    exact h
theorem Zu9:Kd CS (λ a b=>decide (a < b)) .str oneType' false where
  ord:=Z08
  kin x:=⟨rfl,rfl⟩
  inj x y h:=by injection h
  kind {X W σ s A E vs xs Q} I r h2 h:=kas_kind (T:=.type "str") h2 (λ v hv=>by
    obtain ⟨c,hc,rc⟩:=r.mem_left hv
    obtain ⟨n,zz,rfl⟩:=Z7b.mp hc
    obtain ⟨t,rfl⟩:=rc
    exact .of_pure rfl) (by decide) (by decide) h
  cmp {X W σ s A u v x y Q} I hu hv h:=by
    obtain ⟨t,rfl⟩:=hu
    obtain ⟨t',rfl⟩:=hv
    exact kas_lt_str h
section
variable {X:Cx} {W:Wd} {σ:St} {s:Shared} {A:Around}
theorem Zqo {b fin:Bool} {Q:Bool→Shared→Prop}:∀ (ms ks:List Nat) (us vs:List Value) (i:Nat),VRels W us (ms.map nA)→VRels W vs (ks.map nA)→fin=decide (ms.length < ks.length)→Q (decide (ms < ks)) s→KatLex pp X.w A b fin Q (us.zip vs) (i+1) s
  | [],ks,us,vs,i,hu,hv,hf,h=>by
    rw [F2.nil_right hu,List.zip_nil_left]
    refine kat_nil ?_
    rw [hf]
    cases ks with
    | nil=>exact h
    | cons k ks=>exact h
  | m::ms,[],us,vs,i,hu,hv,hf,h=>by
    rw [F2.nil_right hv,List.zip_nil_right]
    refine kat_nil ?_
    rw [hf]
    exact h
  | m::ms,k::ks,us,vs,i,hu,hv,hf,h=>by
    obtain ⟨u,us,rfl,⟨t,rfl⟩,hu'⟩:=F2.cons_right hu
    obtain ⟨v,vs,rfl,⟨t',rfl⟩,hv'⟩:=F2.cons_right hv
    refine kat_cons ((flK X).eqBool (a:=nA m) (b:=nA k) (Y5 (W:=W) ⟨t,rfl⟩ rfl) (Y5 (W:=W) ⟨t',rfl⟩ rfl) ?_)
    by_cases e:m=k
    · subst e
      rw [Z7s rfl]
      refine kat_yes (Zqo ms ks us vs (i+1) hu' hv' (hf.trans (decide_eq_decide.mpr Nat.succ_lt_succ_iff)) ?_)
      rwa [show decide (ms < ks)=decide (m::ms < m::ks) from decide_eq_decide.mpr (by rw [List.cons_lt_cons_iff]; exact ⟨λ q=>.inr ⟨rfl,q⟩,λ q=>q.elim (λ q=>absurd q (Nat.lt_irrefl _)) (·.2)⟩)]
    · rw [Z7t (λ q=>e (Int.ofNat.inj (by injection q)))]
      refine kat_no ?_
      rw [show (b&&i+1==0)=false from Bool.and_false b]
      refine kat_one _ _ (wpAny_lt_int ?_)
      show Q (decide ((m:Int) < k)) s
      rwa [show decide ((m:Int) < k)=decide (m::ms < k::ks) from decide_eq_decide.mpr (by rw [List.cons_lt_cons_iff,Int.ofNat_lt]; exact ⟨.inl,λ q=>q.elim id λ q=>absurd q.1 e⟩)]
end
theorem Zix:∀ {a b:List Nat},a.map nA=b.map nA→a=b
  | [],[],_=>rfl
  | x::a,y::b,h=>by
    obtain ⟨h1,h2⟩:=List.cons.inj h
    rw [show x=y from Int.ofNat.inj (by injection h1),Zix h2]
  | [],_::_,h=>nomatch h
  | _::_,[],h=>nomatch h
theorem Zdg {a b:Nd} (h:Zr a=Zr b):a=b:=by
  injection h with h
  obtain ⟨h1,h2⟩:=List.cons.inj h
  injection h1 with h1
  exact Prod.ext h1 (Zix h2)
theorem Zmf (nd:Nd):(Zr nd).isKey=true:=by
  show List.all (AVal.str nd.1::nd.2.map nA) AVal.flat=true
  rw [List.all_cons,List.all_map]
  exact List.all_eq_true.mpr λ zz zz=>rfl
theorem Zkd {X:Cx} {W:Wd} {σ:St} {s:Shared} (I:Inv X W σ s) {v:Value} {p:Nd} (h:VRel W v (Zr p)):∃ a t us n,v=.ref a∧s.heap.get? a=some { cls:=.type "tuple",data:=.seq (.str (st p.1) t::us).toArray n }∧VRels W us (p.2.map nA):=by
  obtain ⟨a,rfl,vs,⟨n,ha⟩,hr⟩:=I.tup h
  obtain ⟨u,us,hu,⟨t,rfl⟩,hr'⟩:=F2.cons_right hr
  exact ⟨a,t,us,n,rfl,by rw [← hu,Array.toArray_toList]; exact ha,hr'⟩
theorem Z56:Kd Nd (λ a b=>decide (NdLt a b)) Zr (tuples' true) true where
  ord:=Z3m
  kin x:=⟨Zmf x,rfl⟩
  inj x y h:=Zdg h
  kind {X W σ s A E vs xs Q} I r h2 h:=by
    have hT:∀ (xs:List Nd) (vs:List Value),VRels W vs (xs.map Zr)→∃ fs,KatTups s.heap vs fs∧fs.length=vs.length∧∀ v∈fs,Looks (model pp X.w) s.heap (typeOf v) (.type "str"):=λ xs=>by
      induction xs with
      | nil=>exact λ vs r=>by rw [F2.nil_right r]; exact ⟨[],trivial,rfl,λ zz h=>nomatch h⟩
      | cons p xs ih=>
        intro vs r
        obtain ⟨v,vs,rfl,hv,r'⟩:=F2.cons_right r
        obtain ⟨fs,h1,h2,h3⟩:=ih vs r'
        obtain ⟨a,t,us,n,rfl,ha,zz⟩:=Zkd I hv
        exact ⟨.str (st p.1) t::fs,.cons ha rfl rfl rfl h1,Z7r Nat.succ h2,λ v hv=>(Z7a.mp hv).elim (λ e=>e▸.of_pure rfl) (h3 v)⟩
    obtain ⟨fs,h1,h3,h4⟩:=hT xs vs r
    exact kat_kind (T:=.type "str") h1 (by rw [h3]; exact Z6t (Nat.zero_lt_succ 1) h2) h4 (by decide) h
  cmp {X W σ s A u v x y Q} I hu hv h:=by
    obtain ⟨a,t,us,n,rfl,ha,r⟩:=Zkd I hu
    obtain ⟨b,t',us',n',rfl,hb,r'⟩:=Zkd I hv
    refine kat_lt ha rfl hb rfl ?_
    rw [List.size_toArray,List.size_toArray]
    refine kat_cons ((flK X).eqBool (a:=.str x.1) (b:=.str y.1) (Y5 (W:=W) ⟨t,rfl⟩ rfl) (Y5 (W:=W) ⟨t',rfl⟩ rfl) ?_)
    by_cases e:x.1=y.1
    · rw [Z7s (Z7r AVal.str e)]
      refine kat_yes (Zqo x.2 y.2 us us' 0 r r' (decide_eq_decide.mpr ?_) ?_)
      · rw [Z7f,Z7f,r.length,r'.length,Z68,Z68]; exact Nat.succ_lt_succ_iff
      · rwa [show decide (x.2 < y.2)=decide (NdLt x y) from decide_eq_decide.mpr ⟨λ q=>.inr ⟨e,q⟩,λ q=>q.elim (λ q=>absurd (e▸q) (Zqn _)) (·.2)⟩]
    · rw [Z7t (λ q:AVal.str x.1=.str y.1=>e (by injection q))]
      refine kat_no (show wpAny _ _ (oneLt' true _ _) _ _ _ from oneLt_str ?_)
      show Q (decide (x.1 < y.1)) s
      rwa [show decide (x.1 < y.1)=decide (NdLt x y) from decide_eq_decide.mpr ⟨.inl,λ q=>q.elim id λ q=>absurd q.1 e⟩]
end PL
end
section
open PySem
namespace PL
section
variable {l:List (Nd×Nat)} {c:Nd} {n:Nat}
theorem Zdl:∀ {l:List (Nd×Nat)},kget (knoD l) (Zr c)=(l.lookup c).map nA
  | []=>rfl
  | (a,v)::l=>by
    by_cases h:a=c
    · rw [h,List.lookup_cons,Z7x]; exact Zfv rfl
    · rw [List.lookup_cons,Z7v.mpr (Ne.symm h)]; exact (Zdm λ q=>h (Zdg q)).trans Zdl
theorem Zqt (h:l.lookup c=none):kset (knoD l) (Zr c) (nA n)=knoD (l++[(c,n)]):=by
  rw [kset,if_neg (by rw [Zdl,h]; exact Z7w),knoD,knoD,List.map_append]; rfl
theorem J7:Zdn (knoD l) (Zr c):=⟨Zmf c,λ e he=>(Z7b.mp he).elim λ p q=>q.2▸rfl⟩
end
noncomputable def Zsk:AVal:=.tup [.str [108,105,107,101]]
section
variable (H:HC)
noncomputable def Zyx (key:Nd) (n:Nat):HC:={ H with known:=H.known++[(key,n)] }
noncomputable def Qd (key:Nd) (n:Nat):Nat:=(H.known.lookup key).getD n
noncomputable def Qf (key:Nd) (n:Nat):HC:=@Option.casesOn _ (λ zz=>HC) (H.known.lookup key) (Zyx H key n) λ zz=>H
noncomputable def hTwo (key:Nd) (n:Nat):HC:=Zmr (Qf H key n) (Qd H key n) n Zsk (max (find H.par (Qd H key n)) (find H.par n)) (min (find H.par (Qd H key n)) (find H.par n))
noncomputable def Zgq (n:Nat) (nd:Nd):HC:=if find H.par (Qd H (nkey H nd) n)=find H.par n then Qf H (nkey H nd) n else hTwo H (nkey H nd) n
end
structure KnownAs (H H1:HC):Prop where
  par:H1.par=H.par
  nodes:H1.nodes=H.nodes
  abv:H1.abv=H.abv
  waiting:H1.waiting=H.waiting
  merged:H1.merged=H.merged
  edges:H1.edges=H.edges
  forest:H1.forest=H.forest
  rows:H1.rows=H.rows
  known:H1.known.length≤H.known.length+1
  core:Core H1
section
variable {j:Nat} {σ σ':St} {L L':Fld→Nat} {H H':HC} {key:Nd} {n:Nat} {nd:Nd}
theorem Core.known (O:Core H) (hn:n < H.nodes.length):KnownAs H (Qf H key n):=by
  unfold Qf
  cases H.known.lookup key with
  | some v=>exact ⟨rfl,rfl,rfl,rfl,rfl,rfl,rfl,rfl,Nat.le_succ _,O⟩
  | none=>exact ⟨rfl,rfl,rfl,rfl,rfl,rfl,rfl,rfl,Z62 Z69,{ O with knownlt:=λ p hp=>(List.mem_append.mp hp).elim (O.knownlt p) λ h=>by rw [Z7c.mp h]; exact hn }⟩
theorem KnownAs.small (K:KnownAs H H') (S:Ye H):Ye H':=⟨K.nodes▸S.n,K.rows▸S.r⟩
theorem KnownAs.room (K:KnownAs H H') (B:Room H):Room H':=⟨K.edges▸B.e,K.waiting▸B.w,K.forest▸B.f⟩
theorem Tr.know (R:Rep σ L H) (key:Nd) (n:Nat):Tr σ L H (σ.put (L .known) (.dict (knoD (H.known++[(key,n)])))) L (Zyx H key n):=
  Tr.put' (H':=Zyx H key n) R .known trivial (λ zz=>Iff.rfl) (λ fd hg zz=>@Fld.casesOn (λ fd=>fd≠.known→cont L (Zyx H key n) fd=cont L H fd) fd (λ zz=>rfl) (λ zz=>rfl) (λ zz=>rfl) (λ zz=>rfl) (λ zz=>rfl) (λ zz=>rfl) (λ zz=>rfl) (λ zz=>rfl) (λ zz=>rfl) (λ zz zz=>rfl) (λ zz=>rfl) (λ zz=>rfl) (λ zz=>rfl) (λ q=>absurd rfl q) (λ zz=>rfl) (λ zz zz=>rfl) (λ zz=>rfl) (λ zz=>rfl) hg) rfl
theorem Core.seen_lt (O:Core H) (hn:n < H.nodes.length):Qd H key n < H.nodes.length:=by
  unfold Qd
  cases e:H.known.lookup key with
  | none=>exact hn
  | some v=>exact O.knownlt _ (Ze4 e)
theorem Zsi {ν:Fm} (R:Rep σ L H) (hkl:H.known.length≤16000) (hs:ν "self"=some (.ref (L .h))) (hn:ν "n"=some (nA n)) (hnode:CallR j "Heap.node" [.ref (L .h),nA n] σ (Zr key) σ):
    ∃ σ1,Tr σ L H σ1 L (Qf H key n)∧EvE j (.mth (.att (.loc "self") "known") "setdefault" [(.mth (.loc "self") "node" [(.loc "n")]),(.loc "n")]) ν σ (nA (Qd H key n)) σ1:=by
  have es:EvEs j ν [(.mth (.loc "self") "node" [(.loc "n")]),(.loc "n")] σ [Zr key,nA n] σ:=es2 (Yb (Zc hs) R.hobj (es1 (Zc hn)) hnode) (Zc hn)
  have gt:=Zdl (c:=key) (l:=H.known)
  unfold Qf Qd
  cases e:H.known.lookup key with
  | some v=>rw [e] at gt; exact ⟨σ,Tr.refl R,Qt (Zs (Zc hs) R.hobj) (.setdefault R.known) es (.setOld R.known J7 rfl (Zf hkl) gt)⟩
  | none=>rw [e] at gt; exact ⟨_,Tr.know R key n,Qt (Zs (Zc hs) R.hobj) (.setdefault R.known) es (Zqt e▸.setNew R.known J7 rfl (Zf hkl) gt)⟩
theorem Zt1 (R:Rep σ L H) (O:Core H) (S:Ye H) (B:Room H) (hkl:H.known.length≤16000) (hn:H.nodes[n]? = some nd):
    ∃ σ' L',CallR (j+4) "Heap.look_at" [.ref (L .h),nA n] σ .none σ'∧Tr σ L H σ' L' (Zgq H n nd):=by
  have hnl:=Zfm hn
  have hol:=O.seen_lt (key:=nkey H nd) hnl
  have hnode:=Zt0 (j:=j) R O S hn
  unfold Zgq
  generalize nkey H nd=key at*
  obtain ⟨σ1,T1,e1⟩:=Zsi (ν:=upd (upd (λ zz=>none) "self" (.ref (L .h))) "n" (nA n)) R hkl (by kernel_rfl) (by kernel_rfl) hnode
  have K:=O.known (key:=key) hnl
  have f1:=Zf4 (j:=j+1) T1.rep K.core (K.small S) (a:=Qd H key n) (K.nodes▸hol)
  have f2:=Zf4 (j:=j+1) T1.rep K.core (K.small S) (a:=n) (K.nodes▸hnl)
  rw [K.par] at f1 f2
  have run:∀ {p:Bool},CmpR σ1 .NotEq (nA (find H.par (Qd H key n))) (nA (find H.par n)) p→EvE (j+3) (.cmp .NotEq (.mth (.loc "self") "find" [(.loc "other")]) (.mth (.loc "self") "find" [(.loc "n")]))
      (upd (upd (upd (λ zz=>none) "self" (.ref (L .h))) "n" (nA n)) "other" (nA (Qd H key n))) σ1 (.bool p) σ1:=λ h=>Zo (Yb e_lk T1.rep.hobj (es1 e_lk) f1) (Yb e_lk T1.rep.hobj (es1 e_lk) f2) h
  by_cases he:find H.par (Qd H key n)=find H.par n
  · rw [if_pos he]
    exact ⟨σ1,L,Zg Zbg rfl (Zb (Yr e1) (Zb (Zn (run ((CmpR.ne (.int 0 _ _) ble).eqv (nT (by rw [he]))))) Za0)),T1⟩
  · rw [if_neg he]
    obtain ⟨σ2,L2,hj,T2⟩:=Zt2 (r:=Zsk) (j:=j) T1.rep K.core (K.small S) (K.room B) (a:=Qd H key n) (b:=n) (K.nodes▸hol) (K.nodes▸hnl) (by rw [K.par]) (by rw [K.par]) he
    exact ⟨σ2,L2,Zg Zbg rfl (Zb (Yr e1) (Zb (Zau (run ((CmpR.ne (.int 0 _ _) ble).eqv (nF (Zsd he)))) (Qk (Qa (Yb e_lk T1.rep.hobj (es3 e_lk e_lk (Yq (es1 Ze))) hj)))) Za0)),T1.trans T2⟩
end
end PL
end
section
open PySem
namespace PL
section
variable {H H':HC} {n:Nat} {nd:Nd} {key:Nd}
structure Z5l (H H1:HC):Prop where
  ok:Okay H1
  nodes:H1.nodes=H.nodes
  rows:H1.rows=H.rows
  less:(H1.waiting=H.waiting∧H1.abv.length=H.abv.length)∨H1.abv.length < H.abv.length
theorem Ztd {kn k w u n m:Nat} (hw:k+w+1≤n+2*m*n) (hk:kn≤k+1) (hu:u≤2*n):kn+(w+u)≤n+2*(m+1)*n:=by
  rw [Nat.mul_add,Nat.add_mul]; lia
theorem Zd {α:Type} (l:List α) (x:α):(l++[x]).length=l.length+1:=Z69
theorem Core.look (O:Core H) (hn:n < H.nodes.length) (hw:H.known.length+H.waiting.length+1≤H.nodes.length+2*H.merged.length*H.nodes.length) (he:H.edges.length≤H.rows.length+H.merged.length) (hf:H.forest.length=H.merged.length):Z5l H (Zgq H n nd):=by
  have hol:=O.seen_lt (key:=nkey H nd) hn
  unfold Zgq
  generalize nkey H nd=key at*
  have K:=O.known (key:=key) hn
  by_cases h:find H.par (Qd H key n)=find H.par n
  · rw [if_pos h]
    exact ⟨⟨K.core,by rw [K.waiting,K.merged,K.nodes]; exact Z6p (Z6x K.known _) (Nat.add_right_comm ..▸hw),by rw [K.edges,K.rows,K.merged]; exact he,by rw [K.forest,K.merged]; exact hf⟩,K.nodes,K.rows,.inl ⟨K.waiting,by rw [K.abv]⟩⟩
  · rw [if_neg h]
    unfold hTwo
    have O1:=K.core
    obtain ⟨hk,hg,hlt⟩:=O1.minmax (a:=Qd H key n) (b:=n) (K.nodes▸hol) (K.nodes▸hn) (by rw [K.par]) (by rw [K.par]) h
    generalize max (find H.par (Qd H key n)) (find H.par n)=g at*
    generalize min (find H.par (Qd H key n)) (find H.par n)=k at*
    have O2:=O1.join (a:=Qd H key n) (b:=n) (r:=Zsk) hg hk hlt
    have c1:H.merged.length+1+(Zmr (Qf H key n) (Qd H key n) n Zsk g k).abv.length=H.nodes.length:=by
      rw [← K.merged,← K.nodes,← Zd _ (k,g)]; exact O2.count
    have c2:=O.count
    have u1:=O1.use_le g
    rw [K.nodes] at u1
    refine ⟨⟨O2,?_,?_,?_⟩,K.nodes,K.rows,.inr ?_⟩
    · show (Qf H key n).known.length+((Qf H key n).waiting++Z2 _ g).length≤(Qf H key n).nodes.length+2*((Qf H key n).merged++[(k,g)]).length*(Qf H key n).nodes.length
      rw [Zd,Z69,K.waiting,K.nodes,K.merged]
      exact Ztd hw K.known u1
    · show ((Qf H key n).edges++[_]).length≤(Qf H key n).rows.length+((Qf H key n).merged++[(k,g)]).length
      rw [Zd,Zd,K.edges,K.rows,K.merged]; exact Z6v he
    · show ((Qf H key n).forest++[_]).length=((Qf H key n).merged++[(k,g)]).length
      rw [Zd,Zd,K.forest,K.merged,hf]
    · exact Nat.lt_of_add_lt_add_left (n:=H.merged.length) (by rw [c2,← c1,Z60]; exact Nat.add_lt_add_left (Nat.lt_add_of_pos_left Nat.one_pos) _)
noncomputable def hPop (H:HC) (ws:List Nat):HC:={ H with waiting:=ws }
inductive Settles:HC→HC→Prop
  | done {H:HC} (h:H.waiting=[]):Settles H H
  | turn {H H':HC} {ws:List Nat} {n:Nat} {nd:Nd} (h:H.waiting=ws++[n]) (hn:H.nodes[n]? = some nd) (hr:Settles (Zgq (hPop H ws) n nd) H'):Settles H H'
theorem Core.pop (O:Core H) {ws:List Nat} (h:H.waiting=ws++[n]):Core (hPop H ws):={ O with waitlt:=λ m hm=>O.waitlt m (by rw [h]; exact List.mem_append_left _ hm) }
theorem Okay.step (O:Okay H) {ws:List Nat} (h:H.waiting=ws++[n]):Z5l (hPop H ws) (Zgq (hPop H ws) n nd):=
  Core.look (O.toCore.pop h) (O.waitlt n (by rw [h]; exact List.mem_append_right _ Z66)) (by have:=O.wait; rw [h,Zd] at this; exact this) O.edges O.forest
structure Zhv (H H':HC):Prop where
  go:Settles H H'
  ok:Okay H'
  nodes:H'.nodes=H.nodes
  rows:H'.rows=H.rows
  none:H'.waiting=[]
theorem Zod:∀ (r w:Nat) {H:HC},Okay H→H.abv.length≤r→H.waiting.length≤w→∃ H',Zhv H H':=by
  intro r
  induction r with
  | zero=>
    intro w H O h1 h2
    rcases List.eq_nil_or_concat H.waiting with e | ⟨ws,n,e⟩
    · exact ⟨H,.done e,O,rfl,rfl,e⟩
    · rw [List.concat_eq_append] at e
      have:=O.toCore.find_abv (O.waitlt n (by rw [e]; exact List.mem_append_right _ Z66))
      rw [List.length_eq_zero_iff.mp (Nat.le_zero.mp h1)] at this
      exact nomatch this
  | succ r ih=>
    intro w
    induction w with
    | zero=>intro H O h1 h2; have e:=List.length_eq_zero_iff.mp (Nat.le_zero.mp h2); exact ⟨H,.done e,O,rfl,rfl,e⟩
    | succ w ihw=>
      intro H O h1 h2
      rcases List.eq_nil_or_concat H.waiting with e | ⟨ws,n,e⟩
      · exact ⟨H,.done e,O,rfl,rfl,e⟩
      · rw [List.concat_eq_append] at e
        obtain ⟨nd,hnd⟩:=Zib (O.waitlt n (by rw [e]; exact List.mem_append_right _ Z66))
        have K:=O.step (nd:=nd) e
        have key:∃ H',Zhv (Zgq (hPop H ws) n nd) H':=K.less.elim (λ d=>ihw K.ok (d.2▸h1) (by rw [d.1]; rw [e,Zd] at h2; exact Nat.le_of_succ_le_succ h2)) λ d=>ih _ K.ok (Z65 (Z6t d h1)) (Z6q _)
        exact key.elim λ H' s=>⟨H',.turn e hnd s.go,s.ok,s.nodes.trans K.nodes,s.rows.trans K.rows,s.none⟩
noncomputable def Zkn (H:HC):HC:=open Classical in if h:∃ H',Zhv H H' then choose h else H
theorem Okay.settle (O:Okay H):Zhv H (Zkn H):=by
  have hex:=Zod _ _ O (Z6q _) (Z6q _)
  rw [Zkn,dif_pos hex]
  exact Classical.choose_spec hex
structure Z5k (H:HC):Prop extends Room H where
  k:H.known.length≤16000
theorem Okay.room (O:Okay H) (S:Ye H):Z5k H:=by
  have hm:H.merged.length≤63:=Z6p (O.count▸Z6r _ _) S.n
  have h4:H.known.length+H.waiting.length≤9000:=Z6p O.wait (Z6p (Nat.add_le_add S.n (Nat.mul_le_mul (Nat.mul_le_mul_left 2 hm) S.n)) ble)
  exact ⟨⟨Z6p O.edges (Z6p (Nat.add_le_add S.r hm) ble),Z6p (Z6s _ _) (Z6p h4 ble),O.forest▸Z6p hm ble⟩,Z6p (Z6r _ _) (Z6p h4 ble)⟩
end
section
variable {j:Nat} {σ σ':St} {L L':Fld→Nat} {H H':HC} {n:Nat} {ν:Fm}
theorem Tr.pop (R:Rep σ L H) (ws:List Nat):Tr σ L H (σ.put (L .waiting) (.list (ws.map nA))) L (hPop H ws):=
  Tr.put' (H':=hPop H ws) R .waiting trivial (λ zz=>Iff.rfl) (λ fd hg zz=>@Fld.casesOn (λ fd=>fd≠.waiting→cont L (hPop H ws) fd=cont L H fd) fd (λ zz=>rfl) (λ zz=>rfl) (λ zz=>rfl) (λ zz=>rfl) (λ zz=>rfl) (λ zz=>rfl) (λ zz=>rfl) (λ zz=>rfl) (λ zz=>rfl) (λ zz zz=>rfl) (λ zz=>rfl) (λ zz=>rfl) (λ zz=>rfl) (λ zz=>rfl) (λ zz=>rfl) (λ zz zz=>rfl) (λ q=>absurd rfl q) (λ zz=>rfl) hg) rfl
theorem Zpb (R:Rep σ L H) (B:Z5k H) (hν:ν "self"=some (.ref (L .h))):EvE j (.blt "len" [(.att (.loc "self") "waiting")]) ν σ (nA H.waiting.length) σ:=
  (Yl (es1 (Zs (Zc hν) R.hobj)) (.len (.lst (.ref R.waiting)) (Zf (le15 B.w)))).eqv (by rw [Z68])
theorem Zoc (h:Settles H H'):∀ {σ:St} {L:Fld→Nat} {ν:Fm},Okay H→Ye H→Rep σ L H→ν "self"=some (.ref (L .h))→
    ∃ k σ' L',WhlR (j+4) (.cmp .Gt (.blt "len" [(.att (.loc "self") "waiting")]) (.cst (.int 0))) [(.exp (.mth (.loc "self") "look_at" [(.mth (.att (.loc "self") "waiting") "pop" [])]))] k ν σ .next ν σ'∧Tr σ L H σ' L' H':=by
  induction h with
  | done h=>
    intro σ L ν O S R hν
    exact ⟨0,σ,L,.stop (Zo (Zpb R (O.room S) hν) Ze ((CmpR.gt _ 0).eqv (dF (by rw [h]; exact Int.lt_irrefl 0)))),Tr.refl R⟩
  | @turn H H' ws n nd h hn _ ih=>
    intro σ L ν O S R hν
    have B:=O.room S
    have T1:=Tr.pop R ws
    have K:=O.step (nd:=nd) h
    have hw:ws.length < 16000:=Z6t (Z6z _) (Z6p (Z62 (Zd ws n).symm) (h▸le15 B.w))
    obtain ⟨σ2,L2,hl,T2⟩:=Zt1 (j:=j) T1.rep (O.toCore.pop h) ⟨S.n,S.r⟩ ⟨B.e,Z6p (Nat.le_succ _) (Z6p (Z62 (Zd ws n).symm) (h▸B.w)),B.f⟩ B.k hn
    obtain ⟨k,σ3,L3,h3,T3⟩:=ih K.ok ⟨K.nodes▸S.n,K.rows▸S.r⟩ T2.rep (ν:=ν) (by rw [T2.top]; exact hν)
    have vw:σ.f (L .waiting)=some (.list (ws.map nA++[nA n])):=by rw [Y0,← h]; exact R.waiting
    exact ⟨k+1,σ3,L3,.turn (Zo (Zpb R B hν) Ze ((CmpR.gt _ 0).eqv (dT (by rw [h,Zd]; exact Int.natCast_pos.mpr (Nat.succ_pos _))))) (Qk (Qa (Yb (Zc hν) R.hobj (es1 (Qt (Zs (Zc hν) R.hobj) (.pop vw) es0 (.pop vw (by rw [Z68]; exact hw)))) hl))) h3,(T1.trans T2).trans T3⟩
theorem Zl0 (R:Rep σ L H) (O:Okay H) (S:Ye H):∃ σ' L',CallR (j+5) "Heap.settle" [.ref (L .h)] σ .none σ'∧Tr σ L H σ' L' (Zkn H):=
  have ⟨k,σ1,L1,h1,T1⟩:=Zoc (j:=j) O.settle.go (ν:=upd (λ zz=>none) "self" (.ref (L .h))) O S R (by kernel_rfl)
  ⟨σ1,L1,Zg Zh9 rfl (Zb (Z3f h1) Za0),T1⟩
end
end PL
end
section
open PySem
namespace PL
section
variable {j:Nat} {σ:St} {ν:Fm} {e:PE} {ifs:List PE} {α:Type} {p q:α→AVal} {x:String}
theorem Zdk {g:Option (Nat×List AVal)} {t:α→Bool} (hst:Jy g σ):∀ {l:List α} {acc:List AVal},(∀ u∈l,IfsE j (upd (hide ν) x (p u)) ifs σ (t u) σ∧(t u=true→EvE j e (upd (hide ν) x (p u)) σ (q u) σ))→acc.length+l.length≤16000→LcR j g [x] ifs e ν ((l.map p).map λ x=>[x]) acc σ (acc++(l.filter t).map q) σ
  | [],acc,_,_=>by rw [List.map_nil,List.map_nil,List.filter_nil,List.map_nil,List.append_nil]; exact .nil hst
  | u::l,acc,h,hl=>by
    rw [Z7e,Z7e]
    rw [Z7f,Nat.add_succ] at hl
    obtain ⟨h1,h2⟩:=h u Z66
    have hr:∀ w∈l,_:=λ w hw=>h w (Z67 _ hw)
    cases ht:t u with
    | true=>
      rw [List.filter_cons_of_pos ht,Z7e,List.append_cons]
      exact .keep hst rfl (ht▸h1) (h2 ht) (Z6u (Z6r _ _) hl) (Zdk hst hr (by rw [Z69]; exact (Nat.succ_add _ _).symm▸hl))
    | false=>
      rw [List.filter_cons_of_neg (by rw [ht]; exact Z7w)]
      exact .skip hst rfl (ht▸h1) (Zdk hst hr (Z64 hl))
theorem Zu3 {g:Option (Nat×List AVal)} (hst:Jy g σ) {l:List α} (h:∀ u∈l,IfsE j (upd (hide ν) x (p u)) ifs σ false σ) (hl:l.length≤16000):LcR j g [x] ifs e ν ((l.map p).map λ x=>[x]) [] σ [] σ:=by
  have:=Zdk (e:=e) (q:=p) (t:=λ zz=>false) hst (acc:=[]) (λ u hu=>⟨h u hu,λ q=>nomatch q⟩) (by rw [List.length_nil,Nat.zero_add]; exact hl)
  rwa [List.filter_eq_nil_iff.mpr λ zz zz=>Z7w,List.map_nil,List.append_nil] at this
theorem Zkt {b:List PS} {P:Fm→Prop} (hu:∀ ν v,P ν→P (upd ν x v)):∀ {l:List α} {ν:Fm},(∀ u∈l,∀ ν,P ν→ExB j b (upd ν x (p u)) σ .next (upd ν x (p u)) σ)→P ν→∃ ν',ForR j none [x] b ((l.map p).map λ x=>[x]) ν σ .next ν' σ∧P ν'
  | [],ν,_,hP=>⟨ν,.nil Zl,hP⟩
  | u::l,ν,h,hP=>
    have ⟨ν',q1,q2⟩:=Zkt hu (λ w hw=>h w (Z67 _ hw)) (hu ν (p u) hP)
    ⟨ν',.turn Zl rfl (h u Z66 ν hP) q1,q2⟩
end
noncomputable def Zrh:CS:=[40,41,91,93,123,125,44,58]
structure Z3v (c:Nat):Prop where
  ascii:c < 128
  space:Zbz c=false
  bad:Zrh.contains c=false
structure okOp (op:CS):Prop where
  ne:op≠[]
  len:op.length≤1000
  signs:∀ c∈op,Z3v c
section
variable {j:Nat} {σ σ':St} {L L':Fld→Nat} {H H':HC} {ν:Fm}
theorem Zhq (op:CS):op.map (λ c=>[AVal.str [c]])=(op.map λ c=>AVal.str [c]).map λ x=>[x]:=by rw [List.map_map]; rfl
theorem Zoa {op:CS} (h:okOp op):CallR (j+1) "is_op" [.str op] σ (.bool true) σ:=by
  have hc:LcR j none ["sign"] [(.or (.mth (.loc "sign") "isspace" []) (.cmp .In (.loc "sign") (.cst (.str [40,41,91,93,123,125,44,58]))))] (.loc "sign") (upd (λ zz=>none) "text" (.str op)) (op.map λ c=>[.str [c]]) [] σ [] σ:=by
    rw [Zhq]
    exact Zu3 Zl (λ c hc=>.no (J0 ((Qt e_lk (.isspace [c]) es0 (.isspace (h.signs c hc).ascii)).eqv (by rw [(h.signs c hc).space])) ((Zo e_lk Ze (.inS c _)).eqv (by rw [show List.contains [40,41,91,93,123,125,44,58] c=false from (h.signs c hc).bad])))) (Z6p h.len ble)
  exact Zg Zy2 rfl (Z0 (Jw ((Zo e_lk Ze (.ne (.str 0 op []) ble)).eqv (by rw [nF λ q=>h.ne (by injection q)])) ((Zo (Q3 (es1 e_lk) (.str λ c hc=>(h.signs c hc).ascii) hc) (Zan es0) (.eqL (n:=0) (.lst _) (.lst _) (λ zz i a b h=>nomatch h) ble)).eqv (by rw [dT rfl]))))
theorem Zrv {op:CS} (h:okOp op) (hq:op.head?≠some 63) {x:AVal}:CallR (j+2) "Bank.require" [x,.str op] σ .none σ:=by
  cases op with
  | nil=>exact absurd rfl h.ne
  | cons c r=>
    exact Zg Zgx rfl (Zb (Zn (J0 (Zhk (p:=true) (e_fn (es1 e_lk) (Zoa h))) ((Zo (Ys e_lk Ze (.str (k:=0) (t:=c::r) rfl (Z6p h.len ble))) Ze (.eq (.str 0 [c] [63]) ble)).eqv (by rw [dF λ q=>hq (by injection q with q; rw [(List.cons.inj q).1]; rfl)])))) Za0)
noncomputable def Qc (H:HC) (nd:Nd):Option Nat:=H.nodes.zipIdx.lookup nd
theorem Zc5 {nd:Nd}:∀ {l:List Nd} {k i:Nat},(l.zipIdx k).lookup nd=some i→∃ d,i=k+d∧l[d]? = some nd
  | [],_,_,h=>nomatch h
  | x::l,k,i,h=>by
    rw [List.zipIdx_cons,List.lookup_cons] at h
    by_cases e:nd=x
    · rw [beq_iff_eq.mpr e] at h; exact ⟨0,(Z7g h).symm,by rw [e]; rfl⟩
    · rw [Z7v.mpr e] at h
      obtain ⟨d,h1,h2⟩:=Zc5 h
      exact ⟨d+1,by rw [h1,Z60,Nat.add_comm 1],h2⟩
theorem Zbx {nd:Nd} {i:Nat} (h:Qc H nd=some i):H.nodes[i]? = some nd:=by
  obtain ⟨d,h1,h2⟩:=Zc5 h
  rw [h1,Nat.zero_add]; exact h2
theorem Yu {nd:Nd} (h:Qc H nd=none):nd ∉ H.nodes:=λ hm=>by
  have:∀ {l:List Nd} {k:Nat},nd∈l→(l.zipIdx k).lookup nd≠none:=by
    intro l
    induction l with
    | nil=>intro k h; exact nomatch h
    | cons x l ih=>
      intro k h
      rw [List.zipIdx_cons,List.lookup_cons]
      by_cases e:nd=x
      · rw [beq_iff_eq.mpr e]; exact Option.some_ne_none _
      · rw [Z7v.mpr e]; exact ih ((Z7a.mp h).resolve_left e)
  exact this hm h
theorem Zgh {l:List Nd}:numD l=knoD l.zipIdx:=rfl
theorem Z0j {nd:Nd} (hk:nd.2.length≤2) (ho:ν "op"=some (.str nd.1)) (hks:ν "kids"=some (.tup (nd.2.map nA))):EvE j (.bin .Add (.tup [(.loc "op")]) (.blt "tuple" [(.loc "kids")])) ν σ (Zr nd) σ:=
  Qi (Yq (es1 (Zc ho))) (Yl (es1 (Zc hks)) (.tuple (.tup _) (Zf (le2 hk)))) (.addT (x:=[.str nd.1]) (y:=nd.2.map nA) (by rw [Z68]; exact Z6p (Z6w hk 1) ble))
theorem Zrc {nd:Nd} {p:Bool} (R:Rep σ L H) (hs:ν "self"=some (.ref (L .bank))) (hn:ν "node"=some (Zr nd)) (h:(Qc H nd).isSome=p):EvE j (.cmp .In (.loc "node") (.att (.loc "self") "numbers")) ν σ (.bool p) σ:=
  (Zo (Zc hn) (Zs (Zc hs) R.bobj) (.inD R.numbers (Zgh▸J7) rfl)).eqv (by rw [Zgh,Zdl,Option.isSome_map,← h]; rfl)
theorem Zn7 (R:Rep σ L H) {i:Nat} {nd:Nd} (hi:Qc H nd=some i) (hk:nd.2.length≤2):CallR (j+1) "Bank.take" [.ref (L .bank),.str nd.1,.tup (nd.2.map nA)] σ (nA i) σ:=
  Zg Ze8 rfl (Zb (Yr (Z0j hk (by kernel_rfl) (by kernel_rfl))) (Ql (Za4 (Zrc R (by kernel_rfl) (by kernel_rfl) (by rw [hi]; rfl)) (Zaz (Ys (Zs e_lk R.bobj) e_lk (.dict R.numbers (Zgh▸J7) (by rw [Zgh,Zdl,show List.lookup nd _=some i from hi]; rfl)))))))
end
end PL
end
section
open PySem
namespace PL
noncomputable def mx (l:List Int):Int:=@List.casesOn _ (λ zz=>Int) l 0 λ i is=>is.foldl max i
section
variable (H:HC)
noncomputable def Zs1 (ws:List Int) (ks:List Nat):List Int:=ks.map λ k=>(ws[k]?).getD 0
noncomputable def wOf (ks:List Nat):Int:=1+(Zs1 H.weights ks).sum
noncomputable def dOf (ks:List Nat):Int:=1+mx (Zs1 H.depths ks++[0])
noncomputable def hNd (nd:Nd):HC:={ H with nodes:=H.nodes++[nd] }
noncomputable def hW (w:Int):HC:={ H with weights:=H.weights++[w] }
noncomputable def hD (d:Int):HC:={ H with depths:=H.depths++[d] }
noncomputable def Z1v (nd:Nd):HC:=⟨H.nodes++[nd],H.weights++[wOf H nd.2],H.depths++[dOf H nd.2],H.par,H.lots,H.merged,H.edges,H.forest,H.known,H.abv,H.waiting,H.rows⟩
theorem Zyw (nd:Nd):hD (hW (hNd H nd) (wOf H nd.2)) (dOf H nd.2)=Z1v H nd:=rfl
end
section
variable {j:Nat} {σ σ':St} {L L':Fld→Nat} {H H':HC} {ν:Fm}
theorem Tr.nd (R:Rep σ L H) (nd:Nd):Tr σ L H ((σ.put (L .numbers) (.dict (knoD (H.nodes.zipIdx++[(nd,H.nodes.length)])))).put (L .nodes) (.list (H.nodes.map Zr++[Zr nd]))) L (hNd H nd) where
  rep:=⟨R.inj,R.lt,λ f hf=>by
    by_cases e2:f=.nodes
    · rw [e2]; exact (Yk ..).trans (Z7r some (Z7r AObj.list (Y0 Zr _ nd)))
    · refine (Zw λ q=>e2 (R.inj f .nodes hf trivial q)).trans ?_
      by_cases e1:f=.numbers
      · rw [e1]; exact (Yk ..).trans (Z7r some (Z7r (λ l=>AObj.dict (knoD l)) (by show _=(H.nodes++[nd]).zipIdx; rw [List.zipIdx_append,Nat.zero_add]; rfl)))
      · refine (Zw λ q=>e1 (R.inj f .numbers hf trivial q)).trans ((R.val f hf).trans (Z7r some ?_))
        revert e1 e2
        clear hf
        exact @Fld.casesOn (λ f=>f≠.nodes→f≠.numbers→cont L H f=cont L (hNd H nd) f) f (λ zz zz=>rfl) (λ zz zz=>rfl) (λ zz zz=>rfl) (λ q zz=>absurd rfl q) (λ zz q=>absurd rfl q) (λ zz zz=>rfl) (λ zz zz=>rfl) (λ zz zz=>rfl) (λ zz zz=>rfl) (λ zz zz zz=>rfl) (λ zz zz=>rfl) (λ zz zz=>rfl) (λ zz zz=>rfl) (λ zz zz=>rfl) (λ zz zz=>rfl) (λ zz zz zz=>rfl) (λ zz zz=>rfl) (λ zz zz=>rfl)⟩
  n:=Z6q _
  fr id h1 h2:=(Zw λ q=>h2 .nodes trivial q.symm).trans (Zw λ q=>h2 .numbers trivial q.symm)
  ids g hg:=.inl ⟨g,hg,rfl⟩
  top:=rfl
theorem Tr.weight (R:Rep σ L H) (w:Int):Tr σ L H (σ.put (L .weights) (.list (H.weights.map .int++[.int w]))) L (hW H w):=
  Tr.put' (H':=hW H w) R .weights trivial (λ zz=>Iff.rfl) (λ fd hg zz=>@Fld.casesOn (λ fd=>fd≠.weights→cont L (hW H w) fd=cont L H fd) fd (λ zz=>rfl) (λ zz=>rfl) (λ zz=>rfl) (λ zz=>rfl) (λ zz=>rfl) (λ q=>absurd rfl q) (λ zz=>rfl) (λ zz=>rfl) (λ zz=>rfl) (λ zz zz=>rfl) (λ zz=>rfl) (λ zz=>rfl) (λ zz=>rfl) (λ zz=>rfl) (λ zz=>rfl) (λ zz zz=>rfl) (λ zz=>rfl) (λ zz=>rfl) hg) (Z7r AObj.list (Y0 AVal.int _ w))
theorem Tr.depth (R:Rep σ L H) (w:Int):Tr σ L H (σ.put (L .depths) (.list (H.depths.map .int++[.int w]))) L (hD H w):=
  Tr.put' (H':=hD H w) R .depths trivial (λ zz=>Iff.rfl) (λ fd hg zz=>@Fld.casesOn (λ fd=>fd≠.depths→cont L (hD H w) fd=cont L H fd) fd (λ zz=>rfl) (λ zz=>rfl) (λ zz=>rfl) (λ zz=>rfl) (λ zz=>rfl) (λ zz=>rfl) (λ q=>absurd rfl q) (λ zz=>rfl) (λ zz=>rfl) (λ zz zz=>rfl) (λ zz=>rfl) (λ zz=>rfl) (λ zz=>rfl) (λ zz=>rfl) (λ zz=>rfl) (λ zz zz=>rfl) (λ zz=>rfl) (λ zz=>rfl) hg) (Z7r AObj.list (Y0 AVal.int _ w))
theorem e_ks {nd:Nd} (hk:nd.2.length≤2) (hn:ν "node"=some (Zr nd)):EvE j (.slc (.loc "node") (.cst (.int 1)) (.cst .none) (.cst .none)) ν σ (.tup (nd.2.map nA)) σ:=
  Zbp (Zc hn) Qb Qb Qb (.tup (i:=1) (xs:=.str nd.1::nd.2.map nA) (Z6q 1) (Z6v (Z63 _)) (Nat.succ_le_of_lt (Z6u (Zf hk) ble)))
theorem Z4w {col:String} {fid:Nat} {ws:List Int} {nd:Nd} (R:Rep σ L H) (hs:ν "self"=some (.ref (L .bank))) (hn:ν "node"=some (Zr nd)) (hm:bfm L col=some (.ref fid)) (hf:σ.f fid=some (.list (ws.map .int))) (hat:Jk.contains ("Bank",col)=true) (hl:ws.length≤16000) (hk:nd.2.length≤2) (hkl:∀ k∈nd.2,k < ws.length):
    EvE j (.comp (.idx (.att (.loc "self") col) (.loc "kid")) ["kid"] 0 [(.slc (.loc "node") (.cst (.int 1)) (.cst .none) (.cst .none))] []) ν σ (.lst ((Zs1 ws nd.2).map .int)) σ:=by
  have hg:LcR j none ["kid"] [] (.idx (.att (.loc "self") col) (.loc "kid")) ν ((nd.2.map nA).map λ x=>[x]) [] σ ([]++nd.2.map λ k=>.int ((ws[k]?).getD 0)) σ:=
    Zdj Zl (λ k hk'=>(Zib (hkl k hk')).elim λ w hw=>Ys (Z4x (Zc (Za (Jz hs))) R.bobj hm hat) (Zc (Zi ..)) (.lst (.ref hf) ((Zfi hw).trans (by rw [hw]; rfl)) (Zf hl))) (by rw [List.length_nil,Nat.zero_add]; exact le2 hk)
  exact (Q3 (es1 (e_ks hk hn)) (.tup _) hg).eqv (by rw [Zs1,List.map_map]; rfl)
theorem Z1l (l:List Int):∃ i is,l++[0]=i::is:=by
  cases l with
  | nil=>exact ⟨_,_,rfl⟩
  | cons i is=>exact ⟨_,_,rfl⟩
theorem Zn8 (R:Rep σ L H) (O:Core H) (S:Ye H) {nd:Nd} (hop:okOp nd.1) (hq:nd.1.head?≠some 63) (hi:Qc H nd=none) (hk:nd.2.length≤2) (hkl:∀ k∈nd.2,k < H.nodes.length):
    ∃ σ',CallR (j+3) "Bank.take" [.ref (L .bank),.str nd.1,.tup (nd.2.map nA)] σ (nA H.nodes.length) σ'∧Tr σ L H σ' L (Z1v H nd):=by
  have T2:=Tr.nd R nd
  have T3:=Tr.weight T2.rep (wOf H nd.2)
  have T4:=Tr.depth T3.rep (dOf H nd.2)
  have l16:=le63 S.n
  have nb:L .bank≠L .numbers:=R.ne trivial trivial λ q=>nomatch q
  have nn:L .nodes≠L .numbers:=R.ne trivial trivial λ q=>nomatch q
  obtain ⟨ν1,hν1⟩:∃ ν1:Fm,ν1=upd (upd (upd (upd (λ zz=>none) "self" (.ref (L .bank))) "op" (.str nd.1)) "kids" (.tup (nd.2.map nA))) "node" (Zr nd):=⟨_,rfl⟩
  have n1:ν1 "self"=some (.ref (L .bank))∧ν1 "node"=some (Zr nd):=by rw [hν1]; exact ⟨by kernel_rfl,by kernel_rfl⟩
  have n1o:ν1 "op"=some (.str nd.1):=by rw [hν1]; kernel_rfl
  obtain ⟨ν2,hfor,ns,nn2⟩:=Zkt (j:=j+2) (σ:=σ) (b:=[(.ifs (.not (.cmp2 (.cst (.int 0)) .LtE (.loc "kid") .Lt (.blt "len" [(.att (.loc "self") "nodes")]))) [.any] [])]) (x:="kid") (p:=nA) (l:=nd.2) (P:=λ ν=>ν "self"=some (.ref (L .bank))∧ν "node"=some (Zr nd))
    (λ ν v h=>⟨Za h.1,Za h.2⟩) (λ k hk' ν h=>Qk (Zn (Zhk (p:=true) (Zk9 Ze (Zc (Zi ..)) ((CmpR.le 0 k).eqv (dT (Int.natCast_nonneg k))) (Yl (es1 (Zs (Zc (Za h.1)) R.bobj)) (.len (.lst (.ref R.nodes)) (Zf l16))) ((CmpR.lt k _).eqv (dT (by rw [Z68]; exact Int.ofNat_lt.mpr (hkl k hk')))))))) n1
  obtain ⟨m0,ms,hms⟩:=Z1l (Zs1 H.depths nd.2)
  have hdo:dOf H nd.2=1+ms.foldl max m0:=by rw [dOf,hms]; rfl
  have e_len:∀ {σ1:St} {ν:Fm} {l:List Nd},ν "self"=some (.ref (L .bank))→σ1.f (L .bank)=some (.inst "Bank" 4 (bfm L))→σ1.f (L .nodes)=some (.list (l.map Zr))→l.length≤16000→EvE (j+2) (.blt "len" [(.att (.loc "self") "nodes")]) ν σ1 (nA l.length) σ1:=
    λ hs hb hn hl=>(Yl (es1 (Zs (Zc hs) hb)) (.len (.lst (.ref hn)) (Zf hl))).eqv (by rw [Z68])
  have T:=(T2.trans T3).trans T4
  rw [Zyw] at T
  refine ⟨_,Zg Ze8 rfl (Zb (Yr (Z0j hk (by kernel_rfl) (by kernel_rfl))) ?_),T⟩
  show BodyR _ _ (upd (upd (upd (upd (λ zz=>none) "self" (.ref (L .bank))) "op" (.str nd.1)) "kids" (.tup (nd.2.map nA))) "node" (Zr nd)) _ _ _
  rw [← hν1]
  refine Zb (Zn (Zrc R n1.1 n1.2 (by rw [hi]; rfl))) (Zb (Qa (Yb (Zc n1.1) R.bobj (es1 (Zc n1o)) (Zrv hop hq))) (Zb (Zhz (es1 (e_ks hk n1.2)) (.tup _) hfor)
    (Zb (Zt9 (e_len ns R.bobj R.nodes l16) (Zs (Zc ns) R.bobj) (Zc nn2) (Zqt hi▸.dict (k:=Zr nd) R.numbers (Zgh▸J7) (Zf (by rw [List.length_zipIdx]; exact l16))))
    (Zb (Qa (Qt (Zs (Zc ns) ((Zw nb).trans R.bobj)) (.append ((Zw nn).trans R.nodes)) (es1 (Zc nn2)) (.append ((Zw nn).trans R.nodes) (Zf l16))))
    (Zb (Qa (Qt (Zs (Zc ns) T2.rep.bobj) (.append T2.rep.weights) (es1 (Qi Ze (Yl (es1 (Z4w (fid:=L .weights) T2.rep ns nn2 (by kernel_rfl) T2.rep.weights (by kernel_rfl) (O.lw.symm▸l16) hk λ k h=>O.lw.symm▸hkl k h)) (.sum rfl)) (.addI 1 _))) (.append T2.rep.weights (Zf (O.lw.symm▸l16)))))
    (Zb (Qa (Qt (Zs (Zc ns) T3.rep.bobj) (.append T3.rep.depths) (es1 (EvE.eqv (w:=.int (dOf H nd.2)) (Qi Ze (Yl (es1 (Qi (Z4w (fid:=L .depths) T3.rep ns nn2 (by kernel_rfl) T3.rep.depths (by kernel_rfl) (O.ld.symm▸l16) hk λ k h=>O.ld.symm▸hkl k h) (Zan (es1 Ze)) (.addL (.lst _) (.lst _) (y:=[.int 0]) ?_))) (.max (i:=m0) (is:=ms) ?_)) (.addI 1 _)) (Z7r AVal.int hdo.symm))) (.append T3.rep.depths (Zf (O.ld.symm▸l16)))))
    (Z0 ((Qi (e_len ns T4.rep.bobj T4.rep.nodes ?_) Ze (.subI _ 1)).eqv ?_))))))))
  · rw [Z68,Zs1,Z68]; exact Z6p (Z6x hk _) ble
  · rw [← hms,List.map_append]; rfl
  · show (H.nodes++[nd]).length≤_
    rw [Zd]; exact Z6p (Z6v S.n) ble
  · show AVal.int (((H.nodes++[nd]).length:Nat)-1)=_
    rw [Zd]; exact Z7r AVal.int (Int.add_sub_cancel (H.nodes.length:Int) 1)
end
end PL
end
section
open PySem PySem.W PyProof.Rows
namespace PL
section
variable {κ:Type} {R:κ→κ→Bool} {f:κ→AVal} {zs xs:List κ}
noncomputable def ltZ (R:κ→κ→Bool) (zs:List κ) (i j:Nat):Bool:=@Option.casesOn _ (λ zz=>Bool) zs[i]? false λ a=>@Option.casesOn _ (λ zz=>Bool) zs[j]? false λ b=>R a b
theorem Ziy {i j:Nat} {a b:κ} (h:zs[i]? = some a) (k:zs[j]? = some b):ltZ R zs i j=R a b:=by unfold ltZ; rw [h,k]
theorem Zkh {i j:Nat} (h:ltZ R zs i j=true):∃ a b,zs[i]? = some a∧zs[j]? = some b∧R a b=true:=by
  cases hi:zs[i]? with
  | none=>unfold ltZ at h; rw [hi] at h; exact nomatch h
  | some a=>
    cases hj:zs[j]? with
    | none=>unfold ltZ at h; rw [hi,hj] at h; exact nomatch h
    | some b=>exact ⟨a,b,rfl,rfl,(Ziy hi hj).symm.trans h⟩
theorem Ord.so (O:Ord κ R) (hn:zs.Nodup):SO (ltZ R zs) zs.length where
  irr i:=(Bool.not_eq_true _).mp λ h=>by
    obtain ⟨a,b,h1,h2,h3⟩:=Zkh h
    obtain rfl:=Z7g (h1.symm.trans h2)
    exact nomatch (O.irr _).symm.trans h3
  tr i j k h h':=by
    obtain ⟨a,b,h1,h2,h3⟩:=Zkh h
    obtain ⟨b',c,k1,k2,k3⟩:=Zkh h'
    obtain rfl:=Z7g (h2.symm.trans k1)
    exact (Ziy h1 k2).trans (O.tr _ _ _ h3 k3)
  tot i j hi hj h:=by
    have h1:=Z7l hi
    have h2:=Z7l hj
    refine (O.tot zs[i] zs[j] λ e=>h ((List.getElem?_inj hi hn).mp (h1.trans ((Z7r some e).trans h2.symm)))).imp (λ q=>(Ziy h1 h2).trans q) λ q=>(Ziy h2 h1).trans q
theorem Z0b:∀ {cs:List AVal},(∀ c∈cs,c∈xs.map f)→∃ zs:List κ,cs=zs.map f
  | [],_=>⟨[],rfl⟩
  | c::cs,h=>by
    obtain ⟨zs,rfl⟩:=Z0b (cs:=cs) λ x hx=>h x (Z67 _ hx)
    obtain ⟨z,zz,rfl⟩:=Z7b.mp (h c Z66)
    exact ⟨z::zs,rfl⟩
theorem Zx7:∀ (zs:List κ),(List.range zs.length).filterMap (zs[·]?)=zs:=λ zs=>by
  have:=filterMap_getElem?_range zs.toArray
  simpa using this
theorem F2.picks {W:Wd} {us:List Value} (h:VRels W us (zs.map f)):∀ {l:List Nat},(∀ i∈l,i < zs.length)→VRels W (l.map λ i=>us.getD i .none) ((l.filterMap (zs[·]?)).map f)
  | [],_=>trivial
  | i::l,hl=>by
    obtain ⟨z,h1⟩:∃ z,zs[i]? = some z:=⟨_,Z7l (hl i Z66)⟩
    obtain ⟨u,hu,r⟩:=h.get (i:=i) (b:=f z) (by rw [List.getElem?_map,h1]; rfl)
    rw [List.filterMap_cons_some (b:=z) h1,Z7e,Z7e]
    exact ⟨by rw [List.getD_eq_getElem?_getD,hu]; exact r,F2.picks h λ j hj=>hl j (Z67 _ hj)⟩
theorem Zxj {p:Array Nat} (P:Pm zs.length p) (S:Srt (ltZ R zs) p zs.length):(p.toList.filterMap (zs[·]?)).Pairwise (R · ·=true):=by
  refine List.pairwise_filterMap.mpr (List.pairwise_iff_getElem.mpr λ i j hi hj hij b hb b' hb'=>?_)
  rw [Z7k,P.size] at hi hj
  have hg:∀ {i} (h:i < zs.length) (h':i < p.toList.length),p.toList[i]=p.getD i 0:=λ h h'=>by
    have:=(Z7l h').symm.trans (Z7i.trans (P.get h))
    exact Z7g this
  rw [hg hi] at hb
  rw [hg hj] at hb'
  exact (Ziy (R:=R) hb hb').symm.trans (S i j hij hj)
end
variable {κ:Type} {R:κ→κ→Bool} {f:κ→AVal} {sk:SortKind} {b:Bool} {xs ys:List κ}
theorem Zhw {s:Shared} {M:Model} {A:Around} {E:Value→Shared→Prop} {vs:List Value} {Q:Value→Shared→Prop} (h:Q (.ref s.heap.objs.size) { s with heap:=s.heap.push (seqObj "list" vs.toArray 0) }) (hz:vs.length≤sizeLine):wpAny M A (newList vs) Q E s:=wpAny_newList h hz
theorem Zr1 {X:Cx} {W:Wd} {σ:St} {s:Shared} {A:Around} {E:Value→Shared→Prop} {Q:Value→Shared→Prop} (D:Kd κ R f sk b) {S:Addr} {cs:List AVal} (I:Inv X W σ s) (C:SetI X W s.heap S (!byT X) cs) (hm:∀ c,c∈cs↔c∈xs.map f) (hh:A.handled=none) (hz:xs.length≤63)
    (h1:ys.Pairwise (R · ·=true)) (h2:∀ y,y∈ys↔y∈xs) (h:Pst X W σ (.lst (ys.map f)) Q):wpAny (model pp X.w) A (call (.builtin "sorted") [.ref S]) Q E s:=by
  have hlen:cs.length≤63:=Z6p (J5 C.nodup λ c hc=>(hm c).mp hc) (by rw [Z68]; exact hz)
  refine Calls.call_function_entry kind_sorted plain_sorted entry_sorted (args_sorted1 _) ?_
  unfold Builtin.«sorted»
  refine Z7p (m:=checkCount "sorted" 1 1 _) (Z7q ?_)
  refine Z7p (Zpf (A:=A.in1) I C hh (Nat.le_succ_of_le hlen) λ s' acc cs' I' hp hr=>?_)
  obtain ⟨zs,rfl⟩:=Z0b (xs:=xs) (f:=f) (cs:=cs') λ c hc=>(hm c).mp (hp.mem_iff.mp hc)
  have hzn:zs.Nodup:=(List.pairwise_map.mp (hp.nodup_iff.mpr C.nodup)).imp λ h e=>h (Z7r f e)
  have hzm:∀ z,z∈zs↔z∈xs:=λ z=>by
    have:=hp.mem_iff (a:=f z)
    rw [hm] at this
    exact ⟨λ q=>let ⟨_,q1,q2⟩:=Z7b.mp (this.mp (Z7b.mpr ⟨z,q,rfl⟩)); D.inj _ _ q2▸q1,λ q=>let ⟨_,q1,q2⟩:=Z7b.mp (this.mpr (Z7b.mpr ⟨z,q,rfl⟩)); D.inj _ _ q2▸q1⟩
  have hal:acc.length=zs.length:=hr.length.trans (Z68 f)
  have hzl:zs.length≤63:=by rw [← Z68 (f:=f),hp.length_eq]; exact hlen
  have hl64:acc.length < 64:=hal▸Nat.lt_succ_of_le hzl
  refine Z7p (Zhw ?_ (lt64 hl64))
  have hL:(s'.heap.push (seqObj "list" acc.toArray 0)).get? s'.heap.objs.size=some (seqObj "list" acc.toArray 0):=Z7o _ rfl
  have hI:∀ {h':Heap},(∀ b o,b≠s'.heap.objs.size→(s'.heap.push (seqObj "list" acc.toArray 0)).get? b=some o→h'.get? b=some o)→Inv X W σ { s' with heap:=h' }:=λ hk=>I'.grow (tk:=s'.toks) λ a o ha e=>hk a o (λ q=>ha (q▸I'.free (Z6q _))) (Z7n _ e)
  have O:=D.ord.so hzn
  rw [← hal] at O
  refine Z7p (wpAny_holding (wpAny_call_entry slot_list_sort ⟨_,hL,rfl⟩ entry_list_sort (Zxy (lt:=ltZ R zs) (κ:=sk) hL hl64 O (λ hk h2 hq=>D.kind (hI hk) hr h2 hq) (λ {h' Q i j} hk hi hj hq=>?_) λ h' p e P1 S1 hk hD=>⟨_,rfl,?_⟩) (args_list_sort _)))
  · rw [hal] at hi hj
    have e1:=Z7l hi
    have e2:=Z7l hj
    obtain ⟨u,hu,ru⟩:=hr.get (i:=i) (b:=f zs[i]) (by rw [List.getElem?_map,e1]; rfl)
    obtain ⟨v,hv,rv⟩:=hr.get (i:=j) (b:=f zs[j]) (by rw [List.getElem?_map,e2]; rfl)
    rw [List.getD_eq_getElem?_getD,List.getD_eq_getElem?_getD,hu,hv]
    rw [Ziy e1 e2] at hq
    exact D.cmp (hI hk) ru rv hq
  · rw [hal] at P1 S1
    have hys:p.toList.filterMap (zs[·]?)=ys:=D.ord.uniq (Zxj P1 S1) h1 λ x=>by
      rw [(P1.filterMap _).mem_iff,Zx7,hzm,h2]
    have hf:=F2.picks hr (l:=p.toList) λ i hi=>List.mem_range.mp (P1.mem_iff.mp hi)
    rw [hys] at hf
    refine Z7q ⟨_,rfl,?_⟩
    exact Pst.mk_list (s:=s') (tk:=s'.toks) I' h (λ a o ha=>hk a o (Nat.ne_of_lt (Heap.lt_size ha)) (Z7n _ ha)) (Zx _) ⟨e,hD⟩ hf
end PL
end
section
open PySem PySem.W PyProof.Rows
namespace PL
section
variable {κ:Type} [DecidableEq κ] {R:κ→κ→Bool}
noncomputable def ins (R:κ→κ→Bool) (x:κ):List κ→List κ
  | []=>[x]
  | y::l=>if x=y then y::l else if R x y=true then x::y::l else y::ins R x l
noncomputable def Zt7 (R:κ→κ→Bool) (xs:List κ):List κ:=xs.foldr (ins R) []
theorem Zoz {x c:κ}:∀ {l:List κ},c∈ins R x l↔c=x∨c∈l
  | []=>Z7a
  | y::l=>by
    show c∈(if x=y then y::l else if R x y=true then x::y::l else y::ins R x l)↔_
    by_cases h:x=y
    · subst h; rw [if_pos rfl]; exact ⟨.inr,λ q=>q.elim (λ e=>e▸Z66) id⟩
    · rw [if_neg h]
      by_cases r:R x y=true
      · rw [if_pos r]; exact Z7a
      · rw [if_neg r,Z7a,Zoz,Z7a]
        exact ⟨λ q=>q.elim (λ e=>.inr (.inl e)) λ q=>q.imp id .inr,λ q=>q.elim (λ e=>.inr (.inl e)) λ q=>q.imp id .inr⟩
theorem Zqy (O:Ord κ R) {x:κ}:∀ {l:List κ},l.Pairwise (R · ·=true)→(ins R x l).Pairwise (R · ·=true)
  | [],_=>List.pairwise_singleton _ _
  | y::l,h=>by
    obtain ⟨h1,h2⟩:=List.pairwise_cons.mp h
    show (if x=y then y::l else if R x y=true then x::y::l else y::ins R x l).Pairwise _
    by_cases e:x=y
    · rw [if_pos e]; exact h
    · rw [if_neg e]
      by_cases r:R x y=true
      · rw [if_pos r]
        exact List.pairwise_cons.mpr ⟨λ c hc=>(Z7a.mp hc).elim (λ e=>e▸r) λ hc=>O.tr _ _ _ r (h1 c hc),h⟩
      · rw [if_neg r]
        exact List.pairwise_cons.mpr ⟨λ c hc=>(Zoz.mp hc).elim (λ q=>q▸(O.tot x y e).resolve_left r) (h1 c),Zqy O h2⟩
theorem Zf8 {c:κ}:∀ {xs:List κ},c∈Zt7 R xs↔c∈xs
  | []=>Iff.rfl
  | x::xs=>Zoz.trans ((or_congr_right Zf8).trans Z7a.symm)
theorem Zek (O:Ord κ R):∀ (xs:List κ),(Zt7 R xs).Pairwise (R · ·=true)
  | []=>.nil
  | x::xs=>Zqy O (Zek O xs)
end
theorem Z0p:BN "set" (.type "set"):=⟨rfl,by kernel_rfl,by kernel_rfl,.inr ⟨_,rfl⟩⟩
theorem Znt:BN "sorted" (.builtin "sorted"):=⟨rfl,by kernel_rfl,by kernel_rfl,.inl ⟨_,rfl⟩⟩
section
variable {j:Nat} {e:PE} {ν:Fm} {σ σ1:St} {x:AVal}
theorem Zng {κ:Type} [DecidableEq κ] {R:κ→κ→Bool} {f:κ→AVal} {sk:SortKind} {b:Bool} (D:Kd κ R f sk b) {xs:List κ} (h:EvE j e ν σ x σ1) (hx:LOf σ1 x (xs.map f)) (hl:xs.length≤63):EvE j (.sset e) ν σ (.lst ((Zt7 R xs).map f)) σ1:=
  .plain (λ h=>Zd8 h) λ {X y env own W A st E Q} hf c hq=>Zc3 hf λ p as ps hg h2=>by
  refine PyProof.Rows.Call_Name rfl (Zqe c.frm c.inv hg Znt (Znp (K:=X.K) Znt.call (Z6 h2) ?_))
  refine Z7 (Q:=λ as=>wpAny _ _ (spliced (backTo _ (starEach as env))) _ E st) h2 λ z r hz=>?_
  have hn:=(and2 hz).1
  have hz:=(and2 hz).2
  have hr:=(and2 hz).2
  have hz:=(and2 hz).1
  rw [Q4 hn,Z5 hr]
  refine Calls.spliced_cons (Zc3 (C:=λ z=>wpAny _ _ (eval z env) _ E st) hz λ p' as' ps' hg' h2'=>?_)
  refine PyProof.Rows.Call_Name rfl (Zqe c.frm c.inv hg' Z0p (Znp (K:=X.K) Z0p.call (Z6 h2') (Za1 (.cons h (.nil _)) h2' c λ W1 cvs s1 l1 I1 hv=>⟨I1.kin,?_⟩)))
  obtain ⟨v,rest,rfl,hv1,hv2⟩:=F2.cons_right hv
  rw [F2.nil_right hv2]
  obtain ⟨a,rfl,us,hus,hur⟩:=I1.listOf hv1 hx
  refine Zzm (b:=b) I1 c.room.hh hus.isList hur (λ c hc=>let ⟨q,_,e⟩:=Z7b.mp hc; e▸D.kin q) c.un (by rw [Z68]; exact hl) λ s2 cs I2 hS C hm=>?_
  exact Calls.spliced_nil ⟨I2.kin,Zr1 D I2 C hm c.room.hh hl (Zek D.ord xs) (λ y=>Zf8) (hq.le l1)⟩
noncomputable def setN (ns:List Nat):List Nat:=Zt7 (λ a b=>decide (a < b)) ns
noncomputable def setK (nds:List Nd):List Nd:=Zt7 (λ a b=>decide (NdLt a b)) nds
theorem Zp5 {ns:List Nat} {c:Nat}:c∈setN ns↔c∈ns:=Zf8
theorem Zr4 {ns:List Nat}:(setN ns).Nodup:=(Zek Zuh ns).imp λ h=>Nat.ne_of_lt (of_decide_eq_true h)
theorem Zp6 {ns:List Nat}:(setN ns).length≤ns.length:=J5 Zr4 λ x=>Zp5.mp
theorem Zjc {ns:List Nat} (h:EvE j e ν σ x σ1) (hx:LOf σ1 x (ns.map nA)) (hl:ns.length≤63):EvE j (.sset e) ν σ (.lst ((setN ns).map nA)) σ1:=Zng Z4f h hx hl
theorem Zpc {nds:List Nd} (h:EvE j e ν σ x σ1) (hx:LOf σ1 x (nds.map Zr)) (hl:nds.length≤63):EvE j (.sset e) ν σ (.lst ((setK nds).map Zr)) σ1:=Zng Z56 h hx hl
theorem Zsy (h:EvE j e ν σ x σ1) (hx:LOf σ1 x []):EvE j (.sset e) ν σ (.lst []) σ1:=Zng (xs:=[]) Zu9 h hx (Z63 _)
theorem Zsx {a:CS} (h:EvE j e ν σ x σ1) (hx:LOf σ1 x [.str a]):EvE j (.sset e) ν σ (.lst [.str a]) σ1:=Zng (xs:=[a]) Zu9 h hx (Z6y rfl)
theorem Zy9 (h:EvE j e ν σ x σ1) (hx:LOf σ1 x [.str [63,120],.str [63,121]]):EvE j (.sset e) ν σ (.lst [.str [63,120],.str [63,121]]) σ1:=Zng (xs:=[[63,120],[63,121]]) Zu9 h hx (Z6y rfl)
end
end PL
end
section
open PySem
namespace PL
noncomputable def Zga (L:Fld→Nat) (k n:Nat) (f:Fld):Nat:=@Fld.casesOn (λ zz=>Nat) f (L .h) (L .bank) (L .unions) (L .nodes) (L .numbers) (L .weights) (L .depths) (L .uab) (L .lots) (λ i=>if i=k then n else L (.lot i)) (L .merged) (L .edges) (L .forest) (L .known) (L .hab) (λ c=>L (.abv c)) (L .waiting) (L .rows)
section
variable (H:HC)
noncomputable def hUp:HC:={ H with par:=H.par++[H.par.length] }
noncomputable def hLot:HC:={ H with lots:=H.lots++[[H.lots.length]] }
noncomputable def Z4m:HC:=⟨H.nodes,H.weights,H.depths,H.par++[H.par.length],H.lots++[[H.lots.length]],H.merged,H.edges,H.forest,H.known,H.abv,H.waiting,H.rows⟩
noncomputable def hUse (n:Nat):HC:={ H with abv:=H.abv++[(n,[])] }
noncomputable def Zcv (nd:Nd):HC:=⟨H.nodes++[nd],H.weights++[wOf H nd.2],H.depths++[dOf H nd.2],H.par++[H.par.length],H.lots++[[H.lots.length]],H.merged,H.edges,H.forest,H.known,H.abv++[(H.nodes.length,[])],H.waiting,H.rows⟩
theorem Zyz (nd:Nd):hUse (Z4m (Z1v H nd)) H.nodes.length=Zcv H nd:=rfl
noncomputable def Zcu (n c:Nat):HC:=⟨H.nodes,H.weights,H.depths,H.par,H.lots,H.merged,H.edges,H.forest,H.known,repK c (Z2 H c++[n]) H.abv,H.waiting,H.rows⟩
end
noncomputable def Zso (n:Nat) (cs:List Nat) (H:HC):HC:=cs.foldl (λ H c=>Zcu H n c) H
section
variable {σ σ':St} {L L':Fld→Nat} {H H':HC} {k n c:Nat}
theorem Zf9:Zga L k n (.lot k)=n:=if_pos rfl
theorem Zin {i:Nat} (h:i≠k):Zga L k n (.lot i)=L (.lot i):=if_neg h
theorem Zt8 {f:Fld}:f≠.lot k→Zga L k n f=L f:=@Fld.casesOn (λ f=>f≠.lot k→Zga L k n f=L f) f (λ zz=>rfl) (λ zz=>rfl) (λ zz=>rfl) (λ zz=>rfl) (λ zz=>rfl) (λ zz=>rfl) (λ zz=>rfl) (λ zz=>rfl) (λ zz=>rfl) (λ i h=>Zin λ q=>h (by rw [q])) (λ zz=>rfl) (λ zz=>rfl) (λ zz=>rfl) (λ zz=>rfl) (λ zz=>rfl) (λ zz zz=>rfl) (λ zz=>rfl) (λ zz=>rfl)
theorem Tr.up (R:Rep σ L H):Tr σ L H (σ.put (L .uab) (.list (H.par.map nA++[nA H.par.length]))) L (hUp H):=
  Tr.put' (H':=hUp H) R .uab trivial (λ zz=>Iff.rfl) (λ fd hg zz=>@Fld.casesOn (λ fd=>fd≠.uab→cont L (hUp H) fd=cont L H fd) fd (λ zz=>rfl) (λ zz=>rfl) (λ zz=>rfl) (λ zz=>rfl) (λ zz=>rfl) (λ zz=>rfl) (λ zz=>rfl) (λ q=>absurd rfl q) (λ zz=>rfl) (λ zz zz=>rfl) (λ zz=>rfl) (λ zz=>rfl) (λ zz=>rfl) (λ zz=>rfl) (λ zz=>rfl) (λ zz zz=>rfl) (λ zz=>rfl) (λ zz=>rfl) hg) (Z7r AObj.list (Y0 nA _ _))
theorem Z31 {σ:St} {i k:Nat} {o o':AObj} {v} (hl:i < σ.n) (hne:i≠k) (h:σ.f i=some v):((σ.new o).put k o').f i=some v:=(Zw hne).trans ((Y3 hl).trans h)
theorem Zsf:Zmi (Zga L n k) (n+1)=Zmi L n++[.ref k]:=by
  show (List.range (n+1)).map _=_
  rw [List.range_succ,List.map_append,List.map_singleton,Zf9]
  exact Z7r (·++_) (List.map_congr_left λ i hi=>Z7r AVal.ref (Zin (Nat.ne_of_lt (List.mem_range.mp hi))))
theorem Zmj {i:Nat} {l:List Nat} (h:i < H.lots.length):((H.lots++[l])[i]?).getD []=Yh H i:=Z7r (λ o:Option (List Nat)=>o.getD []) (List.getElem?_append_left h)
theorem Zmk {l:List Nat}:((H.lots++[l])[H.lots.length]?).getD []=l:=by rw [List.getElem?_append_right (Z6q _),Nat.sub_self]; rfl
theorem Tr.lot (R:Rep σ L H):Tr σ L H ((σ.new (.list [nA H.lots.length])).put (L .lots) (.list (Zmi L H.lots.length++[.ref σ.n]))) (Zga L H.lots.length σ.n) (hLot H):=by
  have hl:L .lots < σ.n:=R.lt .lots trivial
  refine Tr.gen R (.lot H.lots.length) Zf9 (λ f=>Zt8) (λ q=>nomatch q) rfl (λ f=>@Fld.casesOn (λ f=>f≠.lot H.lots.length→act (hLot H) f→act H f) f (λ zz h=>h) (λ zz h=>h) (λ zz h=>h) (λ zz h=>h) (λ zz h=>h) (λ zz h=>h) (λ zz h=>h) (λ zz h=>h) (λ zz h=>h)
    (λ i q h=>Nat.lt_of_le_of_ne (Z65 (show i < H.lots.length+1 by rw [← Zd H.lots [H.lots.length]]; exact h)) λ z=>q (by rw [z])) (λ zz h=>h) (λ zz h=>h) (λ zz h=>h) (λ zz h=>h) (λ zz h=>h) (λ zz zz h=>h) (λ zz h=>h) (λ zz h=>h)) ?_ (λ f q hf' hf=>?_) λ id h1 h2=>(Zw λ z=>h2 .lots trivial z.symm).trans (Y3 h1)
  · refine (Zw (Nat.ne_of_gt hl)).trans ((Yz ..).trans (Z7r some ?_))
    show AObj.list [nA H.lots.length]=AObj.list ((((H.lots++[[H.lots.length]])[H.lots.length]?).getD []).map nA)
    rw [Zmk]; rfl
  · by_cases e:f=.lots
    · rw [e]
      refine (Yk ..).trans (Z7r some ?_)
      show _=AObj.list (Zmi _ (H.lots++[[H.lots.length]]).length)
      rw [Zd,Zsf]
    · refine Z31 (R.lt f hf) (λ z=>e (R.inj f .lots hf trivial z)) ((R.val f hf).trans (Z7r some ?_))
      clear hf'
      revert q hf e
      exact @Fld.casesOn (λ f=>f≠.lot H.lots.length→act H f→f≠.lots→cont L H f=cont (Zga L H.lots.length σ.n) (hLot H) f) f (λ zz zz zz=>rfl) (λ zz zz zz=>rfl) (λ zz zz zz=>rfl) (λ zz zz zz=>rfl) (λ zz zz zz=>rfl) (λ zz zz zz=>rfl) (λ zz zz zz=>rfl) (λ zz zz zz=>rfl) (λ zz zz q=>absurd rfl q)
        (λ i q h zz=>Z7r (λ l=>AObj.list (List.map nA l)) (Zmj h).symm) (λ zz zz zz=>rfl) (λ zz zz zz=>rfl) (λ zz zz zz=>rfl) (λ zz zz zz=>rfl) (λ zz zz zz=>rfl) (λ zz zz zz zz=>rfl) (λ zz zz zz=>rfl) (λ zz zz zz=>rfl)
theorem Zsg {l:List (Nat×List Nat)} {v:List Nat} (h:c∈l.map (·.1)):(l++[(n,v)]).lookup c=l.lookup c:=by
  induction l with
  | nil=>exact nomatch h
  | cons p l ih=>
    rw [List.cons_append]
    by_cases e:p.1=c
    · rw [List.lookup_cons,List.lookup_cons,e,Z7x]
    · rw [Z1 e,Z1 e]; exact ih ((Z7a.mp h).resolve_left λ q=>e q.symm)
theorem Zsh {l:List (Nat×List Nat)} {v:List Nat} (h:n ∉ l.map (·.1)):(l++[(n,v)]).lookup n=some v:=by
  induction l with
  | nil=>exact Qq
  | cons p l ih=>rw [List.cons_append,Z1 λ e:p.1=n=>h (by rw [← e]; exact Z66)]; exact ih λ q=>h (Z67 _ q)
theorem Zpm {l:List (Nat×List Nat)} (h:n ∉ l.map (·.1)):abvD (J4 L n k) l=abvD L l:=List.map_congr_left λ p hp=>by rw [Zel λ e:p.1=n=>h (by rw [← e]; exact Zgm hp)]
theorem Tr.use (R:Rep σ L H) (hn:n ∉ H.abv.map (·.1)):Tr σ L H ((σ.new (.list [])).put (L .hab) (.dict (abvD L H.abv++[(nA n,.ref σ.n)]))) (J4 L n σ.n) (hUse H n):=by
  have hl:L .hab < σ.n:=R.lt .hab trivial
  have hk:∀ c,c∈(hUse H n).abv.map (·.1)↔c∈H.abv.map (·.1)∨c=n:=λ c=>by show c∈(H.abv++[(n,[])]).map (λ p:Nat×List Nat=>p.1)↔_; rw [List.map_append,List.mem_append]; exact or_congr Iff.rfl Z7c
  refine Tr.gen R (.abv n) Zaf (λ f=>Zl2) (λ q=>nomatch q) rfl (λ f=>@Fld.casesOn (λ f=>f≠.abv n→act (hUse H n) f→act H f) f (λ zz h=>h) (λ zz h=>h) (λ zz h=>h) (λ zz h=>h) (λ zz h=>h) (λ zz h=>h) (λ zz h=>h) (λ zz h=>h) (λ zz h=>h)
    (λ zz zz h=>h) (λ zz h=>h) (λ zz h=>h) (λ zz h=>h) (λ zz h=>h) (λ zz h=>h) (λ c q h=>((hk c).mp h).resolve_right λ z=>q (by rw [z])) (λ zz h=>h) (λ zz h=>h)) ?_ (λ f q hf' hf=>?_) λ id h1 h2=>(Zw λ z=>h2 .hab trivial z.symm).trans (Y3 h1)
  · refine (Zw (Nat.ne_of_gt hl)).trans ((Yz ..).trans (Z7r some ?_))
    show AObj.list []=AObj.list ((((H.abv++[(n,[])]).lookup n).getD []).map nA)
    rw [Zsh hn]; rfl
  · by_cases e:f=.hab
    · rw [e]
      refine (Yk ..).trans (Z7r some (Z7r AObj.dict ?_))
      show _=List.map _ (H.abv++[(n,[])])
      rw [List.map_append]
      exact congr (Z7r HAppend.hAppend (Zpm hn).symm) (by show _=[(nA n,AVal.ref (J4 L n σ.n (.abv n)))]; rw [Zaf])
    · refine Z31 (R.lt f hf) (λ z=>e (R.inj f .hab hf trivial z)) ((R.val f hf).trans (Z7r some ?_))
      clear hf'
      revert q hf e
      exact @Fld.casesOn (λ f=>f≠.abv n→act H f→f≠.hab→cont L H f=cont (J4 L n σ.n) (hUse H n) f) f (λ zz zz zz=>rfl) (λ zz zz zz=>rfl) (λ zz zz zz=>rfl) (λ zz zz zz=>rfl) (λ zz zz zz=>rfl) (λ zz zz zz=>rfl) (λ zz zz zz=>rfl) (λ zz zz zz=>rfl) (λ zz zz zz=>rfl)
        (λ zz zz zz zz=>rfl) (λ zz zz zz=>rfl) (λ zz zz zz=>rfl) (λ zz zz zz=>rfl) (λ zz zz zz=>rfl) (λ zz zz q=>absurd rfl q) (λ c q h zz=>Z7r (λ l=>AObj.list (List.map nA l)) (Z7r (λ o:Option (List Nat)=>o.getD []) (Zsg h).symm)) (λ zz zz zz=>rfl) (λ zz zz zz=>rfl)
theorem Zw6 {l l':List (Nat×List Nat)} (h:l.map (·.1)=l'.map (·.1)):abvD L l=abvD L l':=by
  have e:∀ l:List (Nat×List Nat),abvD L l=(l.map (·.1)).map λ c=>(nA c,.ref (L (.abv c))):=λ l=>by rw [List.map_map]; rfl
  rw [e,e,h]
theorem Tr.use1 (R:Rep σ L H) (hc:c∈H.abv.map (·.1)):Tr σ L H (σ.put (L (.abv c)) (.list ((Z2 H c).map nA++[nA n]))) L (Zcu H n c):=
  Tr.put' (H':=Zcu H n c) R (.abv c) hc (λ f=>@Fld.casesOn (λ f=>act (Zcu H n c) f↔act H f) f Iff.rfl Iff.rfl Iff.rfl Iff.rfl Iff.rfl Iff.rfl Iff.rfl Iff.rfl Iff.rfl (λ zz=>Iff.rfl) Iff.rfl Iff.rfl Iff.rfl Iff.rfl Iff.rfl (λ d=>by show d∈(repK ..).map (·.1)↔_; rw [Jf]; exact Iff.rfl) Iff.rfl Iff.rfl)
    (λ f q zz=>@Fld.casesOn (λ f=>f≠.abv c→cont L (Zcu H n c) f=cont L H f) f (λ zz=>rfl) (λ zz=>rfl) (λ zz=>rfl) (λ zz=>rfl) (λ zz=>rfl) (λ zz=>rfl) (λ zz=>rfl) (λ zz=>rfl) (λ zz=>rfl) (λ zz zz=>rfl) (λ zz=>rfl) (λ zz=>rfl) (λ zz=>rfl) (λ zz=>rfl) (λ zz=>Z7r AObj.dict (Zw6 Jf))
      (λ d q=>Z7r (λ o:Option (List Nat)=>AObj.list ((o.getD []).map nA)) (Y6 (λ z=>q (by rw [z])) _)) (λ zz=>rfl) (λ zz=>rfl) q)
    ((Z7r AObj.list (Y0 nA _ n)).trans (Z7r (λ o:Option (List Nat)=>AObj.list ((o.getD []).map nA)) (Zag (b:=Z2 H c++[n]) _ hc).symm))
end
end PL
end
section
open PySem
namespace PL
section
variable {H:HC} {nd:Nd} {n c:Nat}
theorem Zlf {α:Type} {l:List α} {x y:α} {i:Nat} (h:(l++[x])[i]? = some y):l[i]? = some y∨(i=l.length∧y=x):=by
  by_cases hi:i < l.length
  · rw [List.getElem?_append_left hi] at h; exact .inl h
  · have e:i=l.length:=Nat.le_antisymm (Z65 (show i < l.length+1 by rw [← Zd l x]; exact Zfm h)) (Nat.le_of_not_lt hi)
    rw [e,List.getElem?_append_right (Z6q _),Nat.sub_self] at h
    exact .inr ⟨e,(Z7g h).symm⟩
theorem Jq {α:Type} {l:List α} {x y:α}:y∈l++[x]↔y∈l∨y=x:=List.mem_append.trans (or_congr Iff.rfl Z7c)
theorem Ziu {α:Type} {l:List α} {x:α} (h:l.Nodup) (hx:x ∉ l):(l++[x]).Nodup:=List.nodup_append.mpr ⟨h,Z7y.mpr ⟨List.not_mem_nil,List.nodup_nil⟩,λ a ha b hb e=>hx (by rw [← Z7c.mp hb,← e]; exact ha)⟩
theorem Core.key_lt (O:Core H) (h:c∈H.abv.map (·.1)):c < H.nodes.length:=O.lp▸Zfm ((O.roots c).mp h)
theorem Core.add0 (O:Core H) (hn:nd ∉ H.nodes) (hk:nd.2.length≤2) (hkl:∀ k∈nd.2,k < H.nodes.length):Core (Zcv H nd):=by
  have hnot:H.nodes.length ∉ H.abv.map (·.1):=λ h=>Nat.lt_irrefl _ (O.key_lt h)
  have up:∀ {m:Nat},m < H.nodes.length→m < (H.nodes++[nd]).length:=λ h=>by rw [Zd]; exact Nat.lt_succ_of_lt h
  have top:H.nodes.length < (H.nodes++[nd]).length:=by rw [Zd]; exact Z6z _
  exact
    { lw:=by show (H.weights++[_]).length=(H.nodes++[nd]).length; rw [Zd,Zd,O.lw]
      ld:=by show (H.depths++[_]).length=(H.nodes++[nd]).length; rw [Zd,Zd,O.ld]
      lp:=by show (H.par++[_]).length=(H.nodes++[nd]).length; rw [Zd,Zd,O.lp]
      ll:=by show (H.lots++[_]).length=(H.nodes++[nd]).length; rw [Zd,Zd,O.ll]
      down:=λ i p h=>(Zlf h).elim (O.down i p) λ e=>Z62 (e.2.trans e.1.symm)
      kids:=λ i nd' h=>(Zlf h).elim (O.kids i nd') λ e=>by rw [e.1,e.2]; exact ⟨hkl,hk⟩
      nodup:=Ziu O.nodup hn
      roots:=λ c=>by
        show c∈(H.abv++[(H.nodes.length,[])]).map (λ p:Nat×List Nat=>p.1)↔(H.par++[H.par.length])[c]? = some c
        rw [List.map_append,List.map_singleton,Jq]
        constructor
        · rintro (h | h)
          · have:=(O.roots c).mp h
            rw [List.getElem?_append_left (Zfm this)]; exact this
          · rw [h,← O.lp,List.getElem?_append_right (Z6q _),Nat.sub_self]; rfl
        · exact λ h=>(Zlf h).imp (O.roots c).mpr λ e=>e.2.trans O.lp
      abvnd:=by
        show ((H.abv++[(H.nodes.length,[])]).map (λ p:Nat×List Nat=>p.1)).Nodup
        rw [List.map_append]; exact Ziu O.abvnd hnot
      abvlt:=λ p hp n hn'=>(Jq.mp hp).elim (λ h=>up (O.abvlt p h n hn')) λ e=>by rw [e] at hn'; exact nomatch hn'
      waitlt:=λ n h=>up (O.waitlt n h)
      knownlt:=λ p h=>up (O.knownlt p h)
      count:=by show H.merged.length+(H.abv++[_]).length=(H.nodes++[nd]).length; rw [Zd,Zd,← Z60,O.count]
      sum:=by
        show ((H.abv++[(H.nodes.length,[])]).map λ p:Nat×List Nat=>p.2.length).sum≤2*(H.nodes++[nd]).length
        rw [List.map_append,List.sum_append,Zd]
        exact Z6p O.sum (Nat.mul_le_mul_left 2 (Nat.le_succ _))
      lotlt:=λ l h n hn'=>(Jq.mp h).elim (λ h=>up (O.lotlt l h n hn')) λ e=>by rw [e,O.ll] at hn'; rw [Z7c.mp hn']; exact top
      lotsum:=by
        show ((H.abv++[(H.nodes.length,[])]).map λ p:Nat×List Nat=>(Yh (Zcv H nd) p.1).length).sum=(H.nodes++[nd]).length
        rw [List.map_append,List.sum_append,Zd,List.map_congr_left (l:=H.abv) (f:=λ p:Nat×List Nat=>(Yh (Zcv H nd) p.1).length) (g:=λ p:Nat×List Nat=>(Yh H p.1).length) λ p hp=>Z7r List.length (Zmj (O.ll.symm▸O.key_lt (Zgm hp))),O.lotsum]
        show _+((((H.lots++[[H.lots.length]])[H.nodes.length]?).getD []).length+0)=_
        rw [← O.ll,Zmk]; rfl }
noncomputable def sumU (H:HC):Nat:=(H.abv.map λ p=>p.2.length).sum
theorem Core.use1 (O:Core H) (hc:c∈H.abv.map (·.1)) (hn:n < H.nodes.length) (hs:sumU H+1≤2*H.nodes.length):Core (Zcu H n c)∧sumU (Zcu H n c)=sumU H+1:=by
  obtain ⟨v,h1,h2⟩:=Zu8 hc O.abvnd
  have u:Z2 H c=v:=Z7r (λ o:Option (List Nat)=>o.getD []) h2
  have hsum:sumU (Zcu H n c)=sumU H+1:=by
    have:=Zju (F:=λ p:Nat×List Nat=>p.2.length) (F':=λ p:Nat×List Nat=>p.2.length) (b:=Z2 H c++[n]) O.abvnd h1 (λ q zz zz=>rfl)
    rw [Zd,u,Nat.add_comm v.length,← Z60] at this
    have:=Nat.add_right_cancel this
    rw [← u] at this
    exact this
  have hk:((Zcu H n c).abv.map (·.1))=H.abv.map (·.1):=Jf
  exact ⟨{ O with
    roots:=λ d=>by rw [hk]; exact O.roots d
    abvnd:=by rw [hk]; exact O.abvnd
    abvlt:=λ p hp m hm=>by
      obtain ⟨q,hq,rfl⟩:=Z7b.mp hp
      by_cases e:q.1=c
      · rw [if_pos e] at hm
        exact (Jq.mp hm).elim (Zfq O) λ e=>e▸hn
      · rw [if_neg e] at hm; exact O.abvlt q hq m hm
    count:=(Z7r (H.merged.length+·) (Z68 ..)).trans O.count
    sum:=Z6p (Z62 hsum) hs
    lotsum:=by
      have:∀ l:List (Nat×List Nat),(l.map λ p=>(Yh H p.1).length)=(l.map (·.1)).map λ i=>(Yh H i).length:=λ l=>by rw [List.map_map]; rfl
      show ((Zcu H n c).abv.map λ p:Nat×List Nat=>(Yh H p.1).length).sum=_
      rw [this,hk,← this]; exact O.lotsum },hsum⟩
theorem Zsn {cs:List Nat}:Zso n (c::cs) H=Zso n cs (Zcu H n c):=rfl
structure Z5g (H H':HC):Prop where
  core:Core H'
  nodes:H'.nodes=H.nodes
  rows:H'.rows=H.rows
  par:H'.par=H.par
  merged:H'.merged=H.merged
  edges:H'.edges=H.edges
  forest:H'.forest=H.forest
  known:H'.known=H.known
  waiting:H'.waiting=H.waiting
theorem Core.uses:∀ {cs:List Nat} {H:HC},Core H→(∀ c∈cs,c∈H.abv.map (·.1))→n < H.nodes.length→sumU H+cs.length≤2*H.nodes.length→Z5g H (Zso n cs H)
  | [],H,O,_,_,_=>⟨O,rfl,rfl,rfl,rfl,rfl,rfl,rfl,rfl⟩
  | c::cs,H,O,hc,hn,hs=>by
    rw [Z7f,Nat.add_comm cs.length,← Z60] at hs
    obtain ⟨O1,h1⟩:=O.use1 (hc c Z66) hn (Z6p (Z6r _ _) hs)
    rw [Zsn]
    have U:=Core.uses (cs:=cs) O1 (λ d hd=>by show d∈(repK ..).map (·.1); rw [Jf]; exact hc d (Z67 _ hd)) hn (h1.symm▸hs)
    exact ⟨U.core,U.nodes,U.rows,U.par,U.merged,U.edges,U.forest,U.known,U.waiting⟩
noncomputable def Zpq (H:HC) (nd:Nd):List Nat:=setN (nd.2.map (find (Zcv H nd).par))
noncomputable def Zmp (H:HC) (nd:Nd):HC:=Zso H.nodes.length (Zpq H nd) (Zcv H nd)
theorem Zlo (O:Core (Zcv H nd)) (hkl:∀ k∈nd.2,k < H.nodes.length):∀ c∈Zpq H nd,c∈(Zcv H nd).abv.map (·.1):=λ c hc=>by
  obtain ⟨k,hk,rfl⟩:=Z7b.mp (Zp5.mp hc)
  exact O.find_abv (by show k < (H.nodes++[nd]).length; rw [Zd]; exact Nat.lt_succ_of_lt (hkl k hk))
theorem Core.new1 (O:Core H) (hn:nd ∉ H.nodes) (hk:nd.2.length≤2) (hkl:∀ k∈nd.2,k < H.nodes.length):Z5g (Zcv H nd) (Zmp H nd):=by
  have O0:=O.add0 hn hk hkl
  refine O0.uses (Zlo O0 hkl) (by show _ < (H.nodes++[nd]).length; rw [Zd]; exact Z6z _) ?_
  have h1:sumU (Zcv H nd)=sumU H:=by show ((H.abv++[(_,[])]).map λ p:Nat×List Nat=>p.2.length).sum=_; rw [List.map_append,List.sum_append]; rfl
  rw [h1]
  show _≤2*(H.nodes++[nd]).length
  rw [Zd]
  exact Nat.add_le_add O.sum (Z6p Zp6 (by rw [Z68]; exact hk))
end
section
variable {j:Nat} {σ:St} {H:HC} {L:Fld→Nat} {ν:Fm} {n:Nat} {nd:Nd}
theorem Zxp (R:Rep σ L H) (h1:H.par.length≤15000) (h2:H.lots.length≤15000):
    ∃ σ' L',CallR (j+1) "Unions.make" [.ref (L .unions)] σ (nA H.par.length) σ'∧Tr σ L H σ' L' (Z4m H):=by
  have T1:=Tr.up R
  have T2:=Tr.lot T1.rep
  refine ⟨_,_,Zg Zh5 rfl (Zb (Qa (Qt (Zs e_lk R.uobj) (.append R.uab) (es1 ((Yl (es1 (Zs e_lk R.uobj)) (.len (.lst (.ref R.uab)) (Zf (le15 h1)))).eqv (w:=nA H.par.length) (by rw [Z68]))) (.append R.uab (Zf (le15 h1)))))
    (Zb (Qa (Qt (Zs e_lk T1.rep.uobj) (.append T1.rep.lots) (es1 (Zwg (es1 ((Yl (es1 (Zs e_lk T1.rep.uobj)) (.len (.lst (.ref T1.rep.lots)) ?_)).eqv (w:=nA H.lots.length) ?_)))) (.append ((Y3 (T1.rep.lt .lots trivial)).trans T1.rep.lots) ?_)))
    (Z0 ((Qi (Yl (es1 (Zs e_lk T2.rep.uobj)) (.len (.lst (.ref T2.rep.uab)) ?_)) Ze (.subI _ 1)).eqv ?_)))),T1.trans T2⟩
  · exact Zf (List.length_range▸le15 h2)
  · exact Z7r nA ((Z68 ..).trans List.length_range)
  · exact Zf (List.length_range▸le15 h2)
  · exact Zf (by show (H.par++[_]).length≤_; rw [Zd]; exact Z6p (Z6v h1) ble)
  · rw [Z68]
    show AVal.int (((H.par++[H.par.length]).length:Nat)-1)=_
    rw [Zd]; exact Z7r AVal.int (Int.add_sub_cancel (H.par.length:Int) 1)
theorem Zpp:∀ {cs:List Nat} {H:HC} {σ:St} {ν:Fm},Rep σ L H→(∀ c∈cs,c∈H.abv.map (·.1))→(∀ c,(Z2 H c).length+cs.length≤15000)→ν "self"=some (.ref (L .h))→ν "n"=some (nA n)→
    ∃ σ' ν',ForR j none ["c"] [(.exp (.mth (.idx (.att (.loc "self") "above") (.loc "c")) "append" [(.loc "n")]))] ((cs.map nA).map λ x=>[x]) ν σ .next ν' σ'∧Tr σ L H σ' L (Zso n cs H)∧ν' "self"=some (.ref (L .h))∧ν' "n"=some (nA n)
  | [],H,σ,ν,R,_,_,h1,h2=>⟨σ,ν,.nil Zl,Tr.refl R,h1,h2⟩
  | c::cs,H,σ,ν,R,hk,hb,h1,h2=>by
    have hc:=hk c Z66
    have T1:=Tr.use1 (n:=n) R hc
    have hb':∀ d,(Z2 (Zcu H n c) d).length+cs.length≤15000:=λ d=>by
      have hd:=hb d
      rw [Z7f,Nat.add_comm cs.length,← Z60] at hd
      by_cases e:d=c
      · rw [e] at hd ⊢
        rw [show Z2 (Zcu H n c) c=Z2 H c++[n] from Z7r (λ o:Option (List Nat)=>o.getD []) (Zag _ hc),Zd]; exact hd
      · rw [show Z2 (Zcu H n c) d=Z2 H d from Z7r (λ o:Option (List Nat)=>o.getD []) (Y6 e _)]
        exact Z6p (Z6x (Nat.le_succ _) _) hd
    obtain ⟨σ2,ν2,g1,T2,g2,g3⟩:=Zpp (cs:=cs) T1.rep (λ d hd=>by show d∈(repK ..).map (·.1); rw [Jf]; exact hk d (Z67 _ hd)) hb' (ν:=upd ν "c" (nA c)) (Za h1) (Za h2)
    exact ⟨σ2,ν2,.turn Zl rfl (Qk (Qa (Qt (Ys (Zs (Zc (Za h1)) R.hobj) (Zc (Zi ..)) (.dict R.hab Qv (Zar hc))) (.append (R.abv hc)) (es1 (Zc (Za h2))) (.append (R.abv hc) (Zf (le15 (Z6p (Z6r _ _) (hb c)))))))) g1,T1.trans T2,g2,g3⟩
theorem Zpz (R:Rep σ L H) (h:H.par.length≤16000):CallR (j+1) "Unions.size" [.ref (L .unions)] σ (nA H.par.length) σ:=
  Zg Zh4 rfl (Z0 ((Yl (es1 (Zs e_lk R.uobj)) (.len (.lst (.ref R.uab)) (Zf h))).eqv (by rw [Z68])))
theorem Zrz (R:Rep σ L H) (O:Core H) (S:Ye H) {i:Nat} (hi:Qc H nd=some i) (hk:nd.2.length≤2):CallR (j+2) "Heap.add" [.ref (L .h),.str nd.1,.tup (nd.2.map nA)] σ (nA i) σ:=
  Zg Zgw rfl (Zb (Yr (Yb (Zs e_lk R.hobj) R.bobj (es2 e_lk e_lk) (Zn7 R hi hk))) (Ql (Za4 (Zo e_lk (Yb (Zs e_lk R.hobj) R.uobj es0 (Zpz R (O.lp63 S))) ((CmpR.lt i _).eqv (dT (Int.ofNat_lt.mpr (O.lp.symm▸Zfm (Zbx hi)))))) (Zaz e_lk))))
end
end PL
end
section
open PySem
namespace PL
section
variable {j:Nat} {σ:St} {H:HC} {L:Fld→Nat} {ν:Fm} {n:Nat} {nd:Nd}
theorem Zw5 {l:List (Nat×List Nat)} (h:n ∉ l.map (·.1)):kget (abvD L l) (nA n)=none:=by
  induction l with
  | nil=>rfl
  | cons p l ih=>exact (Zdm λ q=>h (by rw [← Ze3 q]; exact Z66)).trans (ih λ q=>h (Z67 _ q))
theorem Zzs {l:List (Nat×List Nat)} {v:AVal} (h:n ∉ l.map (·.1)):kset (abvD L l) (nA n) v=abvD L l++[(nA n,v)]:=by
  rw [kset,if_neg (by rw [Zw5 h]; exact Z7w)]
theorem SixR.eqv {id:Nat} {k v:AVal} {o o':AObj} (h:SixR σ id k v o) (e:o=o'):SixR σ id k v o':=e▸h
structure NewR (j:Nat) (σ:St) (L:Fld→Nat) (H:HC) (nd:Nd) (σ':St) (L':Fld→Nat):Prop where
  call:CallR j "Heap.add" [.ref (L .h),.str nd.1,.tup (nd.2.map nA)] σ (nA H.nodes.length) σ'
  tr:Tr σ L H σ' L' (Zgq (Zmp H nd) H.nodes.length nd)
theorem Z1i (O:Core H) (hi:Qc H nd=none) (hk:nd.2.length≤2) (hkl:∀ k∈nd.2,k < H.nodes.length):(Zmp H nd).nodes[H.nodes.length]? = some nd:=by
  rw [(O.new1 (Yu hi) hk hkl).nodes]
  show (H.nodes++[nd])[H.nodes.length]? = _
  rw [List.getElem?_append_right (Z6q _),Nat.sub_self]; rfl
theorem Zr0 (R:Rep σ L H) (O:Okay H) (S:Ye H) (S1:H.nodes.length≤62) (hop:okOp nd.1) (hq:nd.1.head?≠some 63) (hi:Qc H nd=none) (hk:nd.2.length≤2) (hkl:∀ k∈nd.2,k < H.nodes.length):∃ σ' L',NewR (j+5) σ L H nd σ' L':=by
  have hnm:=Yu hi
  have B:=O.room S
  obtain ⟨σ1,ht,T1⟩:=Zn8 (j:=j+1) R O.toCore S hop hq hi hk hkl
  have n15:H.nodes.length≤15000:=Z6p S1 ble
  have hz:=Zpz (j:=j+3) T1.rep (O.lp63 S)
  obtain ⟨σ2,L2,hm,T2⟩:=Zxp (j:=j+3) T1.rep (O.lp.symm▸n15) (O.ll.symm▸n15)
  have hnot:H.nodes.length ∉ H.abv.map (·.1):=λ h=>Nat.lt_irrefl _ (O.toCore.key_lt h)
  have T3:=Tr.use (n:=H.nodes.length) T2.rep hnot
  rw [Zyz] at T3
  have O3:=O.toCore.add0 hnm hk hkl
  have U:=O.toCore.new1 hnm hk hkl
  have hn3:(Zcv H nd).nodes.length≤63:=by show (H.nodes++[nd]).length≤63; rw [Zd]; exact Z6v S1
  have S3:Ye (Zcv H nd):=⟨hn3,S.r⟩
  have hkl3:∀ k∈nd.2,k < (Zcv H nd).nodes.length:=λ k h=>by show k < (H.nodes++[nd]).length; rw [Zd]; exact Nat.lt_succ_of_lt (hkl k h)
  have hcl:(Zpq H nd).length≤2:=Z6p Zp6 (by rw [Z68]; exact hk)
  have e3:J4 L2 H.nodes.length σ2.n .h=L .h:=T3.top.trans (T2.top.trans T1.top)
  obtain ⟨σ4,ν4,hfor,T4,n4s,n4n⟩:=Zpp (j:=j+4) (n:=H.nodes.length) (cs:=Zpq H nd) (ν:=upd (upd (upd (upd (λ zz=>none) "self" (.ref (L .h))) "op" (.str nd.1)) "numbers" (.tup (nd.2.map nA))) "n" (nA H.nodes.length)) T3.rep (Zlo O3 hkl)
    (λ c=>Z6p (Nat.add_le_add (Zpr O3 S3 c) hcl) ble) (e3.symm▸by kernel_rfl) (by kernel_rfl)
  have S4:Ye (Zmp H nd):=⟨by rw [U.nodes]; exact hn3,by rw [U.rows]; exact S.r⟩
  have B4:Room (Zmp H nd):=⟨by rw [U.edges]; exact B.e,by rw [U.waiting]; exact B.w,by rw [U.forest]; exact B.f⟩
  have K4:(Zmp H nd).known.length≤16000:=by rw [U.known]; exact B.k
  obtain ⟨σ5,L5,hlk,T5⟩:=Zt1 (j:=j) (n:=H.nodes.length) (nd:=nd) T4.rep U.core S4 B4 K4 (Z1i O.toCore hi hk hkl)
  rw [e3] at hlk n4s
  have r2:=T2.rep.hobj
  rw [T2.top.trans T1.top] at r2
  have r3:=T3.rep.hobj
  rw [e3] at r3
  have r4:=T4.rep.hobj
  rw [e3] at r4
  have hL2:L .h < σ2.n:=(T2.top.trans T1.top)▸T2.rep.lt .h trivial
  have hf:LcR (j+4) none ["kid"] [] (.mth (.loc "self") "find" [(.loc "kid")]) (upd (upd (upd (upd (λ zz=>none) "self" (.ref (L .h))) "op" (.str nd.1)) "numbers" (.tup (nd.2.map nA))) "n" (nA H.nodes.length)) ((nd.2.map nA).map λ x=>[x]) [] ((σ2.new (.list [])).put (L2 .hab) (.dict (abvD L2 H.abv++[(nA H.nodes.length,.ref σ2.n)])))
      ([]++nd.2.map λ k=>nA (find (Zcv H nd).par k)) ((σ2.new (.list [])).put (L2 .hab) (.dict (abvD L2 H.abv++[(nA H.nodes.length,.ref σ2.n)]))):=
    Zdj Zl (λ k hk'=>Yb (cl:="Written") e_lk r3 (es1 e_lk) (e3▸Zf4 T3.rep O3 S3 (hkl3 k hk'))) (by rw [List.length_nil,Nat.zero_add]; exact le2 hk)
  refine ⟨σ5,L5,Zg Zgw rfl (Zb (Yr (Yb (Zs e_lk R.hobj) R.bobj (es2 e_lk e_lk) ht)) (Zb (Zn (Zo e_lk (Yb (Zs e_lk T1.rep.hobj) T1.rep.uobj es0 hz) ((CmpR.lt H.nodes.length H.par.length).eqv (dF (by rw [O.lp]; exact Int.lt_irrefl _)))))
    (Zb (Qa (Yb (Zs e_lk T1.rep.hobj) T1.rep.uobj es0 hm))
    (Zb (Zt9 (Zwg es0) (Zs e_lk ((Y3 hL2).trans r2)) e_lk (SixR.eqv (.dict (k:=nA H.nodes.length) ((Y3 (T2.rep.lt .hab trivial)).trans T2.rep.hab) Qv (Zf (l:=H.abv) (Z2m O.toCore S))) (Z7r AObj.dict (Zzs hnot))))
    (Zb (Zhz (es1 (Zjc (ns:=nd.2.map (find (Zcv H nd).par)) (Q3 (es1 e_lk) (.tup (nd.2.map nA)) hf) (by rw [List.map_map]; exact .lst _) (by rw [Z68]; exact Z6p hk ble))) (.lst _) hfor)
    (Zb (Qa (Yb (Zc n4s) r4 (es1 (Zc n4n)) hlk)) (Z0 (Zc n4n)))))))),(((T1.trans T2).trans T3).trans T4).trans T5⟩
end
end PL
end
section
open PySem
namespace PL
section
variable {j:Nat} {σ σ1 σ2 σ':St} {L L':Fld→Nat} {H:HC} {ν ν':Fm} {nd:Nd} {q m:String} {es:List PE} {r:AVal} {id k:Nat} {cl:String} {mm:Fm} {vs:List AVal} {p:PS} {ps:List PS} {n:String}
structure Zll (j:Nat) (ps:List PS) (ν:Fm) (σ:St) (r:AVal) (σ':St):Prop where
  ex:∃ fl ν',BdB j ps ν σ fl ν' σ'∧Zoi fl=r
theorem BodyR.sup (h:BodyR j ps ν σ r σ'):Zll j ps ν σ r σ':=h.ex.elim λ fl h=>h.elim λ μ h=>⟨fl,μ,h.1.bd,h.2⟩
theorem Zfy (h1:ExS j p ν σ .next ν' σ1) (h2:Zll j ps ν' σ1 r σ2):Zll j (p::ps) ν σ r σ2:=h2.ex.elim λ fl h=>h.elim λ μ h=>⟨fl,μ,Z2f h1 h.1,h.2⟩
theorem Z0r {v:AVal} (S:SupR j ν σ q m es v σ' id cl k mm vs σ1) (h2:Zll j ps ν σ' r σ2):Zll j (.exp (.sup q m es)::ps) ν σ r σ2:=h2.ex.elim λ fl h=>h.elim λ μ h=>⟨fl,μ,Z45 S h.1,h.2⟩
theorem Z2x {v:AVal} (S:SupR j ν σ q m es v σ' id cl k mm vs σ1) (h2:Zll j ps (upd ν n v) σ' r σ2):Zll j (.asg n (.sup q m es)::ps) ν σ r σ2:=h2.ex.elim λ fl h=>h.elim λ μ h=>⟨fl,μ,Z46 S h.1,h.2⟩
theorem Z5p (S:SupR j ν σ q m es r σ' id cl k mm vs σ1):Zll j (.ret (.sup q m es)::ps) ν σ r σ':=⟨_,_,Z44 S,rfl⟩
theorem Zji {e:Addr×Fn} (hq:fnOf q=some e) (hb:Z3 e.2.params vs (λ zz=>none)=some ν) (h:Zll j e.2.body ν σ r σ1) (hs:Zfr.contains q=true:=by kernel_rfl):CallR (j+1) q vs σ r σ1:=h.ex.elim λ fl h=>h.elim λ μ h=>h.2▸Zzl hs hq hb h.1
end
end PL
end
section
open PySem
namespace PL
noncomputable def Qm (H:HC) (nd:Nd):HC:=Zgq (Zmp H nd) H.nodes.length nd
noncomputable def hRow (H:HC) (r:Row):HC:=⟨H.nodes,H.weights,H.depths,H.par,H.lots,H.merged,H.edges,H.forest,H.known,H.abv,H.waiting,H.rows++[r]⟩
noncomputable def Qx (H:HC):HC:=Zkn (if H.waiting=[] then H else hRow H .settle)
noncomputable def Qs (H:HC) (a b:Nat) (r:Reason):HC:=
  if find H.par a=find H.par b then Zo1 (hRow H (.same a b r)) a b (Zt r)
  else Zmr (hRow H (.same a b r)) a b (Zt r) (max (find H.par a) (find H.par b)) (min (find H.par a) (find H.par b))
noncomputable def addI (H:HC) (nd:Nd):Nat:=(Qc H nd).getD H.nodes.length
noncomputable def addH (H:HC) (nd:Nd):HC:=@Option.casesOn _ (λ zz=>HC) (Qc H nd) (hRow (Qm H nd) (.add nd.1 nd.2)) λ zz=>H
structure okNd (H:HC) (nd:Nd):Prop where
  op:okOp nd.1
  q:nd.1.head?≠some 63
  two:nd.2.length≤2
  lt:∀ k∈nd.2,k < H.nodes.length
structure Z1c (many:Nat) (p:CS×Nat):Prop where
  op:okOp p.1
  q:p.1.head? = some 63
  lt:p.2 < many
noncomputable def Reason.word (r:Reason):CS:=@Reason.casesOn (λ zz=>CS) r (λ w=>w) λ w zz=>w
noncomputable def Reason.ps (r:Reason):List (CS×Nat):=@Reason.casesOn (λ zz=>List (CS×Nat)) r (λ zz=>[]) λ zz ps=>ps
structure Zat (many:Nat) (r:Reason):Prop where
  word:okOp r.word
  len:r.ps.length≤100
  places:∀ p∈r.ps,Z1c many p
section
variable {H:HC} {nd:Nd}
structure Z5o (H:HC) (nd:Nd):Prop where
  ok:Okay (Qm H nd)
  nodes:(Qm H nd).nodes=H.nodes++[nd]
  rows:(Qm H nd).rows=H.rows
theorem Zxb {k w n m:Nat} (h:k+w≤n+2*m*n):k+w+1≤(n+1)+2*m*(n+1):=by
  rw [Nat.mul_add]; lia
theorem Okay.added (O:Okay H) (hn:nd ∉ H.nodes) (hk:nd.2.length≤2) (hkl:∀ k∈nd.2,k < H.nodes.length):Z5o H nd:=by
  have U:=O.toCore.new1 hn hk hkl
  have K:=U.core.look (n:=H.nodes.length) (nd:=nd) (by rw [U.nodes]; show _ < (H.nodes++[nd]).length; rw [Zd]; exact Z6z _)
    (by rw [U.known,U.waiting,U.nodes,U.merged]; show H.known.length+H.waiting.length+1≤(H.nodes++[nd]).length+2*H.merged.length*(H.nodes++[nd]).length; rw [Zd]; exact Zxb O.wait)
    (by rw [U.edges,U.rows,U.merged]; exact O.edges) (by rw [U.forest,U.merged]; exact O.forest)
  exact ⟨K.ok,K.nodes.trans U.nodes,K.rows.trans U.rows⟩
theorem Okay.row (O:Okay H) (r:Row):Okay (hRow H r):=⟨⟨O.lw,O.ld,O.lp,O.ll,O.down,O.kids,O.nodup,O.roots,O.abvnd,O.abvlt,O.waitlt,O.knownlt,O.count,O.sum,O.lotlt,O.lotsum⟩,O.wait,Z6p O.edges (Z6x (by show _≤(H.rows++[r]).length; rw [Zd]; exact Nat.le_succ _) _),O.forest⟩
theorem Okay.settleW (O:Okay H):Zhv (if H.waiting=[] then H else hRow H .settle) (Qx H):=by
  unfold Qx
  by_cases h:H.waiting=[]
  · rw [if_pos h]; exact O.settle
  · rw [if_neg h]; exact (O.row .settle).settle
structure Z2s (H H':HC) (r:Row):Prop where
  ok:Okay H'
  nodes:H'.nodes=H.nodes
  rows:H'.rows=H.rows++[r]
theorem Okay.merge (O:Okay H) {a b:Nat} (ha:a < H.nodes.length) (hb:b < H.nodes.length) (r:Reason):Z2s H (Qs H a b r) (.same a b r):=by
  unfold Qs
  have Or:=O.row (.same a b r)
  by_cases h:find H.par a=find H.par b
  · rw [if_pos h]
    exact ⟨⟨Or.toCore.edge a b _,O.wait,by
      show (H.edges++[_]).length≤(H.rows++[_]).length+H.merged.length
      rw [Zd,Zd,Nat.add_right_comm]; exact Z6v O.edges,O.forest⟩,rfl,rfl⟩
  · rw [if_neg h]
    obtain ⟨hk,hg,hlt⟩:=O.toCore.minmax ha hb rfl rfl h
    generalize max (find H.par a) (find H.par b)=g at*
    generalize min (find H.par a) (find H.par b)=k at*
    refine ⟨⟨Or.toCore.join (a:=a) (b:=b) (r:=Zt r) hg hk hlt,?_,?_,?_⟩,rfl,rfl⟩
    · show H.known.length+(H.waiting++Z2 H g).length≤H.nodes.length+2*(H.merged++[(k,g)]).length*H.nodes.length
      rw [Zd,Z69,← Z60,Nat.mul_add,Nat.add_mul,← Z60]
      exact Nat.add_le_add O.wait (O.toCore.use_le g)
    · show (H.edges++[_]).length≤(H.rows++[_]).length+(H.merged++[(k,g)]).length
      rw [Zd,Zd,Zd]; exact Z6v (Z6p O.edges (Z6x (Nat.le_succ _) _))
    · show (H.forest++[_]).length=(H.merged++[(k,g)]).length
      rw [Zd,Zd,O.forest]
structure AddR (H H':HC) (i:Nat):Prop where
  ok:Okay H'
  lt:i < H'.nodes.length
  ge:H.nodes.length≤H'.nodes.length
  nodes:H'.nodes.length≤H.nodes.length+1
  rows:H'.rows.length≤H.rows.length+1
theorem Okay.addH (O:Okay H) (h:okNd H nd):AddR H (PL.addH H nd) (addI H nd):=by
  unfold PL.addH addI
  cases e:Qc H nd with
  | some i=>exact ⟨O,Zfm (Zbx e),Z6q _,Nat.le_succ _,Nat.le_succ _⟩
  | none=>
    have A:=O.added (Yu e) h.two h.lt
    have en:(Qm H nd).nodes.length=H.nodes.length+1:=by rw [A.nodes,Zd]
    refine ⟨A.ok.row _,?_,?_,Z62 en,?_⟩
    · show H.nodes.length < (Qm H nd).nodes.length; rw [en]; exact Z6z _
    · show H.nodes.length≤(Qm H nd).nodes.length; rw [en]; exact Nat.le_succ _
    · show ((Qm H nd).rows++[_]).length≤_; rw [A.rows,Zd]; exact Z6q _
end
section
variable {j:Nat} {σ σ':St} {L:Fld→Nat} {H:HC} {nd:Nd}
theorem Tr.row (R:Rep σ L H) (r:Row):Tr σ L H (σ.put (L .rows) (.list (H.rows.map rowA++[rowA r]))) L (hRow H r):=
  Tr.put' (H':=hRow H r) R .rows trivial (λ zz=>Iff.rfl) (λ fd hg zz=>@Fld.casesOn (λ fd=>fd≠.rows→cont L (hRow H r) fd=cont L H fd) fd (λ zz=>rfl) (λ zz=>rfl) (λ zz=>rfl) (λ zz=>rfl) (λ zz=>rfl) (λ zz=>rfl) (λ zz=>rfl) (λ zz=>rfl) (λ zz=>rfl) (λ zz zz=>rfl) (λ zz=>rfl) (λ zz=>rfl) (λ zz=>rfl) (λ zz=>rfl) (λ zz=>rfl) (λ zz zz=>rfl) (λ zz=>rfl) (λ q=>absurd rfl q) hg) (Z7r AObj.list (Y0 rowA _ r))
theorem Ztv (R:Rep σ L H) (O:Okay H) (S1:H.nodes.length≤62) (S2:H.rows.length≤190) (h:okNd H nd):
    ∃ σ' L',CallR (j+6) "Written.add" [.ref (L .h),.str nd.1,.tup (nd.2.map nA)] σ (nA (addI H nd)) σ'∧Tr σ L H σ' L' (addH H nd):=by
  have S:Ye H:=⟨Nat.le_succ_of_le S1,Z6p S2 ble⟩
  have hz:=Zj0 (j:=j+3) R S
  unfold addH addI
  cases e:Qc H nd with
  | some i=>
    have ha:=Zrz (j:=j+3) R O.toCore S e h.two
    exact ⟨σ,L,Zji Zch rfl (Zfy (Yr (Yb (cl:="Written") e_lk R.hobj es0 hz)) (Z2x ⟨by kernel_rfl,R.hobj,by kernel_rfl,es2 e_lk e_lk,ha⟩ (BodyR.sup (Zb (Zn (Zo (Yb (cl:="Written") e_lk R.hobj es0 hz) e_lk ((CmpR.gt H.nodes.length H.nodes.length).eqv (dF (Int.lt_irrefl _))))) (Z0 e_lk))))),Tr.refl R⟩
  | none=>
    obtain ⟨σ1,L1,N⟩:=Zr0 (j:=j) R O S S1 h.op h.q e h.two h.lt
    have A:=O.added (Yu e) h.two h.lt
    have T1:Tr σ L H σ1 L1 (Qm H nd):=N.tr
    have S':Ye (Qm H nd):=⟨by rw [A.nodes,Zd]; exact Z6v S1,by rw [A.rows]; exact S.r⟩
    have hz1:=Zj0 (j:=j+3) T1.rep S'
    have T2:=Tr.row T1.rep (.add nd.1 nd.2)
    have r1:=T1.rep.hobj
    rw [T1.top] at r1 hz1
    exact ⟨_,L1,Zji Zch rfl (Zfy (Yr (Yb (cl:="Written") e_lk R.hobj es0 hz)) (Z2x ⟨by kernel_rfl,R.hobj,by kernel_rfl,es2 e_lk e_lk,N.call⟩ (BodyR.sup (Zb (Zau (Zo (Yb (cl:="Written") e_lk r1 es0 hz1) e_lk ((CmpR.gt (Qm H nd).nodes.length H.nodes.length).eqv (dT (by rw [A.nodes,Zd]; exact Int.ofNat_lt.mpr (Z6z _)))))
      (Qk (Qa (Qt (Zs e_lk r1) (.append T1.rep.rows) (es1 (Yq (es3 Ze e_lk (Yl (es1 e_lk) (.tuple (.tup _) (Zf (le2 h.two))))))) (.append T1.rep.rows (Zf (Z6p S'.r ble))))))) (Z0 e_lk))))),T1.trans T2⟩
theorem Zej (R:Rep σ L H) (O:Okay H) (S:Ye H):CallR (j+1) "Heap.is_settled" [.ref (L .h)] σ (.bool (decide (H.waiting=[]))) σ:=
  Zg Zdp rfl (Z0 (Zo (Zpb R (O.room S) (by kernel_rfl)) Ze ((CmpR.eq (.int 0 (H.waiting.length:Nat) 0) ble).eqv (Zbs ⟨λ q=>List.length_eq_zero_iff.mp (Ze3 (b:=0) q),λ q=>by rw [q]; rfl⟩))))
theorem Zik (R:Rep σ L H) (O:Okay H) (S:Ye H) (S2:H.rows.length≤190):∃ σ' L',CallR (j+6) "Written.settle" [.ref (L .h)] σ .none σ'∧Tr σ L H σ' L' (Qx H):=by
  have hz:=Zej (j:=j+4) R O S
  unfold Qx
  by_cases h:H.waiting=[]
  · rw [dT h] at hz
    rw [if_pos h]
    obtain ⟨σ1,L1,h1,T1⟩:=Zl0 (j:=j) R O S
    exact ⟨σ1,L1,Zji J8 rfl (Zfy (Zn (Zhk (p:=true) (Yb (cl:="Written") e_lk R.hobj es0 hz))) (Z0r ⟨by kernel_rfl,R.hobj,by kernel_rfl,es0,h1⟩ (BodyR.sup Za0))),T1⟩
  · rw [dF h] at hz
    rw [if_neg h]
    have T0:=Tr.row R .settle
    have S0:Ye (hRow H .settle):=⟨S.n,by show (H.rows++[_]).length≤_; rw [Zd]; exact Z6p (Z6v S2) ble⟩
    obtain ⟨σ1,L1,h1,T1⟩:=Zl0 (j:=j) T0.rep (O.row .settle) S0
    exact ⟨σ1,L1,Zji J8 rfl (Zfy (Zau (Zhk (p:=false) (Yb (cl:="Written") e_lk R.hobj es0 hz)) (Qk (Qa (Qt (Zs e_lk R.hobj) (.append R.rows) (es1 (Yq (es1 Ze))) (.append R.rows (Zf (Z6p S.r ble))))))) (Z0r ⟨by kernel_rfl,T0.rep.hobj,by kernel_rfl,es0,h1⟩ (BodyR.sup Za0))),T0.trans T1⟩
end
end PL
end
section
open PySem
namespace PL
section
variable {j:Nat} {σ σ' σ1:St} {L L1:Fld→Nat} {H H1:HC} {ν:Fm}
theorem Zxs {v:CS} (h:okOp v) (hq:v.head? = some 63):CallR (j+1) "is_variable" [.tup [.str v]] σ (.bool true) σ:=by
  cases v with
  | nil=>exact nomatch hq
  | cons c r=>
    have hc:c=63:=Z7g hq
    rw [hc] at h ⊢
    exact Zg Zh3 rfl (Z0 (Jw ((Zo (Yl (es1 e_lk) (.len (.tup [.str (63::r)]) ble)) Ze (.eq (.int 0 1 1) ble)).eqv (Z7r AVal.bool (dT rfl))) ((Zo (Zbp (Ys e_lk Ze (.tup (k:=0) (xs:=[.str (63::r)]) rfl ble)) Qb Qb Qb (.str (i:=1) (Z6v (Z63 _)) (Z6p h.len ble))) Ze (.eq (.str 0 _ _) ble)).eqv (Z7r AVal.bool (dT rfl)))))
theorem Zmw {b:List PS} {x y:String} {α:Type} {p q:α→AVal} {P:Fm→Prop} (hu:∀ ν v w,P ν→P (upd (upd ν x v) y w)):∀ {l:List α} {ν:Fm},(∀ u∈l,∀ ν,P ν→ExB j b (upd (upd ν x (p u)) y (q u)) σ .next (upd (upd ν x (p u)) y (q u)) σ)→P ν→∃ ν',ForR j none [x,y] b (l.map λ u=>[p u,q u]) ν σ .next ν' σ∧P ν'
  | [],ν,_,hP=>⟨ν,.nil Zl,hP⟩
  | u::l,ν,h,hP=>
    have ⟨ν',q1,q2⟩:=Zmw hu (λ w hw=>h w (Z67 _ hw)) (hu ν (p u) (q u) hP)
    ⟨ν',.turn Zl rfl (h u Z66 ν hP) q1,q2⟩
theorem Jp (ps:List (CS×Nat)):SrcR σ 1 [.tup (ps.map Qy)] (ps.map λ p=>[.str p.1,nA p.2]) none:=by
  have:(ps.map Qy).map (Yo true)=ps.map λ p=>[.str p.1,nA p.2]:=by rw [List.map_map]; rfl
  exact this▸.tup2 λ x hx=>(Z7b.mp hx).elim λ p q=>q.2▸rfl
theorem Zxu {many:Nat} {r:Reason} (h:Zat many r):CallR (j+2) "check_reason" [Zt r,nA many] σ .none σ:=by
  have hw:=Zoa (j:=j) (σ:=σ) h.word
  cases r with
  | told w=>
    exact Zg Zbc rfl (Zb (Zn (Zhk (p:=true) (e_fn (es1 (Ys e_lk Ze (.tup (k:=1) (xs:=[.str [116,111,108,100],.str w]) rfl ble))) hw))) (Zb (Zhz (es1 (Zd5 ((Zo (Ys e_lk Ze (.tup (k:=0) (xs:=[.str [116,111,108,100],.str w]) rfl ble)) Ze (.eq (.str 0 _ _) ble)).eqv (by rw [dF (λ q=>nomatch q)])) (Yq es0))) (Jp []) (.nil Zl)) Za0))
  | rule w ps=>
    obtain ⟨ν1,hfor,zz⟩:=Zmw (j:=j+1) (σ:=σ) (b:=[(.ifs (.or3 (.not (.fn "is_variable" [(.tup [(.loc "name")])])) (.not (.fn "is_op" [(.loc "name")])) (.not (.cmp2 (.cst (.int 0)) .LtE (.loc "n") .Lt (.loc "many")))) [.any] [])]) (x:="name") (y:="n") (p:=λ p:CS×Nat=>.str p.1) (q:=λ p=>nA p.2) (l:=ps)
      (P:=λ ν=>ν "many"=some (nA many)) (λ ν v w h=>Za (Za h)) (λ p hp ν hm=>Qk (Zn (Zhj (Zhk (p:=true) (e_fn (es1 (Yq (es1 (Zc (Za (Zi ..)))))) (Zxs (h.places p hp).op (h.places p hp).q))) (Zhk (p:=true) (e_fn (es1 (Zc (Za (Zi ..)))) (Zoa (h.places p hp).op)))
        (Zhk (p:=true) (Zk9 Ze (Zc (Zi ..)) ((CmpR.le 0 p.2).eqv (dT (Int.natCast_nonneg p.2))) (Zc (Za (Za hm))) ((CmpR.lt p.2 many).eqv (dT (Int.ofNat_lt.mpr (h.places p hp).lt)))))))) (ν:=upd (upd (λ zz=>none) "reason" (Zt (.rule w ps))) "many" (nA many)) (by kernel_rfl)
    exact Zg Zbc rfl (Zb (Zn (Zhk (p:=true) (e_fn (es1 (Ys e_lk Ze (.tup (k:=1) (xs:=[.str [114,117,108,101],.str w,.tup (ps.map Qy)]) rfl ble))) hw))) (Zb (Zhz (es1 (Zd4 ((Zo (Ys e_lk Ze (.tup (k:=0) (xs:=[.str [114,117,108,101],.str w,.tup (ps.map Qy)]) rfl ble)) Ze (.eq (.str 0 _ _) ble)).eqv (Z7r AVal.bool (dT rfl)))
      (Ys e_lk Ze (.tup (k:=2) (xs:=[.str [114,117,108,101],.str w,.tup (ps.map Qy)]) rfl ble)))) (Jp ps) hfor) Za0))
theorem Zf3 (R:Rep σ L H) (O:Okay H) (S:Ye H) (S2:H.rows.length≤190) {a b:Nat} {r:Reason} (hr:Zat H.nodes.length r) (ha:a < H.nodes.length) (hb:b < H.nodes.length):
    ∃ σ' L',CallR (j+6) "Written.merge" [.ref (L .h),nA a,nA b,Zt r] σ (.bool (!decide (find H.par a=find H.par b))) σ'∧Tr σ L H σ' L' (Qs H a b r):=by
  have hz:=Zj0 (j:=j+3) R S
  have T1:=Tr.row R (.same a b r)
  have Or:=O.row (.same a b r)
  have S0:Ye (hRow H (.same a b r)):=⟨S.n,by show (H.rows++[_]).length≤_; rw [Zd]; exact Z6p (Z6v S2) ble⟩
  have hjoin:∃ σ2 L2,CallR (j+4) "Heap.join" [.ref (L .h),nA a,nA b,Zt r] (σ.put (L .rows) (.list (H.rows.map rowA++[rowA (.same a b r)]))) (.bool (!decide (find H.par a=find H.par b))) σ2∧Tr (σ.put (L .rows) (.list (H.rows.map rowA++[rowA (.same a b r)]))) L (hRow H (.same a b r)) σ2 L2 (Qs H a b r):=by
    unfold Qs
    by_cases he:find H.par a=find H.par b
    · rw [if_pos he,nT he]
      obtain ⟨σ2,h2,T2⟩:=Zrx (j:=j+1) (r:=Zt r) T1.rep Or.toCore S0 (Or.room S0).toRoom (a:=a) (b:=b) ha hb rfl he.symm
      exact ⟨σ2,L,h2,T2⟩
    · rw [if_neg he,nF he]
      obtain ⟨σ2,L2,h2,T2⟩:=Zt2 (j:=j+1) (r:=Zt r) T1.rep Or.toCore S0 (Or.room S0).toRoom (a:=a) (b:=b) ha hb rfl rfl he
      exact ⟨σ2,L2,h2,T2⟩
  obtain ⟨σ2,L2,hj,T2⟩:=hjoin
  have hmm:CallR (j+5) "Heap.merge" [.ref (L .h),nA a,nA b,Zt r] (σ.put (L .rows) (.list (H.rows.map rowA++[rowA (.same a b r)]))) (.bool (!decide (find H.par a=find H.par b))) σ2:=Zg Zk0 rfl (Z0 (Yb (cl:="Written") e_lk T1.rep.hobj (es3 e_lk e_lk e_lk) hj))
  have inb:∀ {x:String} {k:Nat} {ν:Fm},ν "self"=some (.ref (L .h))→ν x=some (nA k)→k < H.nodes.length→EvE (j+5) (.not (.cmp2 (.cst (.int 0)) .LtE (.loc x) .Lt (.mth (.loc "self") "size" []))) ν σ (.bool false) σ:=λ {x k ν} hs hx hk=>Zhk (p:=true) (Zk9 Ze (Zc hx) ((CmpR.le 0 k).eqv (dT (Int.natCast_nonneg k))) (Yb (Zc hs) R.hobj es0 hz) ((CmpR.lt k H.nodes.length).eqv (dT (Int.ofNat_lt.mpr hk))))
  exact ⟨σ2,L2,Zji Zfo rfl (Zfy (Qa (e_fn (es2 e_lk (Yb (cl:="Written") e_lk R.hobj es0 hz)) (Zxu hr))) (Zfy (Zn (J0 (inb (by kernel_rfl) (by kernel_rfl) ha) (inb (by kernel_rfl) (by kernel_rfl) hb)))
    (Zfy (Qa (Qt (Zs e_lk R.hobj) (.append R.rows) (es1 (Yq (.cons Ze (es3 e_lk e_lk e_lk)))) (.append R.rows (Zf (Z6p S.r ble))))) (Z5p ⟨by kernel_rfl,T1.rep.hobj,by kernel_rfl,es3 e_lk e_lk e_lk,hmm⟩)))),T1.trans T2⟩
end
end PL
end
section
open PySem
namespace PL
inductive Tm where
  | leaf (op:CS) | one (op:CS) (t:Tm) | two (op:CS) (t u:Tm)
noncomputable def tmA (t:Tm):AVal:=@Tm.rec (λ zz=>AVal) (λ op=>.tup [.str op]) (λ op zz a=>.tup [.str op,a]) (λ op zz zz a b=>.tup [.str op,a,b]) t
noncomputable def Ym (t:Tm):Nat:=@Tm.rec (λ zz=>Nat) (λ zz=>1) (λ zz zz a=>a+1) (λ zz zz zz a b=>a+b+1) t
structure Zgg (w:CS):Prop where
  op:okOp w
  q:w.head?≠some 63
def tmOK (t:Tm):Prop:=@Tm.rec (λ zz=>Prop) (λ op=>Zgg op) (λ op zz a=>Zgg op∧a) (λ op zz zz a b=>Zgg op∧a∧b) t
structure Put where
  i:Nat
  h:HC
noncomputable def addP (H:HC) (nd:Nd):Put:=⟨addI H nd,addH H nd⟩
noncomputable def putP (t:Tm):HC→Put:=@Tm.rec (λ zz=>HC→Put) (λ op H=>addP H (op,[])) (λ op zz a H=>addP (a H).h (op,[(a H).i])) (λ op zz zz a b H=>addP (b (a H).h).h (op,[(a H).i,(b (a H).h).i])) t
structure PutR (H:HC) (n:Nat) (p:Put):Prop where
  ok:Okay p.h
  lt:p.i < p.h.nodes.length
  ge:H.nodes.length≤p.h.nodes.length
  nodes:p.h.nodes.length≤H.nodes.length+n
  rows:p.h.rows.length≤H.rows.length+n
section
variable {H H1:HC} {nd:Nd} {n m:Nat}
theorem okNd.of {op:CS} {ks:List Nat} (h:Zgg op) (h2:ks.length≤2) (hk:∀ k∈ks,k < H.nodes.length):okNd H (op,ks):=⟨h.op,h.q,h2,hk⟩
theorem PutR.add (O:Okay H1) (h:okNd H1 nd) (g:H.nodes.length≤H1.nodes.length) (hn:H1.nodes.length≤H.nodes.length+n) (hr:H1.rows.length≤H.rows.length+n):PutR H (n+1) (addP H1 nd):=
  have A:=O.addH h
  ⟨A.ok,A.lt,Z6p g A.ge,Z6p A.nodes (Z6v hn),Z6p A.rows (Z6v hr)⟩
theorem Zl9 {a k:Nat} (h:a < n) (hk:k∈[a]):k < n:=Z7c.mp hk▸h
theorem Zpt {a b k:Nat} (h:a < n) (h2:b < n) (hk:k∈[a,b]):k < n:=(Z7a.mp hk).elim (λ e=>e▸h) (Zl9 h2)
theorem Qn (t:Tm):∀ {H:HC},Okay H→tmOK t→PutR H (Ym t) (putP t H):=by
  induction t with
  | leaf op=>exact λ {H} O h=>.add O (.of h (Z63 _) λ k hk=>nomatch hk) (Z6q _) (Z6q _) (Z6q _)
  | one op t ih=>
    intro H O h
    have A:=ih O h.2
    exact .add A.ok (.of h.1 ble λ k=>Zl9 A.lt) A.ge A.nodes A.rows
  | two op t u ih ih2=>
    intro H O h
    have A:=ih O h.2.1
    have B:=ih2 A.ok h.2.2
    exact .add B.ok (.of h.1 ble λ k=>Zpt (Z6t A.lt B.ge) B.lt) (Z6p A.ge B.ge) (Z6p B.nodes (Z60 ..▸Z6x A.nodes _)) (Z6p B.rows (Z60 ..▸Z6x A.rows _))
end
section
variable {j:Nat} {σ σ1:St} {L L1:Fld→Nat} {H H1:HC} {op:CS} {tv:List AVal} {ks:List Nat}
def Z6l (j:Nat) (L:Fld→Nat) (tv:List AVal) (σ:St) (ks:List Nat) (σ1:St):Prop:=∀ ν:Fm,ν "self"=some (.ref (L .h))→LcR j none ["part"] [] (.mth (.loc "self") "put" [(.loc "part")]) ν (tv.map λ x=>[x]) [] σ (ks.map nA) σ1
theorem Z14 {ν:Fm} {x:AVal} {k:Nat} (R:Rep σ L H) (hν:ν "self"=some (.ref (L .h))) (h:CallR j "Heap.put" [.ref (L .h),x] σ (nA k) σ1):EvE j (.mth (.loc "self") "put" [(.loc "part")]) (upd (hide ν) "part" x) σ (nA k) σ1:=Yb (Zc (Za (Jz hν))) R.hobj (es1 (Zc (Zi ..))) h
theorem Zj8 (R:Rep σ L H) (hc:Z6l (j+6) L tv σ ks σ1) (hl:tv.length≤2) (T1:Tr σ L H σ1 L1 H1) (O1:Okay H1) (hnd:okNd H1 (op,ks)) (h1:H1.nodes.length≤62) (h2:H1.rows.length≤190):
    ∃ σ' L',CallR (j+7) "Heap.put" [.ref (L .h),.tup (.str op::tv)] σ (nA (addP H1 (op,ks)).i) σ'∧Tr σ L H σ' L' (addP H1 (op,ks)).h:=by
  obtain ⟨σ2,L2,ha,T2⟩:=Ztv (j:=j) T1.rep O1 h1 h2 hnd
  rw [T1.top] at ha
  have l16:(AVal.str op::tv).length≤16000:=Z6p (Z6v hl) ble
  exact ⟨σ2,L2,Zg Zo4 rfl (Z0 (Yb (cl:="Written") e_lk R.hobj (es2 (Ys e_lk Ze (.tup (k:=0) (xs:=.str op::tv) rfl l16)) (Yl (es1 (Q3 (es1 (Zbp e_lk Qb Qb Qb (.tup (i:=1) (xs:=.str op::tv) (Z6q 1) (Z6v (Z63 _)) l16))) (.tup tv) (hc _ (by kernel_rfl)))) (.tuple (.lst (.lst _)) (Zf (Z6p hnd.two ble))))) ha)),T1.trans T2⟩
structure Z2o (H:HC) (n k:Nat):Prop where
  nodes:H.nodes.length+n≤62
  rows:H.rows.length+n≤190
  deep:6+n≤k
theorem Z28 (t:Tm):∀ {n:Nat} {H:HC} {σ:St} {L:Fld→Nat},Z2o H (Ym t) n→Rep σ L H→Okay H→tmOK t→∃ σ' L',CallR n "Heap.put" [.ref (L .h),tmA t] σ (nA (putP t H).i) σ'∧Tr σ L H σ' L' (putP t H).h:=by
  induction t with
  | leaf op=>
    intro n H σ L M R O h
    obtain ⟨j,rfl⟩:=Nat.exists_eq_add_of_le' (show 7≤n from M.deep)
    exact Zj8 (j:=j) R (λ ν hν=>.nil Zl) (Z63 _) (Tr.refl R) O (.of h (Z63 _) λ k hk=>nomatch hk) (Z61 M.nodes) (Z61 M.rows)
  | one op t ih=>
    intro n H σ L M R O h
    have hd:6+Ym t+1≤n:=M.deep
    obtain ⟨j,rfl⟩:=Nat.exists_eq_add_of_le' (Z6p (show 7≤6+Ym t+1 from Z6v (Z6r 6 _)) hd)
    have A:=Qn t O h.2
    obtain ⟨σ1,L1,c1,T1⟩:=ih (n:=j+6) ⟨Z61 M.nodes,Z61 M.rows,Nat.le_of_succ_le_succ hd⟩ R O h.2
    exact Zj8 (j:=j) R (λ ν hν=>.keep Zl rfl (.nil _) (Z14 R hν c1) ble (.nil Zl)) (ks:=[_]) ble T1 A.ok (.of h.1 ble λ k=>Zl9 A.lt) (Z6p A.nodes (Z61 M.nodes)) (Z6p A.rows (Z61 M.rows))
  | two op t u ih ih2=>
    intro n H σ L M R O h
    have hd:6+(Ym t+Ym u)+1≤n:=M.deep
    obtain ⟨j,rfl⟩:=Nat.exists_eq_add_of_le' (Z6p (show 7≤6+(Ym t+Ym u)+1 from Z6v (Z6r 6 _)) hd)
    have hd:=Nat.le_of_succ_le_succ hd
    have hn:H.nodes.length+(Ym t+Ym u)≤62:=Z61 M.nodes
    have hr:H.rows.length+(Ym t+Ym u)≤190:=Z61 M.rows
    have A:=Qn t O h.2.1
    have B:=Qn u A.ok h.2.2
    obtain ⟨σ1,L1,c1,T1⟩:=ih (n:=j+6) ⟨Z6p (Z6w (Z6r _ _) _) hn,Z6p (Z6w (Z6r _ _) _) hr,Z6p (Z6w (Z6r _ _) _) hd⟩ R O h.2.1
    obtain ⟨σ2,L2,c2,T2⟩:=ih2 (n:=j+6) (H:=(putP t H).h) ⟨Z6p (Z6x A.nodes _) (Z60 ..▸hn),Z6p (Z6x A.rows _) (Z60 ..▸hr),Z6p (Z6w (Z6s _ _) _) hd⟩ T1.rep A.ok h.2.2
    exact Zj8 (j:=j) R (λ ν hν=>.keep Zl rfl (.nil _) (Z14 R hν c1) ble (.keep Zl rfl (.nil _) (Z14 T1.rep (T1.top.symm▸hν) c2) ble (.nil Zl))) (ks:=[_,_]) ble (T1.trans T2) B.ok (.of h.1 ble λ k=>Zpt (Z6t A.lt B.ge) B.lt)
      (Z6p (Z6p B.nodes (Z60 ..▸Z6x A.nodes _)) hn) (Z6p (Z6p B.rows (Z60 ..▸Z6x A.rows _)) hr)
end
end PL
end
section
open PySem
namespace PL
noncomputable def doH (H:HC) (r:Row):HC:=@Row.casesOn (λ zz=>HC) r (λ op ks=>addH H (op,ks)) (λ a b r=>Qs H a b r) (Qx H)
noncomputable def Y4:HC:=⟨[],[],[],[],[],[],[],[],[],[],[],[]⟩
theorem Zo0:Okay Y4:=
  ⟨⟨rfl,rfl,rfl,rfl,λ i p h=>(nomatch h),λ i nd h=>(nomatch h),List.nodup_nil,λ c=>⟨λ h=>(nomatch h),λ h=>(nomatch h)⟩,List.nodup_nil,λ p h=>(nomatch h),λ p h=>(nomatch h),λ p h=>(nomatch h),rfl,Z6q _,λ l h=>(nomatch h),rfl⟩,Z6q _,Z6q _,rfl⟩
section
variable {H:HC} {nd:Nd}
theorem Settles.empty {H H':HC} (h:Settles H H') (he:H.waiting=[]):H'=H:=by
  cases h with
  | done _=>rfl
  | turn h _ _=>rw [h] at he; exact absurd he (List.append_ne_nil_of_right_ne_nil _ (List.cons_ne_nil _ _))
end
end PL
end
section
open PySem
namespace PL
structure Grown (σ σ':St) (b:Nat) (o:AObj) (os:List AObj):Prop where
  n:σ'.n=σ.n+os.length
  self:σ'.f b=some o
  new:∀ (i:Nat) (o':AObj),os[i]? = some o'→σ'.f (σ.n+i)=some o'
  old:∀ i,i < σ.n→i≠b→σ'.f i=σ.f i
section
variable {j:Nat} {σ σ' σ1 σ2:St} {b k:Nat} {o o' o2 oB:AObj} {os osB:List AObj} {ν:Fm} {c n q:String} {m:Fm} {e:PE}
theorem Grown.start (h:σ.f b=some o):Grown σ σ b o []:=⟨rfl,h,λ i o' q=>(nomatch q),λ i zz zz=>rfl⟩
theorem Grown.step (G:Grown σ σ1 b o os) (hb:b < σ.n):Grown σ ((σ1.new o').put b o2) b o2 (os++[o']) where
  n:=by rw [Zd]; exact Z7r (·+1) G.n
  self:=Yk ..
  new i o3 h:=(Zw (Nat.ne_of_gt (Z6t hb (Z6r _ _)))).trans ((Zlf h).elim (λ h=>(Y3 (G.n▸Nat.add_lt_add_left (Zfm h) _)).trans (G.new i o3 h)) λ h=>by rw [h.1,← G.n,h.2]; exact Yz ..)
  old i h1 h2:=(Zw h2).trans ((Y3 (G.n▸Z6t h1 (Z6r _ _))).trans (G.old i h1 h2))
theorem Grown.inst (G:Grown σ σ1 b o os) (hb:b < σ.n) (GB:Grown (J6 σ1 c) σ2 σ1.n oB osB):Grown σ (σ2.put b o2) b o2 (os++oB::osB) where
  n:=by
    show σ2.n=_
    rw [GB.n,Z69,Z7f]
    show σ1.n+1+osB.length=_
    rw [G.n,Z60,Nat.add_comm 1,Z60]
  self:=Yk ..
  new i o3 h:=by
    refine (Zw (Nat.ne_of_gt (Z6t hb (Z6r _ _)))).trans ?_
    by_cases hi:i < os.length
    · rw [List.getElem?_append_left hi] at h
      have hlt:σ.n+i < σ1.n:=G.n▸Nat.add_lt_add_left hi _
      exact (GB.old _ (Nat.lt_succ_of_lt hlt) (Nat.ne_of_lt hlt)).trans ((Y3 hlt).trans (G.new i o3 h))
    · obtain ⟨d,rfl⟩:=Nat.exists_eq_add_of_le (Nat.le_of_not_lt hi)
      rw [List.getElem?_append_right (Z6r _ _),Nat.add_sub_cancel_left] at h
      rw [← Z60,← G.n]
      cases d with
      | zero=>exact Z7g h▸GB.self
      | succ d=>rw [Nat.add_comm d,← Z60]; exact GB.new d o3 h
  old i h1 h2:=(Zw h2).trans (by
    have hlt:i < σ1.n:=G.n▸Z6t h1 (Z6r _ _)
    exact (GB.old i (Nat.lt_succ_of_lt hlt) (Nat.ne_of_lt hlt)).trans ((Y3 hlt).trans (G.old i h1 h2)))
structure Z5i (j:Nat) (ν:Fm) (σ σ1:St) (b:Nat) (n:String) (e:PE) (o:AObj) (os:List AObj) (σ2:St):Prop where
  run:ExS j (.sat (.loc "self") n e) ν σ1 .next ν σ2
  gr:Grown σ σ2 b o os
theorem Grown.sat_new (G:Grown σ σ1 b (.inst c k m) os) (hb:b < σ.n) (hν:ν "self"=some (.ref b)) (he:EvE j e ν σ1 (.ref σ1.n) (σ1.new o')) (hat:Jk.contains (c,n)=true:=by kernel_rfl) (hk:Nat.blt k 100=true:=by kernel_rfl):
    ∃ σ2,Z5i j ν σ σ1 b n e (.inst c (k+1) (upd m n (.ref (σ.n+os.length)))) (os++[o']) σ2:=
  ⟨_,G.n▸Z03 he (Zc hν) ((Y3 (G.n▸Z6t hb (Z6r _ _))).trans G.self) hat hk,G.n▸G.step hb⟩
theorem Zvj (G:Grown σ σ1 b o os) (hb:b < σ.n) (GB:Grown (J6 σ1 c) σ2 σ1.n oB osB):σ2.f b=some o:=
  have hlt:b < σ1.n:=G.n▸Z6t hb (Z6r _ _)
  (GB.old b (Nat.lt_succ_of_lt hlt) (Nat.ne_of_lt hlt)).trans ((Y3 hlt).trans G.self)
theorem Grown.sat_cls {d:String} (G:Grown σ σ1 b (.inst c k m) os) (hb:b < σ.n) (hν:ν "self"=some (.ref b)) (hc:CallR j q [.ref σ1.n] (J6 σ1 d) .none σ2) (GB:Grown (J6 σ1 d) σ2 σ1.n oB osB) (hi:Zgn.lookup d=some (some q):=by kernel_rfl) (hat:Jk.contains (c,n)=true:=by kernel_rfl) (hk:Nat.blt k 100=true:=by kernel_rfl):
    ∃ σ3,Z5i j ν σ σ1 b n (.cls d []) (.inst c (k+1) (upd m n (.ref (σ.n+os.length)))) (os++oB::osB) σ3:=
  ⟨_,G.n▸Z03 (Z15 hi es0 hc) (Zc hν) (Zvj G hb GB) hat hk,G.n▸G.inst hb GB⟩
theorem e_nw:EvE j (.new []) ν σ (.ref σ.n) (σ.new (.list [])):=Zwg es0
theorem e_dc:EvE j (.dct [] []) ν σ (.ref σ.n) (σ.new (.dict [])):=Z4v
theorem Za3 (b:Nat):upd (λ zz=>none) "self" (AVal.ref b) "self"=some (.ref b):=Zi ..
noncomputable def Z48 (i:Nat):Fm:=upd (upd (upd (upd (λ zz=>none) "nodes" (.ref i)) "numbers" (.ref (i+1))) "weights" (.ref (i+2))) "depths" (.ref (i+3))
noncomputable def Z47:List AObj:=[.list [],.dict [],.list [],.list []]
noncomputable def Zzw (i:Nat):Fm:=upd (upd (upd (λ zz=>none) "above" (.ref i)) "lots" (.ref (i+1))) "merged" (.ref (i+2))
noncomputable def Zzv:List AObj:=[.list [],.list [],.list []]
theorem Zxx (hb:b < σ.n) (hf:σ.f b=some (.inst "Bank" 0 λ zz=>none)):∃ σ',CallR (j+1) "Bank.__init__" [.ref b] σ .none σ'∧Grown σ σ' b (.inst "Bank" 4 (Z48 σ.n)) Z47:=
  have ⟨_,G1⟩:=(Grown.start hf).sat_new (n:="nodes") (j:=j) hb (Za3 b) e_nw
  have ⟨_,G2⟩:=G1.gr.sat_new (n:="numbers") (j:=j) hb (Za3 b) e_dc
  have ⟨_,G3⟩:=G2.gr.sat_new (n:="weights") (j:=j) hb (Za3 b) e_nw
  have ⟨_,G4⟩:=G3.gr.sat_new (n:="depths") (j:=j) hb (Za3 b) e_nw
  ⟨_,Zg Zm6 rfl (Zb G1.run (Zb G2.run (Zb G3.run (Zb G4.run Za0)))),G4.gr⟩
theorem Zxq (hb:b < σ.n) (hf:σ.f b=some (.inst "Unions" 0 λ zz=>none)):∃ σ',CallR (j+1) "Unions.__init__" [.ref b] σ .none σ'∧Grown σ σ' b (.inst "Unions" 3 (Zzw σ.n)) Zzv:=
  have ⟨_,G1⟩:=(Grown.start hf).sat_new (n:="above") (j:=j) hb (Za3 b) e_nw
  have ⟨_,G2⟩:=G1.gr.sat_new (n:="lots") (j:=j) hb (Za3 b) e_nw
  have ⟨_,G3⟩:=G2.gr.sat_new (n:="merged") (j:=j) hb (Za3 b) e_nw
  ⟨_,Zg Zh6 rfl (Zb G1.run (Zb G2.run (Zb G3.run Za0))),G3.gr⟩
end
end PL
end
section
open PySem
namespace PL
noncomputable def fIdx (f:Fld):Nat:=@Fld.casesOn (λ zz=>Nat) f 0 0 5 1 2 3 4 6 7 (λ zz=>0) 8 9 10 11 12 (λ zz=>0) 13 14
noncomputable def fAt (i:Nat):Fld:=[Fld.bank,.nodes,.numbers,.weights,.depths,.unions,.uab,.lots,.merged,.edges,.forest,.known,.hab,.waiting,.rows].getD i .h
noncomputable def newL (b i:Nat) (f:Fld):Nat:=@Fld.casesOn (λ zz=>Nat) f b (i+0) (i+5) (i+1) (i+2) (i+3) (i+4) (i+6) (i+7) (λ zz=>i) (i+8) (i+9) (i+10) (i+11) (i+12) (λ zz=>i) (i+13) (i+14)
noncomputable def Z4j (i:Nat):List AObj:=((((((([]:List AObj)++.inst "Bank" 4 (Z48 (i+1))::Z47)++.inst "Unions" 3 (Zzw (i+5+1))::Zzv)++[.list []])++[.list []])++[.dict []])++[.dict []])++[.list []]
noncomputable def Z4k (i:Nat):Fm:=upd (upd (upd (upd (upd (upd (upd (λ zz=>none) "bank" (.ref (i+0))) "unions" (.ref (i+5))) "edges" (.ref (i+9))) "forest" (.ref (i+10))) "known" (.ref (i+11))) "above" (.ref (i+12))) "waiting" (.ref (i+13))
theorem Zlj {f:Fld} {P:Fld→Prop} (hf:act Y4 f) (h:P .h) (h0:P .bank) (h5:P .unions) (h1:P .nodes) (h2:P .numbers) (h3:P .weights) (h4:P .depths) (h6:P .uab) (h7:P .lots) (h8:P .merged) (h9:P .edges) (h10:P .forest) (h11:P .known) (h12:P .hab) (h13:P .waiting) (h14:P .rows):P f:=
  @Fld.casesOn (λ f=>act Y4 f→P f) f (λ zz=>h) (λ zz=>h0) (λ zz=>h5) (λ zz=>h1) (λ zz=>h2) (λ zz=>h3) (λ zz=>h4) (λ zz=>h6) (λ zz=>h7) (λ i q=>absurd q (Nat.not_lt_zero i)) (λ zz=>h8) (λ zz=>h9) (λ zz=>h10) (λ zz=>h11) (λ zz=>h12) (λ c q=>absurd q List.not_mem_nil) (λ zz=>h13) (λ zz=>h14) hf
section
variable {j:Nat} {σ σ' σ1 σ2:St} {b k i:Nat} {f g:Fld} {ν:Fm}
theorem Zby (hf:act Y4 f) (h:f≠.h):newL b i f=i+fIdx f:=by
  revert h
  exact Zlj (P:=λ f=>f≠.h→newL b i f=i+fIdx f) hf (λ q=>absurd rfl q) (λ zz=>rfl) (λ zz=>rfl) (λ zz=>rfl) (λ zz=>rfl) (λ zz=>rfl) (λ zz=>rfl) (λ zz=>rfl) (λ zz=>rfl) (λ zz=>rfl) (λ zz=>rfl) (λ zz=>rfl) (λ zz=>rfl) (λ zz=>rfl) (λ zz=>rfl) (λ zz=>rfl)
theorem Zv7 (hf:act Y4 f) (h:f≠.h):fAt (fIdx f)=f:=by
  revert h
  exact Zlj (P:=λ f=>f≠.h→fAt (fIdx f)=f) hf (λ q=>absurd rfl q) (λ zz=>rfl) (λ zz=>rfl) (λ zz=>rfl) (λ zz=>rfl) (λ zz=>rfl) (λ zz=>rfl) (λ zz=>rfl) (λ zz=>rfl) (λ zz=>rfl) (λ zz=>rfl) (λ zz=>rfl) (λ zz=>rfl) (λ zz=>rfl) (λ zz=>rfl) (λ zz=>rfl)
theorem Z13 (f:Fld):fIdx f < 15:=@Fld.casesOn (λ f=>fIdx f < 15) f ble ble ble ble ble ble ble ble ble (λ zz=>ble) ble ble ble ble ble (λ zz=>ble) ble ble
theorem Zvu (f:Fld):f=.h∨f≠.h:=Classical.em _
theorem Zyi (hb:b < i) (hf:act Y4 f) (hg:act Y4 g) (e:newL b i f=newL b i g):f=g:=by
  rcases Zvu f with q1 | q1
  · rcases Zvu g with q2 | q2
    · rw [q1,q2]
    · rw [q1,Zby hg q2] at e; exact absurd e (Nat.ne_of_lt (Z6t hb (Z6r _ _)))
  · rcases Zvu g with q2 | q2
    · rw [q2,Zby hf q1] at e; exact absurd e.symm (Nat.ne_of_lt (Z6t hb (Z6r _ _)))
    · rw [Zby hf q1,Zby hg q2] at e
      rw [← Zv7 hf q1,← Zv7 hg q2,Nat.add_left_cancel e]
theorem Z1g (hb:b < i) (hf:act Y4 f):newL b i f < i+15:=by
  rcases Zvu f with q1 | q1
  · rw [q1]; exact Z6t hb (Z6r _ _)
  · rw [Zby hf q1]; exact Nat.add_lt_add_left (Z13 f) i
theorem Grown.rep (G:Grown σ σ' b (.inst "Written" 8 (upd (Z4k σ.n) "rows" (.ref (σ.n+14)))) (Z4j σ.n++[.list []])) (hb:b < σ.n):Rep σ' (newL b σ.n) Y4 where
  inj f g hf hg:=Zyi hb hf hg
  lt f hf:=by rw [G.n]; exact Z1g hb hf
  val f hf:=Zlj (P:=λ f=>σ'.f (newL b σ.n f)=some (cont (newL b σ.n) Y4 f)) hf G.self (G.new 0 _ rfl) (G.new 5 _ rfl) (G.new 1 _ rfl) (G.new 2 _ rfl) (G.new 3 _ rfl) (G.new 4 _ rfl) (G.new 6 _ rfl) (G.new 7 _ rfl) (G.new 8 _ rfl) (G.new 9 _ rfl) (G.new 10 _ rfl) (G.new 11 _ rfl) (G.new 12 _ rfl) (G.new 13 _ rfl) (G.new 14 _ rfl)
theorem Zxt (hb:b < σ.n) (hf:σ.f b=some (.inst "Written" 0 λ zz=>none)):∃ σ',CallR (j+2) "Heap.__init__" [.ref b] σ .none σ'∧Grown σ σ' b (.inst "Written" 7 (Z4k σ.n)) (Z4j σ.n):=by
  have G0:=Grown.start hf
  obtain ⟨σa,ca,GA⟩:=Zxx (j:=j) (σ:=J6 σ "Bank") (b:=σ.n) (Z6z _) (Yz ..)
  obtain ⟨σ1,G1⟩:=G0.sat_cls (n:="bank") hb (Za3 b) ca GA
  have n1:σ1.n=σ.n+5:=G1.gr.n
  obtain ⟨σb,cb,GB⟩:=Zxq (j:=j) (σ:=J6 σ1 "Unions") (b:=σ1.n) (Z6z _) (Yz ..)
  obtain ⟨σ2,G2⟩:=G1.gr.sat_cls (n:="unions") hb (Za3 b) cb GB
  have G2':=G2.gr
  rw [show (J6 σ1 "Unions").n=σ.n+5+1 from Z7r (·+1) n1] at G2'
  obtain ⟨σ3,G3⟩:=G2'.sat_new (n:="edges") (j:=j+1) hb (Za3 b) e_nw
  obtain ⟨σ4,G4⟩:=G3.gr.sat_new (n:="forest") (j:=j+1) hb (Za3 b) e_nw
  obtain ⟨σ5,G5⟩:=G4.gr.sat_new (n:="known") (j:=j+1) hb (Za3 b) e_dc
  obtain ⟨σ6,G6⟩:=G5.gr.sat_new (n:="above") (j:=j+1) hb (Za3 b) e_dc
  obtain ⟨σ7,G7⟩:=G6.gr.sat_new (n:="waiting") (j:=j+1) hb (Za3 b) e_nw
  exact ⟨σ7,Zg Zm2 rfl (Zb G1.run (Zb G2.run (Zb G3.run (Zb G4.run (Zb G5.run (Zb G6.run (Zb G7.run Za0))))))),G7.gr⟩
structure NewH (j:Nat) (σ:St) (b:Nat) (σ':St):Prop where
  call:CallR j "Written.__init__" [.ref b] σ .none σ'
  rep:Rep σ' (newL b σ.n) Y4
  n:σ'.n=σ.n+15
  old:∀ i,i < σ.n→i≠b→σ'.f i=σ.f i
theorem Zxn (hb:b < σ.n) (hf:σ.f b=some (.inst "Written" 0 λ zz=>none)):∃ σ',NewH (j+3) σ b σ':=by
  obtain ⟨σ1,c1,G1⟩:=Zxt (j:=j) hb hf
  obtain ⟨σ2,G2⟩:=G1.sat_new (n:="rows") (j:=j+2) hb (Za3 b) e_nw
  exact ⟨σ2,Zji Zgs rfl (Z0r ⟨Za3 b,hf,by kernel_rfl,es0,c1⟩ (BodyR.sup (Zb G2.run Za0))),G2.gr.rep hb,G2.gr.n,G2.gr.old⟩
end
end PL
end
section
open PySem
namespace PL
noncomputable def memH (H:HC) (c:Nat):List Int:=srtN ((Yh H (find H.par c)).map Int.ofNat)
noncomputable def memN (H:HC) (c:Nat):List Nat:=(memH H c).map Int.toNat
noncomputable def clsH (H:HC):List Nat:=(List.range H.nodes.length).filter λ a=>decide (H.par[a]? = some a)
noncomputable def Zqd (H:HC) (c:Nat):List Nd:=(memN H c).map λ n=>nkey H ((H.nodes[n]?).getD ([],[]))
noncomputable def useH (H:HC) (c:Nat):List Nat:=setN (Z2 H (find H.par c))
theorem Zgj (l:List Nat):(l.map Int.ofNat).map AVal.int=l.map nA:=by rw [List.map_map]; rfl
section
variable {j:Nat} {σ:St} {H:HC} {L:Fld→Nat} {c:Nat}
theorem Zuv (h:(Yh H (find H.par c)).length≤63):memH H c=(memN H c).map Int.ofNat∧(memN H c).Perm (Yh H (find H.par c)):=by
  have hp:(memH H c).Perm ((Yh H (find H.par c)).map Int.ofNat):=Zts (by rw [Z68]; exact Nat.lt_succ_of_le h)
  refine ⟨?_,?_⟩
  · rw [memN,List.map_map]
    refine ((List.map_congr_left (g:=id) λ x hx=>?_).trans (List.map_id _)).symm
    obtain ⟨n,zz,rfl⟩:=Z7b.mp (hp.mem_iff.mp hx)
    rfl
  · have:=hp.map Int.toNat
    rw [List.map_map] at this
    exact this.trans (((List.map_congr_left (g:=id) λ zz zz=>rfl).trans (List.map_id _))▸List.Perm.refl _)
theorem Zn5 (R:Rep σ L H) (O:Core H) (S:Ye H) (hc:c < H.nodes.length):CallR (j+2) "Unions.members" [.ref (L .unions),nA c] σ (.lst ((memH H c).map .int)) σ:=by
  have hfl:=O.find_lt hc
  have hone:=Z6p (O.one (O.find_abv hc)) (le63 S.n)
  exact Zg Zeq rfl (Z0 (Yl (es1 (Ys (Zs e_lk R.uobj) (Yb (cl:="Unions") e_lk R.uobj (es1 e_lk) (Zfs R O S hc)) (.lst (.ref R.lots) (Zql (O.ll.symm▸hfl)) (Zf (List.length_range▸O.ll.symm▸le63 S.n)))))
    (.sorted (.ref (R.lot (O.ll.symm▸hfl))) (Zgj _).symm (Zf hone))))
theorem Zil (R:Rep σ L H) (O:Core H) (S:Ye H) (hc:c < H.nodes.length):CallR (j+3) "Heap.members" [.ref (L .h),nA c] σ (.lst ((memH H c).map .int)) σ:=
  Zg Zgu rfl (Z0 (Yb (Zs e_lk R.hobj) R.uobj (es1 e_lk) (Zn5 R O S hc)))
theorem Zai (n:Nat):((List.range n).map λ (i:Nat)=>[AVal.int i])=((List.range n).map nA).map λ x=>[x]:=by rw [List.map_map]; rfl
theorem Zn6 (R:Rep σ L H) (O:Core H) (S:Ye H):CallR (j+1) "Unions.classes" [.ref (L .unions)] σ (.lst ((clsH H).map nA)) σ:=by
  have hl:=O.lp63 S
  have hg:LcR j none ["a"] [(.cmp .Eq (.idx (.att (.loc "self") "above") (.loc "a")) (.loc "a"))] (.loc "a") (upd (λ zz=>none) "self" (.ref (L .unions))) ((List.range H.nodes.length).map λ (i:Nat)=>[AVal.int i]) [] σ ([]++(clsH H).map nA) σ:=by
    rw [Zai]
    refine Zdk Zl (λ a ha=>⟨?_,λ zz=>Zc (Zi ..)⟩) (by rw [List.length_nil,Nat.zero_add,List.length_range]; exact le63 S.n)
    obtain ⟨p,hp⟩:=Zib (O.lp.symm▸List.mem_range.mp ha)
    have hi:EvE j (.cmp .Eq (.idx (.att (.loc "self") "above") (.loc "a")) (.loc "a")) (upd (hide (upd (λ zz=>none) "self" (.ref (L .unions)))) "a" (nA a)) σ (.bool (decide (H.par[a]? = some a))) σ:=
      Zo (Ys (Zs e_lk R.uobj) (Zc (Zi ..)) (.lst (.ref R.uab) (Zfi hp) (Zf hl))) (Zc (Zi ..)) ((CmpR.eq (.int 0 p a) ble).eqv (Zbs ⟨λ q=>by rw [hp,Ze3 q],λ q=>by rw [hp] at q; rw [Z7g q]⟩))
    cases hd:decide (H.par[a]? = some a) with
    | true=>exact .yes (hd▸hi) (.nil _)
    | false=>exact .no (hd▸hi)
  exact Zg Zer rfl (Z0 (Q3 (es1 ((Yl (es1 (Zs e_lk R.uobj)) (.len (.lst (.ref R.uab)) (Zf hl))).eqv (w:=nA H.nodes.length) (by rw [Z68,O.lp]))) (.rng (le63 S.n)) hg))
theorem Zry (R:Rep σ L H) (O:Core H) (S:Ye H):CallR (j+2) "Heap.classes" [.ref (L .h)] σ (.lst ((clsH H).map nA)) σ:=
  Zg Zgv rfl (Z0 (Yb (Zs e_lk R.hobj) R.uobj es0 (Zn6 R O S)))
theorem Zxo (R:Rep σ L H) (O:Core H) (S:Ye H) (hc:c < H.nodes.length) (hu:(Z2 H (find H.par c)).length≤63):CallR (j+3) "Heap.users" [.ref (L .h),nA c] σ (.lst ((useH H c).map nA)) σ:=
  have hr:=O.find_abv hc
  Zg Zkz rfl (Z0 (Zjc (Ys (Zs e_lk R.hobj) (Yb (cl:="Written") e_lk R.hobj (es1 e_lk) (Zf4 R O S hc)) (.dict R.hab Qv (Zar hr))) (.ref (R.abv hr)) hu))
theorem Zn9 (R:Rep σ L H) (O:Core H) (S:Ye H) (hc:c < H.nodes.length):CallR (j+4) "Heap.nodes_of" [.ref (L .h),nA c] σ (.lst ((setK (Zqd H c)).map Zr)) σ:=by
  obtain ⟨hm,hp⟩:=Zuv (H:=H) (c:=c) (Z6p (O.one (O.find_abv hc)) S.n)
  have hl:(memN H c).length≤63:=hp.length_eq▸Z6p (O.one (O.find_abv hc)) S.n
  have hmem:=Zil (j:=j) R O S hc
  rw [hm,Zgj] at hmem
  have hg:LcR (j+3) none ["n"] [] (.mth (.loc "self") "node" [(.loc "n")]) (upd (upd (λ zz=>none) "self" (.ref (L .h))) "c" (nA c)) (((memN H c).map nA).map λ x=>[x]) [] σ ([]++(memN H c).map λ n=>Zr (nkey H ((H.nodes[n]?).getD ([],[])))) σ:=
    Zdj Zl (λ n hn=>(Zib (Zki O (hp.mem_iff.mp hn))).elim λ nd hnd=>(Yb (cl:="Written") e_lk R.hobj (es1 e_lk) (Zt0 R O S hnd)).eqv (by rw [hnd]; rfl)) (by rw [List.length_nil,Nat.zero_add]; exact le63 hl)
  exact Zg Zfp rfl (Z0 (Zpc (Q3 (es1 (Yb (cl:="Written") e_lk R.hobj (es1 e_lk) hmem)) (.lst _) hg) (by rw [Zqd,List.map_map]; exact .lst _) (by rw [Zqd,Z68]; exact hl)))
end
end PL
end
section
open PySem
namespace PL
theorem Zii {c:Nat}:∀ {w:CS},c ∉ w→Zu c w=[w]
  | [],_=>rfl
  | x::r,h=>by
    have h1:x≠c:=λ e=>h (e▸Z66)
    rw [Zu,if_neg h1,Zii λ q=>h (Z67 _ q)]
theorem Zjy {c:Nat} {r:CS}:∀ {w:CS},c ∉ w→Zu c (w++c::r)=w::Zu c r
  | [],_=>if_pos rfl
  | x::w,h=>by
    have h1:x≠c:=λ e=>h (e▸Z66)
    rw [List.cons_append,Zu,if_neg h1,Zjy λ q=>h (Z67 _ q)]
theorem Y7 {c w v:CS} {ws:List CS}:Yp c (w::v::ws)=w++(c++Yp c (v::ws)):=Z7d ..
theorem Zij {c:Nat}:∀ {w:CS} {ws:List CS},(∀ u∈w::ws,c ∉ u)→Zu c (Yp [c] (w::ws))=w::ws
  | w,[],h=>Zii (h w Z66)
  | w,v::ws,h=>by rw [Y7]; exact (Zjy (h w Z66)).trans (Z7r (w::·) (Zij λ u hu=>h u (Z67 _ hu)))
theorem Zf2 {c:Nat}:∀ {ws:List CS},(∀ w∈ws,c ∉ w)→Zu c (ws.map (·++[c])).flatten=ws++[[]]
  | [],_=>rfl
  | w::ws,h=>by
    rw [Z7e,List.flatten_cons,Z7d]
    exact (Zjy (h w Z66)).trans (Z7r (w::·) (Zf2 λ u hu=>h u (Z67 _ hu)))
theorem Zkj {v c:CS} {vs:List CS}:∀ {ws:List CS} {w:CS},Yp c (w::ws++v::vs)=Yp c (w::ws)++(c++Yp c (v::vs))
  | [],w=>Y7
  | u::ws,w=>by
    rw [List.cons_append,List.cons_append,Y7,Y7,← List.cons_append,Zkj,Z7d,Z7d]
theorem Zva {k:Nat} {c:CS}:∀ {ws:List CS},(∀ w∈ws,w.length≤k)→(Yp c ws).length≤(k+c.length)*ws.length
  | [],_=>Z63 _
  | [w],h=>Z6p (h w Z66) (Z6p (Z6r _ _) (Z62 (Nat.mul_one _).symm))
  | w::v::ws,h=>by
    rw [Y7,Z69,Z69,← Z60,Z7f,Nat.mul_succ,Nat.add_comm ((k+c.length)*_)]
    exact Nat.add_le_add (Z6x (h w Z66) _) (Zva λ u hu=>h u (Z67 _ hu))
theorem Zqu {x:Nat} {c:CS} (hc:x ∉ c):∀ {ws:List CS},(∀ w∈ws,x ∉ w)→x ∉ Yp c ws
  | [],_=>List.not_mem_nil
  | [w],h=>h w Z66
  | w::v::ws,h=>by
    rw [Y7]
    exact λ q=>(List.mem_append.mp q).elim (h w Z66) λ q=>(List.mem_append.mp q).elim hc (Zqu hc λ u hu=>h u (Z67 _ hu))
noncomputable def Zhm:CS:=[48,49,50,51,52,53,54,55,56,57]
structure Z6k (w:CS) (n:Nat):Prop where
  len:w.length≤2
  ne:w≠[]
  digits:∀ c∈w,Zhm.contains c=true
  zero:w.head?≠some 48∨w=[48]
  val:Zrm w 0=some n
noncomputable def numB (w:CS) (n:Nat):Bool:=Nat.ble w.length 2&&(w != []&&(w.all (λ c=>Zhm.contains c)&&((w.head? != some 48 || w==[48])&&Zrm w 0==some n)))
theorem Z1e:∀ n:Nat,n < 100→numB (decI n) n=true:=by decide +kernel
theorem Zqb {n:Nat} (h:n < 100):Z6k (decI n) n:=by
  obtain ⟨h1,h⟩:=and2 (Z1e n h)
  have h2:=(and2 h).1
  have h:=(and2 h).2
  have h3:=(and2 h).1
  have h:=(and2 h).2
  have h4:=(and2 h).1
  have h5:=(and2 h).2
  exact ⟨Z6y h1,bne_iff_ne.mp h2,List.all_eq_true.mp h3,(Bool.or_eq_true_iff.mp h4).imp bne_iff_ne.mp Z7u,Z7u h5⟩
theorem Zla {c:Nat} (h:Zhm.contains c=true):c < 128∧c≠32∧c≠10:=by
  have:∀ c∈Zhm,c < 128∧c≠32∧c≠10:=by decide
  exact this c (List.contains_iff_mem.mp h)
section
variable {j:Nat} {σ:St} {ν:Fm}
theorem Ztz {n:Nat} (hn:n < 100) {row:AVal}:CallR (j+1) "number_of" [.str (decI n),row] σ (nA n) σ:=by
  have h:=Zqb hn
  generalize decI n=w at h
  cases w with
  | nil=>exact absurd rfl h.ne
  | cons c r=>
    have l16:(c::r).length≤16000:=Z6p h.len ble
    have hc:LcR j none ["sign"] [(.cmp .NotIn (.loc "sign") (.cst (.str [48,49,50,51,52,53,54,55,56,57])))] (.loc "sign") (upd (upd (λ zz=>none) "word" (.str (c::r))) "row" row) ((c::r).map λ c=>[.str [c]]) [] σ [] σ:=by
      rw [Zhq]
      exact Zu3 Zl (λ d hd=>.no ((Zo (Zc (Zi ..)) Ze (.ninS d Zhm)).eqv (Z7r AVal.bool (by rw [h.digits d hd]; rfl)))) l16
    refine Zg Zmx rfl (Zb (Zn (Zhj ((Zo (Yl (es1 e_lk) (.lenS l16)) Ze (.gt _ 9)).eqv (w:=.bool false) ?_) ((Zo e_lk Ze (.eq (.str 0 (c::r) []) ble)).eqv (Z7r AVal.bool (dF λ q=>nomatch q))) ((Zo (Q3 (es1 e_lk) (.str λ d hd=>(Zla (h.digits d hd)).1) hc) (Zan es0) (.neL (n:=0) (.lst _) (.lst _) (λ zz i a b h=>nomatch h) ble)).eqv (Z7r AVal.bool (nT rfl)))))
      (Zb (Zn ?_) (Z0 (Yl (es1 e_lk) (.intS h.val h.ne (Z6p h.len ble))))))
    · exact Z7r AVal.bool (dF (Int.not_lt.mpr (Int.ofNat_le.mpr (Z6p h.len ble))))
    · have c0:EvE j (.idx (.loc "word") (.cst (.int 0))) (upd (upd (λ zz=>none) "word" (.str (c::r))) "row" row) σ (.str [c]) σ:=Ys e_lk Ze (.str (k:=0) (t:=c::r) rfl l16)
      by_cases hc0:c=48
      · have e:c::r=[48]:=h.zero.resolve_left λ q=>q (by rw [hc0]; rfl)
        exact Jw ((Zo c0 Ze (.eq (.str 0 [c] [48]) ble)).eqv (Z7r AVal.bool (dT (by rw [hc0])))) ((Zo e_lk Ze (.ne (.str 0 (c::r) [48]) ble)).eqv (Z7r AVal.bool (nT (by rw [e]))))
      · exact Zc0 ((Zo c0 Ze (.eq (.str 0 [c] [48]) ble)).eqv (Z7r AVal.bool (dF λ q=>hc0 (by injection q with q; exact (List.cons.inj q).1))))
end
end PL
end
section
open PySem
namespace PL
structure okW (w:CS):Prop where
  op:okOp w
  len:w.length≤5
noncomputable def sADD:CS:=[97,100,100]
noncomputable def Q5:CS:=[115,97,109,101]
noncomputable def Za5:CS:=[115,101,116,116,108,101]
noncomputable def Zl3:CS:=[116,111,108,100]
noncomputable def Zgc:CS:=[114,117,108,101]
noncomputable def sX:CS:=[63,120]
noncomputable def sY:CS:=[63,121]
noncomputable def plW (ps:List (CS×Nat)):List CS:=@List.rec _ (λ zz=>List CS) [] (λ p zz ih=>p.1::decI p.2::ih) ps
noncomputable def Zgf (r:Reason):List CS:=@Reason.casesOn (λ zz=>List CS) r (λ w=>[Zl3,w]) λ w ps=>Zgc::w::plW ps
noncomputable def Yg (r:Row):List CS:=@Row.casesOn (λ zz=>List CS) r (λ op ks=>sADD::op::ks.map λ (k:Nat)=>decI k) (λ a b r=>Q5::decI a::decI b::Zgf r) [Za5]
noncomputable def Zq (r:Row):CS:=Yp [32] (Yg r)
inductive PlOK:List (CS×Nat)→Prop
  | zero:PlOK []
  | one {n:Nat} (h:n < 100):PlOK [(sX,n)]
  | two {n m:Nat} (h:n < 100) (h2:m < 100):PlOK [(sX,n),(sY,m)]
inductive wfReason:Reason→Prop
  | told {w:CS} (h:okW w):wfReason (.told w)
  | rule {w:CS} {ps:List (CS×Nat)} (h:okW w) (hp:PlOK ps):wfReason (.rule w ps)
inductive J3:Row→Prop
  | add {op:CS} {ks:List Nat} (h1:okW op) (h2:ks.length≤2) (h3:∀ k∈ks,k < 100):J3 (.add op ks)
  | same {a b:Nat} {r:Reason} (h1:a < 100) (h2:b < 100) (h3:wfReason r):J3 (.same a b r)
  | settle:J3 .settle
structure Zvo (w:CS):Prop where
  len:w.length≤6
  sp:32 ∉ w
  nl:10 ∉ w
theorem okW.good {w:CS} (h:okW w):Zvo w:=⟨Nat.le_succ_of_le h.len,λ q=>absurd (h.op.signs 32 q).space (by decide),λ q=>absurd (h.op.signs 10 q).space (by decide)⟩
theorem Zb2 {n:Nat} (hn:n < 100):Zvo (decI n):=
  have h:=Zqb hn
  ⟨Z6p h.len ble,λ q=>(Zla (h.digits 32 q)).2.1 rfl,λ q=>(Zla (h.digits 10 q)).2.2 rfl⟩
noncomputable def Z6b (w:CS):Bool:=Nat.ble w.length 6&&(!w.contains 32&&!w.contains 10)
theorem Js {w:CS} (h:Z6b w=true):Zvo w:=by
  have h1:=(and2 h).1
  have h:=(and2 h).2
  have h2:=(and2 h).1
  have h3:=(and2 h).2
  exact ⟨Z6y h1,λ q=>absurd (List.contains_iff_mem.mpr q) (by rw [Bool.not_eq_true'] at h2; rw [h2]; exact Z7w),λ q=>absurd (List.contains_iff_mem.mpr q) (by rw [Bool.not_eq_true'] at h3; rw [h3]; exact Z7w)⟩
structure GoodWs (n:Nat) (ws:List CS):Prop where
  all:∀ w∈ws,Zvo w
  len:ws.length≤n
section
variable {n m:Nat} {w:CS} {ws:List CS} {r:Reason} {ps:List (CS×Nat)}
theorem GoodWs.nil:GoodWs n []:=⟨λ w h=>(nomatch h),Z63 _⟩
theorem GoodWs.cons (h:Zvo w) (t:GoodWs n ws):GoodWs (n+1) (w::ws):=⟨List.forall_mem_cons.mpr ⟨h,t.all⟩,Z6v t.len⟩
theorem GoodWs.up (t:GoodWs n ws) (h:Nat.ble n m=true):GoodWs m ws:=⟨t.all,Z6p t.len (Z6y h)⟩
theorem PlOK.good (h:PlOK ps):GoodWs 4 (plW ps):=by
  cases h with
  | zero=>exact .nil
  | one h=>exact .up (.cons (Js rfl) (.cons (Zb2 h) (.nil (n:=0)))) rfl
  | two h h2=>exact .cons (Js rfl) (.cons (Zb2 h) (.cons (Js rfl) (.cons (Zb2 h2) (.nil (n:=0)))))
theorem wfReason.good (h:wfReason r):GoodWs 6 (Zgf r):=by
  cases h with
  | told h=>exact .up (.cons (Js rfl) (.cons h.good (.nil (n:=0)))) rfl
  | rule h hp=>exact .cons (Js rfl) (.cons h.good hp.good)
theorem Zdb {r:Row} (h:J3 r):GoodWs 9 (Yg r):=by
  cases h with
  | settle=>exact .up (.cons (Js rfl) (.nil (n:=0))) rfl
  | add h1 h2 h3=>exact .up (n:=4) (.cons (Js rfl) (.cons h1.good ⟨λ w hw=>(Z7b.mp hw).elim λ k hk=>hk.2▸Zb2 (h3 k hk.1),Zf h2⟩)) rfl
  | same h1 h2 h3=>exact .cons (Js rfl) (.cons (Zb2 h1) (.cons (Zb2 h2) h3.good))
theorem Je {r:Row} (h:J3 r):(Zq r).length≤63:=Z6p (Zva λ w hw=>((Zdb h).all w hw).len) (Nat.mul_le_mul_left 7 (Zdb h).len)
theorem Zj5 (r:Row):∃ w ws,Yg r=w::ws:=by cases r <;> exact ⟨_,_,rfl⟩
theorem Zj6 {r:Row} (h:J3 r):Zu 32 (Zq r)=Yg r:=by
  have hg:=Zdb h
  obtain ⟨w,ws,e⟩:=Zj5 r
  rw [Zq,e]
  exact Zij λ u hu=>(hg.all u (e▸hu)).sp
theorem Zl5 {r:Row} (h:J3 r):10 ∉ Zq r:=Zqu (by decide) λ w hw=>((Zdb h).all w hw).nl
end
noncomputable def plT (p:CS×Nat):CS:=p.1++([32]++(decI p.2++[]))
theorem Zyp {w:CS} {ws:List CS} (ps:List (CS×Nat)):Yp [32] (w::ws++ps.map plT)=Yp [32] (w::ws++plW ps):=by
  have h:∀ (p:CS×Nat) (ps:List (CS×Nat)),Yp [32] ((p::ps).map plT)=Yp [32] (plW (p::ps)):=by
    intro p ps
    induction ps generalizing p with
    | nil=>show p.1++([32]++(decI p.2++[]))=p.1++[32]++decI p.2; rw [List.append_nil,Z7d]
    | cons q ps ih=>
      show Yp [32] (plT p::plT q::ps.map plT)=Yp [32] (p.1::decI p.2::plW (q::ps))
      rw [Y7]
      refine (Z7r (λ t=>plT p++([32]++t)) (ih q)).trans ?_
      rw [Y7]
      show _=p.1++([32]++Yp [32] (decI p.2::q.1::decI q.2::plW ps))
      rw [Y7,plT,List.append_nil,Z7d,Z7d]; rfl
  cases ps with
  | nil=>rfl
  | cons p ps=>exact Zkj.trans ((Z7r (λ t=>Yp [32] (w::ws)++([32]++t)) (h p ps)).trans Zkj.symm)
section
variable {j:Nat} {σ:St} {ν:Fm} {e:PE} {α:Type} {p q r:α→AVal} {x y:String}
theorem Zos {g:Option (Nat×List AVal)} (hst:Jy g σ):∀ {l:List α} {acc:List AVal},(∀ u∈l,EvE j e (upd (upd (hide ν) x (p u)) y (q u)) σ (r u) σ)→acc.length+l.length≤16000→LcR j g [x,y] [] e ν (l.map λ u=>[p u,q u]) acc σ (acc++l.map r) σ
  | [],acc,_,_=>by rw [List.map_nil,List.map_nil,List.append_nil]; exact .nil hst
  | u::l,acc,h,hl=>by
    rw [Z7e,Z7e,List.append_cons]
    rw [Z7f,Nat.add_succ] at hl
    exact .keep hst rfl (.nil _) (h u Z66) (Z6u (Z6r _ _) hl) (Zos hst (λ w hw=>h w (Z67 _ hw)) (by rw [Z69]; exact (Nat.succ_add _ _).symm▸hl))
theorem lc0 {n k:Nat} (h:n≤k) (hk:Nat.ble k 16000=true:=by rfl):([]:List AVal).length+n≤16000:=by rw [List.length_nil,Nat.zero_add]; exact Z6p h (Z6y hk)
noncomputable def strD (n:Nat):AVal:=.str (decI n)
theorem Zja {n:Nat} (hn:n < 100) (h:EvE j e ν σ (nA n) σ):EvE j (.blt "str" [e]) ν σ (strD n) σ:=Yl (es1 h) (.strI (Z6t hn ble))
theorem Z0c {ks:List Nat} (hk:∀ k∈ks,k < 100) (hl:ks.length≤2):LcR j none ["n"] [] (.blt "str" [(.loc "n")]) ν ((ks.map nA).map λ x=>[x]) [] σ ([]++ks.map strD) σ:=
  Zdj Zl (λ k hk'=>Zja (hk k hk') (Zc (Zi ..))) (lc0 hl)
structure PlR (ps:List (CS×Nat)):Prop where
  len:ps.length≤2
  num:∀ p∈ps,p.2 < 100
  word:∀ p∈ps,p.1.length≤6
theorem PlOK.all {ps:List (CS×Nat)} (h:PlOK ps):PlR ps:=by
  cases h with
  | zero=>exact ⟨Z63 _,λ p h=>(nomatch h),λ p h=>(nomatch h)⟩
  | one h=>exact ⟨ble,λ p q=>Z7c.mp q▸h,λ p q=>Z7c.mp q▸ble⟩
  | two h h2=>exact ⟨ble,List.forall_mem_cons.mpr ⟨h,λ p q=>Z7c.mp q▸h2⟩,List.forall_mem_cons.mpr ⟨ble,λ p q=>Z7c.mp q▸ble⟩⟩
theorem Z54 {ps:List (CS×Nat)} (h:PlR ps):LcR j none ["name","n"] [] (.fst [(.fld (.loc "name")),(.cst (.str [32])),(.fld (.loc "n"))]) ν (ps.map λ p=>[.str p.1,nA p.2]) [] σ ([]++ps.map λ p=>.str (plT p)) σ:=
  Zos Zl (λ p hp=>Z6c (.fld (Zc (Za (Zi ..))) (.str _ (Z6p (h.word p hp) ble)) (.txt (.fld (Zc (Zi ..)) (.int (Z6t (h.num p hp) ble)) (.nil _))))
    (by rw [plT,Z69,Z69,List.append_nil]; exact Z6p (Nat.add_le_add (h.word p hp) (Z6w (Zqb (h.num p hp)).len 1)) ble)) (lc0 h.len)
end
end PL
end
section
open PySem
namespace PL
section
variable {j:Nat} {σ:St} {ν:Fm} {e:PE} {xs:List AVal} {x y:AVal} {a b k:Nat}
theorem e_at (he:EvE j e ν σ (.tup xs) σ) (k:Nat) (h:xs[k]? = some x) (hl:xs.length≤16000):EvE j (.idx e (.cst (.int k))) ν σ x σ:=Ys he Ze (.tup h hl)
theorem Zbq (he:EvE j e ν σ (.lst xs) σ) (k:Nat) (h:xs[k]? = some x) (hl:xs.length≤16000):EvE j (.idx e (.cst (.int k))) ν σ x σ:=Ys he Ze (.lst (.lst _) h hl)
theorem Zca {s t:CS} (he:EvE j e ν σ (.str s) σ) (h:s=t):EvE j (.cmp .Eq e (.cst (.str t))) ν σ (.bool true) σ:=(Zo he Ze (.eq (.str 0 s t) ble)).eqv (Z7r AVal.bool (dT (by rw [h])))
theorem Q9 {s t:CS} (he:EvE j e ν σ (.str s) σ) (h:s≠t:=by decide):EvE j (.cmp .Eq e (.cst (.str t))) ν σ (.bool false) σ:=(Zo he Ze (.eq (.str 0 s t) ble)).eqv (Z7r AVal.bool (dF λ q=>h (by injection q)))
theorem Zzc {s t:CS} (he:EvE j e ν σ (.str s) σ) (h:s=t):EvE j (.cmp .NotEq e (.cst (.str t))) ν σ (.bool false) σ:=(Zo he Ze (.ne (.str 0 s t) ble)).eqv (Z7r AVal.bool (nT (by rw [h])))
theorem Z4t {s t:CS} (he:EvE j e ν σ (.str s) σ) (h:s≠t:=by decide):EvE j (.cmp .NotEq e (.cst (.str t))) ν σ (.bool true) σ:=(Zo he Ze (.ne (.str 0 s t) ble)).eqv (Z7r AVal.bool (nF λ q=>h (by injection q)))
theorem e_jn {ws:List CS} (he:EvE j e ν σ (.lst xs) σ) (hx:xs=ws.map .str) (h1:(Yp [32] ws).length≤16000) (h2:ws.length≤16000):EvE j (.mth (.cst (.str [32])) "join" [e]) ν σ (.str (Yp [32] ws)) σ:=Qt Ze (.join [32]) (es1 he) (.join hx h1 h2 (Z6q 1))
theorem Za6 {r:Row} (h:J3 r):(Zq r).length≤16000:=Z6p (Je h) ble
theorem Zeg {r:Row} (h:J3 r):(Yg r).length≤16000:=Z6p (Zdb h).len ble
theorem Zkg (ks:List Nat):ks.map strD=(ks.map λ (k:Nat)=>decI k).map AVal.str:=by rw [List.map_map]; rfl
structure Z2p (r:Reason) (k w:CS) (ts:List CS) (more:List AVal):Prop where
  eq:Zt r=.tup (.str k::.str w::more)
  short:more.length≤1
  text:∀ u us,Yp [32] ((u::us)++(k::w::ts))=Yp [32] ((u::us)++Zgf r)
  len:ts.length≤2
theorem Zza {r:Reason} (h:wfReason r) (hr:ν "reason"=some (Zt r)):∃ k w ts more,Z2p r k w ts more∧ExS j (.asg "places" (.cond (.cmp .Eq (.idx (.loc "reason") (.cst (.int 0))) (.cst (.str [114,117,108,101]))) (.comp (.fst [(.fld (.loc "name")),(.cst (.str [32])),(.fld (.loc "n"))]) ["name","n"] 1 [(.idx (.loc "reason") (.cst (.int 2)))] []) (.lst []))) ν σ .next (upd ν "places" (.lst (ts.map .str))) σ:=by
  cases h with
  | told h=>exact ⟨_,_,[],[],⟨rfl,Z63 _,λ u us=>rfl,Z63 _⟩,Yr (Zd5 (Q9 (e_at (xs:=[.str Zl3,.str _]) (Zc hr) 0 rfl ble)) (Zan es0))⟩
  | @rule w ps h hp=>
    have rr:EvE j (.loc "reason") ν σ (.tup [.str Zgc,.str w,.tup (ps.map Qy)]) σ:=Zc hr
    refine ⟨_,_,ps.map plT,[.tup (ps.map Qy)],⟨rfl,Z6q _,λ u us=>?_,by rw [Z68]; exact hp.all.len⟩,Yr (Zd4 (Zca (e_at rr 0 rfl ble) rfl) ((Q3 (es1 (e_at rr 2 rfl ble)) (Jp ps) (Z54 hp.all)).eqv ?_))⟩
    · have:=Zyp (w:=u) (ws:=us++[Zgc,w]) ps
      rw [List.cons_append,Z7d] at this
      exact this.trans (Z7r (λ l=>Yp [32] (u::l)) (Z7d us [Zgc,w] (plW ps)))
    · show AVal.lst (ps.map λ p=>AVal.str (plT p))=AVal.lst ((ps.map plT).map AVal.str)
      rw [List.map_map]; rfl
theorem Zru {r:Row} (h:J3 r):CallR (j+1) "row_text" [rowA r] σ (.str (Zq r)) σ:=by
  have hl:=Za6 h
  have hw:=Zeg h
  cases h with
  | @add op ks h1 h2 h3=>
    have rr:EvE j (.loc "row") (upd (λ zz=>none) "row" (rowA (.add op ks))) σ (.tup [.str sADD,.str op,.tup (ks.map nA)]) σ:=e_lk
    refine Zg Zcw rfl (Ql (Za4 (Zca (e_at rr 0 rfl ble) rfl) (Zaz (e_jn (ws:=Yg (.add op ks)) (Qi (Zan (es2 Ze (e_at rr 1 rfl ble))) (Q3 (es1 (e_at rr 2 rfl ble)) (.tup (ks.map nA)) (Z0c h3 h2)) (.addL (.lst _) (.lst _) ?_)) ?_ hl hw))))
    · show 2+(List.map strD ks).length≤_; rw [Z68]; exact Z6p (Z6w h2 2) ble
    · show AVal.str sADD::AVal.str op::ks.map strD=AVal.str sADD::AVal.str op::List.map AVal.str (List.map _ ks); rw [Zkg]
  | settle=>
    have rr:EvE j (.loc "row") (upd (λ zz=>none) "row" (rowA .settle)) σ (.tup [.str Za5]) σ:=e_lk
    exact Zg Zcw rfl (Zb (Zn (Q9 (e_at rr 0 rfl ble))) (Ql (Za4 (Zca (e_at rr 0 rfl ble) rfl) (Zaz Ze))))
  | @same a b r h1 h2 h3=>
    obtain ⟨k,w,ts,more,T,hp⟩:=Zza (j:=j) (σ:=σ) (ν:=upd (upd (λ zz=>none) "row" (rowA (.same a b r))) "reason" (Zt r)) h3 (by kernel_rfl)
    have rr:EvE j (.loc "row") (upd (λ zz=>none) "row" (rowA (.same a b r))) σ (.tup [.str Q5,nA a,nA b,Zt r]) σ:=e_lk
    have rr2:EvE j (.loc "row") (upd (upd (upd (λ zz=>none) "row" (rowA (.same a b r))) "reason" (Zt r)) "places" (.lst (ts.map .str))) σ (.tup [.str Q5,nA a,nA b,Zt r]) σ:=e_lk
    have hr2:upd (upd (upd (λ zz=>none) "row" (rowA (.same a b r))) "reason" (Zt r)) "places" (.lst (ts.map .str)) "reason"=some (.tup (.str k::.str w::more)):=by rw [← T.eq]; kernel_rfl
    have hm:(AVal.str k::.str w::more).length≤16000:=Z6p (Z6v (Z6v T.short)) ble
    have ht:Yp [32] ([Q5,decI a,decI b]++(k::w::ts))=Zq (.same a b r):=T.text Q5 [decI a,decI b]
    refine Zg Zcw rfl (Zb (Zn (Q9 (e_at rr 0 rfl ble))) (Zb (Zn (Q9 (e_at rr 0 rfl ble))) (Zb (Yr (e_at rr 3 rfl ble)) (Zb hp (Z0 ((e_jn (ws:=[Q5,decI a,decI b]++(k::w::ts)) (Qi (Zan (.cons Ze (.cons (Zja h1 (e_at rr2 1 rfl ble)) (.cons (Zja h2 (e_at rr2 2 rfl ble)) (es2 (e_at (Zc hr2) 0 rfl hm) (e_at (Zc hr2) 1 rfl hm)))))) (Zc (Zi ..)) (.addL (.lst _) (.lst _) ?_)) rfl (ht▸hl) ?_).eqv (Z7r AVal.str ht)))))))
    · show 5+(List.map AVal.str ts).length≤_; rw [Z68]; exact Z6p (Z6w T.len 5) ble
    · show ts.length+5≤_; exact Z6p (Z6x T.len 5) ble
end
end PL
end
section
open PySem PySem.W
namespace PL
theorem Zbi {α:Type} (xs:List α) (a:Nat):∀ k,((List.range k).map λ i=>a+i).filterMap (xs[·]?)=(xs.drop a).take k
  | 0=>rfl
  | k+1=>by
    rw [List.range_succ,List.map_append,List.filterMap_append,Zbi xs a k,List.take_add_one,List.getElem?_drop]
    refine Z7r (λ l=>List.take k (List.drop a xs)++l) ?_
    cases h:xs[a+k]? with
    | none=>exact List.filterMap_cons_none h
    | some v=>exact List.filterMap_cons_some h
theorem Zr3 (n:Nat) (lo hi:Option Int):slcI n lo hi none=(List.range (kms_hi hi n-kms_lo lo n)).map λ i=>kms_lo lo n+i:=by
  unfold slcI
  rw [kms_bounds]
  exact PySem.sliceRange_one _ _
theorem Zf5 {xs:List AVal} {lo hi:Option Int}:(slcI xs.length lo hi none).filterMap (xs[·]?)=(xs.drop (kms_lo lo xs.length)).take (kms_hi hi xs.length-kms_lo lo xs.length):=by rw [Zr3,Zbi]
theorem Zu6 {k n:Nat}:(if (k:Int) < 0 then n-(-(k:Int)).toNat else min (k:Int).toNat n)=min k n:=if_neg (Int.not_lt.mpr (Int.natCast_nonneg k))
theorem Zj2:(none:Option Int)≠some 0:=λ q=>nomatch q
section
variable {j:Nat} {σ:St} {ν:Fm} {e:PE} {xs:List AVal} {x y:AVal} {a b k n:Nat}
theorem Zx1 (hx:LOf σ x xs) (hk:k≤xs.length) (hl:xs.length≤16000):SlcR σ x (.int k) .none .none (.lst (xs.drop k)):=by
  have h:=SlcR.lst hx (some (k:Int)) none none Zj2 hl
  rw [Zf5,show kms_lo (some (k:Int)) xs.length=k from (Zu6 (k:=k)).trans (Nat.min_eq_left hk),List.take_of_length_le (by rw [List.length_drop]; exact Z6q _)] at h
  exact h
theorem Zz0 (hx:LOf σ x xs) (hl:xs.length≤16000):SlcR σ x .none (.int k) .none (.lst (xs.take k)):=by
  have h:=SlcR.lst hx none (some (k:Int)) none Zj2 hl
  rw [Zf5,show kms_hi (some (k:Int)) xs.length=min k xs.length from Zu6 (k:=k),show kms_lo none xs.length=0 from rfl,List.drop_zero,Nat.sub_zero,← List.take_eq_take_min] at h
  exact h
theorem Zx0 (hx:LOf σ x xs) (hl:xs.length≤16000):SlcR σ x .none (.int (-1)) .none (.lst xs.dropLast):=by
  have h:=SlcR.lst hx none (some (-1)) none Zj2 hl
  rw [Zf5,show kms_hi (some (-1)) xs.length=xs.length-1 from rfl,show kms_lo none xs.length=0 from rfl,List.drop_zero,Nat.sub_zero,← List.dropLast_eq_take] at h
  exact h
theorem Zof {n:Nat} (h:∀ x∈xs,Cmpb n x x) (i:Nat) (a b:AVal) (ha:xs[i]? = some a) (hb:xs[i]? = some b):Cmpb n a b:=Z7g (ha.symm.trans hb)▸h a (Z7z ha)
theorem Yy (h:∀ x∈xs,Cmpb n x x):Cmpb (n+1) (.tup xs) (.tup xs):=.tup (Zof h)
theorem Zda (h:∀ x∈xs,Cmpb n x x):Cmpb (n+1) (.lst xs) (.lst xs):=.lst λ zz=>Zof h
theorem Zem {σ:St} {v:AVal} (h:Cmpb n v v) (hn:n≤20):CmpR σ .NotEq v v false:=(CmpR.ne h hn).eqv (nT rfl)
theorem Zon (hx:LOf σ x xs) (hy:LOf σ y xs) (h:∀ x∈xs,Cmpb n x x) (hn:n≤20):CmpR σ .NotEq x y false:=(CmpR.neL hx hy (λ zz=>Zof h) hn).eqv (nT rfl)
theorem all_cons {α:Type} {P:α→Prop} {a:α} {l:List α} (h:P a) (t:∀ x∈l,P x):∀ x∈a::l,P x:=List.forall_mem_cons.mpr ⟨h,t⟩
theorem Yc {α:Type} {P:α→Prop}:∀ x∈([]:List α),P x:=λ x h=>nomatch h
theorem all_map {α β:Type} {P:β→Prop} {f:α→β} {l:List α} (h:∀ x,P (f x)):∀ x∈l.map f,P x:=λ x hx=>(Z7b.mp hx).elim λ a q=>q.2▸h a
theorem Zzb {row:AVal} (hn:n < 100) (h:EvE (j+1) e ν σ (strD n) σ) (hr:ν "row"=some row):EvE (j+1) (.fn "number_of" [e,(.loc "row")]) ν σ (nA n) σ:=e_fn (es2 h (Zc hr)) (Ztz hn)
end
end PL
end
section
open PySem PySem.W
namespace PL
section
variable {j:Nat} {σ:St} {ν:Fm} {e:PE} {x row:AVal} {a b:Nat} {w:CS} {ps:List (CS×Nat)}
structure Z5j (a b:Nat) (w:CS) (ps:List (CS×Nat)) (xs:List AVal):Prop where
  h1:xs[1]? = some (strD a)
  h2:xs[2]? = some (strD b)
  h3:xs[3]? = some (.str Zgc)
  h4:xs[4]? = some (.str w)
  lt:4 < xs.length
  len:xs.length≤16000
  odd:((xs.length:Nat):Int) % 2≠0
  s5:(slcI xs.length (some 5) none (some 2)).filterMap (xs[·]?)=ps.map λ p=>.str p.1
  s6:(slcI xs.length (some 6) none (some 2)).filterMap (xs[·]?)=ps.map λ p=>strD p.2
  set:∀ {j:Nat} {e:PE} {ν:Fm} {σ:St} {x:AVal},EvE j e ν σ x σ→LOf σ x (ps.map λ p=>.str p.1)→EvE j (.sset e) ν σ (.lst (ps.map λ p=>.str p.1)) σ
noncomputable def Z3i (a b:Nat) (w:CS) (ps:List (CS×Nat)):List AVal:=(Q5::decI a::decI b::Zgc::w::plW ps).map .str
theorem PlOK.rule (h:PlOK ps):Z5j a b w ps (Z3i a b w ps):=by
  cases h with
  | zero=>exact ⟨rfl,rfl,rfl,rfl,ble,ble,by show ((5:Nat):Int) % 2≠0; decide,by kernel_rfl,by kernel_rfl,Zsy⟩
  | one h=>exact ⟨rfl,rfl,rfl,rfl,ble,ble,by show ((7:Nat):Int) % 2≠0; decide,by kernel_rfl,by kernel_rfl,Zsx⟩
  | two h h2=>exact ⟨rfl,rfl,rfl,rfl,ble,ble,by show ((9:Nat):Int) % 2≠0; decide,by kernel_rfl,by kernel_rfl,Zy9⟩
theorem Zp2 {xs ys:List AVal} {k:Nat} (hl:xs.length≤16000) (h:(slcI xs.length (some (k:Int)) none (some 2)).filterMap (xs[·]?)=ys):SlcR σ (.lst xs) (.int k) .none (.int 2) (.lst ys):=h▸SlcR.lst (.lst xs) (some (k:Int)) none (some 2) (λ q=>nomatch q) hl
theorem Z2v (ps:List (CS×Nat)):SrcR σ 4 [.lst (ps.map λ p=>.str p.1),.lst (ps.map λ p=>strD p.2)] (ps.map λ p=>[.str p.1,strD p.2]) none:=by
  have h:((ps.map λ p:CS×Nat=>AVal.str p.1).zip (ps.map λ p=>strD p.2)).map (λ p=>[p.1,p.2])=ps.map λ p=>[.str p.1,strD p.2]:=by
    induction ps with
    | nil=>rfl
    | cons p ps ih=>exact Z7r (_::·) ih
  exact h▸.zip _ _
theorem Zjd {r:Reason} {xs:List AVal} (h1:a < 100) (h2:b < 100) (ew:EvE (j+1) (.loc "words") ν σ (.lst xs) σ) (er:ν "row"=some row) (ee:ν "reason"=some (Zt r)) (x1:xs[1]? = some (strD a)) (x2:xs[2]? = some (strD b)) (hl:xs.length≤16000):
    EvE (j+1) (.tup [(.cst (.str [115,97,109,101])),(.fn "number_of" [(.idx (.loc "words") (.cst (.int 1))),(.loc "row")]),(.fn "number_of" [(.idx (.loc "words") (.cst (.int 2))),(.loc "row")]),(.loc "reason")]) ν σ (rowA (.same a b r)) σ:=
  Yq (.cons Ze (es3 (Zzb h1 (Zbq ew 1 x1 hl) er) (Zzb h2 (Zbq ew 2 x2 hl) er) (Zc ee)))
theorem Zhl {xs:List AVal} (ew:EvE j e ν σ (.lst xs) σ) (hl:xs.length≤16000):EvE j (.blt "len" [e]) ν σ (nA xs.length) σ:=Yl (es1 ew) (.len (.lst (.lst _)) hl)
theorem Zl1 (h1:a < 100) (h2:b < 100) (P:PlR ps) {xs:List AVal} (X:Z5j a b w ps xs):CallR (j+2) "same_of" [.lst xs,row] σ (rowA (.same a b (.rule w ps))) σ:=by
  have hl:=X.len
  have ew:EvE (j+1) (.loc "words") (upd (upd (λ zz=>none) "words" (.lst xs)) "row" row) σ (.lst xs) σ:=e_lk
  have ew1:EvE (j+1) (.loc "words") (upd (upd (upd (λ zz=>none) "words" (.lst xs)) "row" row) "reason" (.tup [.str Zgc,.str w])) σ (.lst xs) σ:=e_lk
  have hz:LcR (j+1) none ["name","word"] [] (.tup [(.loc "name"),(.fn "number_of" [(.loc "word"),(.loc "row")])]) (upd (upd (upd (upd (λ zz=>none) "words" (.lst xs)) "row" row) "reason" (.tup [.str Zgc,.str w])) "names" (.lst (ps.map λ p=>.str p.1))) (ps.map λ p=>[.str p.1,strD p.2]) [] σ ([]++ps.map Qy) σ:=
    Zos Zl (λ p hp=>Yq (es2 (Zc (Za (Zi ..))) (Zzb (row:=row) (P.num p hp) (Zc (Zi ..)) (Za (Za (Jz (by kernel_rfl))))))) (lc0 P.len)
  refine Zg Zi2 rfl (Zb (Zn (Zhj ((Zo (Zhl ew hl) Ze (.lt xs.length 5)).eqv (Z7r AVal.bool (dF (Int.not_lt.mpr (Int.ofNat_le.mpr X.lt))))) ((Zo (Qi (Zhl ew hl) Ze (.modI _ 2 (by decide))) Ze (.eq (.int 0 _ 0) ble)).eqv (Z7r AVal.bool (dF λ q=>X.odd (by injection q)))) (Zc0 (Zzc (Zbq ew 3 X.h3 hl) rfl))))
    (Zb (Yr (Yq (es2 (Zbq ew 3 X.h3 hl) (Zbq ew 4 X.h4 hl))))
    (Zb (Zau (Zca (Zbq ew1 3 X.h3 hl) rfl) (Qj (Yr (Zbp ew1 Qb Qb Qb (Zp2 hl X.s5))) (Qj (Zn (Zo (Zc (Zi ..)) (X.set (Zc (Zi ..)) (.lst _)) (Zon (n:=0) (.lst _) (.lst _) (all_map λ zz=>.str _ _ _) ble)))
      (Qk (Yr (Qi (e_lk (v:=.tup [.str Zgc,.str w])) (Yq (es1 (Yl (es1 (Q3 (es2 (Zc (Zi ..)) (Zbp e_lk Qb Qb Qb (Zp2 hl X.s6))) (Z2v ps) hz)) (.tuple (.lst (.lst _)) (Zf (le2 P.len)))))) (.addT ble))))))) (Z0 (Zjd (row:=row) (r:=.rule w ps) h1 h2 e_lk (by kernel_rfl) (by kernel_rfl) X.h1 X.h2 hl)))))
theorem Z0y {r:Reason} (h1:a < 100) (h2:b < 100) (h:wfReason r):CallR (j+2) "same_of" [.lst ((Yg (.same a b r)).map .str),row] σ (rowA (.same a b r)) σ:=by
  cases h with
  | @told w h=>
    have ew:EvE (j+1) (.loc "words") (upd (upd (λ zz=>none) "words" (.lst [.str Q5,strD a,strD b,.str Zl3,.str w])) "row" row) σ (.lst [.str Q5,strD a,strD b,.str Zl3,.str w]) σ:=e_lk
    have ew1:EvE (j+1) (.loc "words") (upd (upd (upd (λ zz=>none) "words" (.lst [.str Q5,strD a,strD b,.str Zl3,.str w])) "row" row) "reason" (.tup [.str Zl3,.str w])) σ (.lst [.str Q5,strD a,strD b,.str Zl3,.str w]) σ:=e_lk
    exact Zg Zi2 rfl (Zb (Zn (Zhj ((Zo (Zhl ew ble) Ze (.lt (5:Nat) 5)).eqv (Z7r AVal.bool (dF (by decide)))) ((Zo (Qi (Zhl ew ble) Ze (.modI _ 2 (by decide))) Ze (.eq (.int 0 _ 0) ble)).eqv (Z7r AVal.bool (dF λ q=>by injection q with q; exact absurd (show ((5:Nat):Int) % 2=0 from q) (by decide))))
        (Jw (Z4t (Zbq ew 3 rfl ble)) (J0 (Zzc (Zbq ew 3 rfl ble) rfl) ((Zo (Zhl ew ble) Ze (.gt (5:Nat) 5)).eqv (Z7r AVal.bool (dF (by decide))))))))
      (Zb (Yr (Yq (es2 (Zbq ew 3 rfl ble) (Zbq ew 4 rfl ble)))) (Zb (Zn (Q9 (Zbq ew1 3 rfl ble))) (Z0 (Zjd (row:=row) (r:=.told w) h1 h2 ew1 (by kernel_rfl) (by kernel_rfl) rfl rfl ble)))))
  | rule h hp=>exact Zl1 h1 h2 hp.all hp.rule
theorem Ztx {r:Row} (h:J3 r):CallR (j+3) "row_of" [.str (Zq r),row] σ (rowA r) σ:=by
  have hl:((Yg r).map AVal.str).length≤16000:=Zf (Zeg h)
  have ew:EvE (j+2) (.loc "words") (upd (upd (upd (λ zz=>none) "text" (.str (Zq r))) "row" row) "words" (.lst ((Yg r).map .str))) σ (.lst ((Yg r).map .str)) σ:=e_lk
  have s1:ExS (j+2) (.asg "words" (.mth (.loc "text") "split" [(.cst (.str [32]))])) (upd (upd (λ zz=>none) "text" (.str (Zq r))) "row" row) σ .next (upd (upd (upd (λ zz=>none) "text" (.str (Zq r))) "row" row) "words" (.lst ((Yg r).map .str))) σ:=
    Yr ((Qt e_lk (.split _) (es1 Ze) (.split (Za6 h))).eqv (by rw [Zj6 h]))
  refine Zg Zvs rfl (Zb s1 ?_)
  clear s1
  cases h with
  | @add op ks h1 h2 h3=>
    have hc:LcR (j+2) none ["word"] [] (.fn "number_of" [(.loc "word"),(.loc "row")]) (upd (upd (upd (λ zz=>none) "text" (.str (Zq (.add op ks)))) "row" row) "words" (.lst ((Yg (.add op ks)).map .str))) ((ks.map strD).map λ x=>[x]) [] σ ([]++ks.map nA) σ:=
      Zdj Zl (λ k hk=>Zzb (row:=row) (j:=j+1) (h3 k hk) (Zc (Zi ..)) (Za (Jz (by kernel_rfl)))) (lc0 h2)
    have hs:SlcR σ (.lst ((Yg (.add op ks)).map .str)) (.int (2:Nat)) .none .none (.lst (ks.map strD)):=Zkg ks▸Zx1 (k:=2) (.lst _) (Z6v (Z6v (Z63 _))) hl
    exact Ql (Za4 (Jw (Zca (Zbq ew 0 rfl hl) rfl) ((Zo (Zhl ew hl) Ze (.gt _ 1)).eqv (Z7r AVal.bool (dT (Int.ofNat_lt.mpr (Nat.succ_lt_succ (Nat.succ_pos _))))))) (Zaz (Yq (es3 Ze (Zbq ew 1 rfl hl) (Yl (es1 (Q3 (es1 (Zbp ew Qb Qb Qb hs)) (.lst _) hc)) (.tuple (.lst (.lst _)) (Zf (le2 h2))))))))
  | same h1 h2 h3=>exact Zb (Zn (Zc0 (Q9 (Zbq ew 0 rfl hl)))) (Ql (Za4 (Zca (Zbq ew 0 rfl hl) rfl) (Zaz (e_fn (es2 ew e_lk) (Z0y (row:=row) h1 h2 h3)))))
  | settle=>exact Zb (Zn (Zc0 (Q9 (Zbq ew 0 rfl hl)))) (Zb (Zn (Q9 (Zbq ew 0 rfl hl))) (Zb (Zn (Zo ew (Zan (es1 Ze)) (Zon (n:=0) (.lst _) (.lst _) (all_cons (.str _ _ _) Yc) ble))) (Z0 (Yq (es1 Ze)))))
end
end PL
end
section
open PySem PySem.W
namespace PL
section
variable {n m:Nat} {nd:Nd} {H:HC}
theorem Zsb (nd:Nd):Cmpb 1 (Zr nd) (Zr nd):=Yy (all_cons (.str _ _ _) (all_map λ zz=>.int _ _ _))
theorem Zvf (n:Nat) (ks:List Nat):Cmpb (n+1) (.tup (ks.map nA)) (.tup (ks.map nA)):=Yy (all_map λ zz=>.int _ _ _)
theorem Zok (n:Nat) (p:CS×Nat):Cmpb (n+1) (Qy p) (Qy p):=Yy (all_cons (.str _ _ _) (all_cons (.int _ _ _) Yc))
theorem Za7 (r:Reason):Cmpb 3 (Zt r) (Zt r):=by
  cases r with
  | told w=>exact Yy (all_cons (.str _ _ _) (all_cons (.str _ _ _) Yc))
  | rule w ps=>exact Yy (all_cons (.str _ _ _) (all_cons (.str _ _ _) (all_cons (Yy (all_map λ p=>Zok 0 p)) Yc)))
theorem Zl6 (r:Row):Cmpb 4 (rowA r) (rowA r):=by
  cases r with
  | add op ks=>exact Yy (all_cons (.str _ _ _) (all_cons (.str _ _ _) (all_cons (Zvf 2 ks) Yc)))
  | same a b r=>exact Yy (all_cons (.str _ _ _) (all_cons (.int _ _ _) (all_cons (.int _ _ _) (all_cons (Za7 r) Yc))))
  | settle=>exact Yy (all_cons (.str _ _ _) Yc)
theorem Zub (rs:List Row):∀ x∈rs.map rowA,Cmpb 4 x x:=all_map Zl6
inductive Zr8 (H:HC):Row→Prop
  | add {op:CS} {ks:List Nat} (h:okNd H (op,ks)) (hn:Qc H (op,ks)=none):Zr8 H (.add op ks)
  | same {a b:Nat} {r:Reason} (ha:a < H.nodes.length) (hb:b < H.nodes.length) (hr:Zat H.nodes.length r):Zr8 H (.same a b r)
  | settle (h:H.waiting≠[]):Zr8 H .settle
inductive Hist:HC→Prop
  | nil:Hist Y4
  | add {H:HC} {r:Row} (h:Hist H) (hr:Zr8 H r) (hw:J3 r):Hist (doH H r)
structure DoR (H:HC) (r:Row):Prop where
  ok:Okay (doH H r)
  rows:(doH H r).rows=H.rows++[r]
  le:H.nodes.length≤(doH H r).nodes.length
theorem Zwn (O:Okay H) {r:Row} (h:Zr8 H r):DoR H r:=by
  cases h with
  | @add op ks h hn=>
    have A:=O.addH h
    have B:=O.added (Yu hn) h.two h.lt
    exact ⟨A.ok,by show (addH H (op,ks)).rows=_; rw [addH,hn]; exact Z7r (·++_) B.rows,A.ge⟩
  | @same a b r ha hb hr=>
    have M:=O.merge ha hb r
    exact ⟨M.ok,M.rows,Z62 (Z7r List.length M.nodes.symm)⟩
  | settle h=>
    have K:=O.settleW
    rw [if_neg h] at K
    exact ⟨K.ok,K.rows,Z62 (Z7r List.length K.nodes.symm)⟩
theorem Hist.okay (h:Hist H):Okay H:=by
  induction h with
  | nil=>exact Zo0
  | add _ hr _ ih=>exact (Zwn ih hr).ok
theorem Hist.wf (h:Hist H):∀ r∈H.rows,J3 r:=by
  induction h with
  | nil=>exact Yc
  | add h hr hw ih=>
    rw [(Zwn h.okay hr).rows]
    exact λ r q=>(Jq.mp q).elim (ih r) λ e=>e▸hw
end
noncomputable def Yi (rs:List Row):CS:=(rs.map λ r=>Zq r++[10]).flatten
theorem Zig {rs:List Row} (h:∀ r∈rs,J3 r):(Yi rs).length≤64*rs.length:=by
  induction rs with
  | nil=>exact Z63 _
  | cons r rs ih=>
    show ((Zq r++[10])++Yi rs).length≤_
    rw [Z69,Zd,Z7f,Nat.mul_succ,Nat.add_comm]
    exact Nat.add_le_add (ih λ q hq=>h q (Z67 _ hq)) (Z6v (Je (h r Z66)))
theorem Zkk:∀ ws:List CS,Yp [] ws=ws.flatten
  | []=>rfl
  | [w]=>(List.append_nil w).symm
  | w::v::ws=>by rw [Y7,Zkk (v::ws)]; rfl
section
variable {j st:Nat} {σ σ':St} {L L':Fld→Nat} {H H':HC} {ν:Fm} {e:PE} {es:List PE} {vs:List AVal} {v:AVal} {q m:String}
structure Out (σ:St) (L:Fld→Nat) (H:HC) (id:Nat):Prop where
  lt:id < σ.n
  ne:∀ f,act H f→L f≠id
theorem Tr.out (t:Tr σ L H σ' L' H') {id:Nat} (o:Out σ L H id):Out σ' L' H' id:=⟨Z6t o.lt t.n,λ f hf e=>(t.ids f hf).elim (λ ⟨g,hg,q⟩=>o.ne g hg (q.symm.trans e)) λ q=>absurd o.lt (Nat.not_lt.mpr (e▸q))⟩
theorem Tr.same (t:Tr σ L H σ' L' H') {id:Nat} (o:Out σ L H id):σ'.f id=σ.f id:=t.fr id o.lt o.ne
structure Sty (σ:St) (st:Nat) (L:Fld→Nat) (H:HC):Prop where
  rep:Rep σ L H
  out:Out σ L H st
  obj:σ.f st=some (.inst "Story" 1 (upd (λ zz=>none) "heap" (.ref (L .h))))
theorem Sty.step (s:Sty σ st L H) (t:Tr σ L H σ' L' H'):Sty σ' st L' H':=⟨t.rep,t.out s.out,by rw [t.same s.out,s.obj,t.top]⟩
theorem Zwj (s:Sty σ st L H) (h:EvE j e ν σ (.ref st) σ):EvE j (.att e "heap") ν σ (.ref (L .h)) σ:=Zs h s.obj
theorem Zwf (s:Sty σ st L H) (h:EvE j e ν σ (.ref st) σ):EvE j (.att (.att e "heap") "rows") ν σ (.ref (L .rows)) σ:=Zs (Zwj s h) s.rep.hobj
theorem Zcz (s:Sty σ st L H) (h:EvE j e ν σ (.ref st) σ) (hes:EvEs j ν es σ vs σ) (hc:CallR j q (.ref (L .h)::vs) σ v σ') (hm:hfm L m=none:=by kernel_rfl) (hq:Zcs.lookup ("Written",m)=some q:=by kernel_rfl) (hfa:(fnA q).isSome=true:=by kernel_rfl):EvE j (.mth (.att e "heap") m es) ν σ v σ':=Zwh (Zwj s h) s.rep.hobj hm hq hes hc hfa
theorem Q0 (s:Sty σ st L H) (h:EvE j e ν σ (.ref st) σ) (hes:EvEs j ν es σ vs σ) (hc:CallR j q (.ref st::vs) σ v σ') (hm:upd (λ zz=>none) "heap" (AVal.ref (L .h)) m=none:=by kernel_rfl) (hq:Zcs.lookup ("Story",m)=some q:=by kernel_rfl) (hfa:(fnA q).isSome=true:=by kernel_rfl):EvE j (.mth e m es) ν σ v σ':=Zwh h s.obj hm hq hes hc hfa
theorem Z0x (s:Sty σ st L H) {t v:AVal} (h:CallR j "Heap.put" [.ref (L .h),t] σ v σ'):CallR (j+1) "Story.put" [.ref st,t] σ v σ':=Zg Zmz rfl (Z0 (Zcz s e_lk (es1 e_lk) h))
theorem Zlz (s:Sty σ st L H) {a b r v:AVal} (h:CallR j "Written.merge" [.ref (L .h),a,b,r] σ v σ'):CallR (j+1) "Story.merge" [.ref st,a,b,r] σ v σ':=Zg Zh8 rfl (Z0 (Zcz s e_lk (es3 e_lk e_lk e_lk) h))
theorem Zrt (s:Sty σ st L H) {v:AVal} (h:CallR j "Written.settle" [.ref (L .h)] σ v σ'):CallR (j+1) "Story.settle" [.ref st] σ .none σ':=Zg Zgt rfl (Zb (Qa (Zcz s e_lk es0 h)) Za0)
theorem Zjz (s:Sty σ st L H) (hl:H.rows.length≤200):CallR (j+1) "Story.rows" [.ref st] σ (.lst (H.rows.map rowA)) σ:=Zg Zkx rfl (Z0 (Yl (es1 (Zwf s e_lk)) (.list (.ref s.rep.rows) (Zf (Z6p hl ble)))))
theorem Zxr (s:Sty σ st L H) (hw:∀ r∈H.rows,J3 r) (hl:H.rows.length≤200):CallR (j+2) "Story.text" [.ref st] σ (.str (Yi H.rows)) σ:=by
  have hg:LcR (j+1) (some (L .rows,H.rows.map rowA)) ["row"] [] (.bin .Add (.fn "row_text" [(.loc "row")]) (.cst (.str [10]))) (upd (λ zz=>none) "self" (.ref st)) ((H.rows.map rowA).map λ x=>[x]) [] σ ([]++H.rows.map λ r=>.str (Zq r++[10])) σ:=
    Zdj (λ p hp=>Z7g hp▸s.rep.rows) (λ r hr=>Qi (e_fn (es1 (Zc (Zi ..))) (Zru (hw r hr))) Ze (.addS (by show _+1≤_; exact Z6p (Z6v (Je (hw r hr))) ble))) (lc0 hl)
  refine Zg Zkw rfl (Z0 ((Qt Ze (.join []) (es1 (Q3 (es1 (Zwf s e_lk)) (.ref s.rep.rows) hg)) (.join (ys:=H.rows.map λ r=>Zq r++[10]) ?_ ?_ ?_ (Z63 _))).eqv ?_))
  · show List.map _ H.rows=List.map AVal.str (List.map _ H.rows); rw [List.map_map]; rfl
  · rw [Zkk]; exact Z6p (Zig hw) (Z6p (Nat.mul_le_mul_left 64 hl) ble)
  · rw [Z68]; exact Z6p hl ble
  · rw [Zkk]; rfl
end
end PL
end
section
open PySem PySem.W
namespace PL
section
variable {j st st2:Nat} {σ σ':St} {L L' L2:Fld→Nat} {H H' H2:HC} {ν ν' ν'':Fm} {r:Row}
theorem Z27 (s:Sty σ st L H) (O:Okay H) (S1:H.nodes.length≤62) (S2:H.rows.length≤190) (h:Zr8 H r):∃ σ' L',CallR (j+7) "Story.do" [.ref st,rowA r] σ .none σ'∧Tr σ L H σ' L' (doH H r):=by
  have S:Ye H:=⟨Nat.le_succ_of_le S1,Z6p S2 ble⟩
  have rr:EvE (j+6) (.loc "row") (upd (upd (λ zz=>none) "self" (.ref st)) "row" (rowA r)) σ (rowA r) σ:=e_lk
  cases h with
  | @add op ks h hn=>
    obtain ⟨σ',L',hc,t⟩:=Ztv (j:=j) s.rep O S1 S2 h
    have rr:EvE (j+6) (.loc "row") (upd (upd (λ zz=>none) "self" (.ref st)) "row" (rowA (.add op ks))) σ (.tup [.str sADD,.str op,.tup (ks.map nA)]) σ:=rr
    exact ⟨σ',L',Zg Zcx rfl (Zb (Zau (Zca (e_at rr 0 rfl ble) rfl) (Qk (Qa (Zcz s e_lk (es2 (e_at rr 1 rfl ble) (e_at rr 2 rfl ble)) hc)))) Za0),t⟩
  | @same a b r ha hb hr=>
    obtain ⟨σ',L',hc,t⟩:=Zf3 (j:=j) s.rep O S S2 hr ha hb
    have rr:EvE (j+6) (.loc "row") (upd (upd (λ zz=>none) "self" (.ref st)) "row" (rowA (.same a b r))) σ (.tup [.str Q5,nA a,nA b,Zt r]) σ:=rr
    exact ⟨σ',L',Zg Zcx rfl (Zb (Zio (Q9 (e_at rr 0 rfl ble)) (Qk (Zau (Zca (e_at rr 0 rfl ble) rfl) (Qk (Qa (Zcz s e_lk (es3 (e_at rr 1 rfl ble) (e_at rr 2 rfl ble) (e_at rr 3 rfl ble)) hc)))))) Za0),t⟩
  | settle h=>
    obtain ⟨σ',L',hc,t⟩:=Zik (j:=j) s.rep O S S2
    have rr:EvE (j+6) (.loc "row") (upd (upd (λ zz=>none) "self" (.ref st)) "row" (rowA .settle)) σ (.tup [.str Za5]) σ:=rr
    exact ⟨σ',L',Zg Zcx rfl (Zb (Zio (Q9 (e_at rr 0 rfl ble)) (Qk (Zio (Q9 (e_at rr 0 rfl ble)) (Qk (Qa (Zcz s e_lk es0 hc)))))) Za0),t⟩
noncomputable def Zjo (H H2:HC):AVal:=if H.rows.length=H2.rows.length then .int (-1) else nA (min H.rows.length H2.rows.length)
structure Rows2 (H H2:HC):Prop where
  l1:H.rows.length≤200
  l2:H2.rows.length≤200
  same:∀ (k:Nat) (r r2:Row),H.rows[k]? = some r→H2.rows[k]? = some r2→r=r2
theorem Z1m (a b:Nat):(min (a:Int) b)=((min a b:Nat):Int):=by
  by_cases h:a≤b
  · rw [Nat.min_eq_left h,Int.min_eq_left (Int.ofNat_le.mpr h)]
  · have h:=Z64 (Nat.not_le.mp h); rw [Nat.min_eq_right h,Int.min_eq_right (Int.ofNat_le.mpr h)]
theorem Z4u {a b:Nat} {e1 e2:PE} (h1:EvE j e1 ν σ (nA a) σ) (h2:EvE j e2 ν σ (nA b) σ):EvE j (.blt "min" [e1,e2]) ν σ (nA (min a b)) σ:=(Yl (es2 h1 h2) (.min a b)).eqv (Z7r AVal.int (Z1m a b))
theorem Zd3 {e:PE} {α:Type} {l:List α} {f:α→AVal} (he:EvE j e ν σ (.lst (l.map f)) σ) (hl:l.length≤16000):EvE j (.blt "len" [e]) ν σ (nA l.length) σ:=(Zhl he (Zf hl)).eqv (by rw [Z68])
theorem Zj1 (s:Sty σ st L H) (s2:Sty σ st2 L2 H2) (T:Rows2 H H2):CallR (j+2) "Story.alike_with" [.ref st,.ref st2] σ (Zjo H H2) σ:=by
  have la:H.rows.length≤16000:=Z6p T.l1 ble
  have lb:H2.rows.length≤16000:=Z6p T.l2 ble
  obtain ⟨ν',hf,p1,p2⟩:=Zkt (j:=j+1) (σ:=σ) (b:=[(.ifs (.cmp .NotEq (.idx (.loc "mine") (.loc "k")) (.idx (.loc "late") (.loc "k"))) [(.ret (.loc "k"))] [])]) (x:="k") (p:=nA) (l:=List.range (min H.rows.length H2.rows.length)) (P:=λ ν=>ν "mine"=some (.lst (H.rows.map rowA))∧ν "late"=some (.lst (H2.rows.map rowA)))
    (λ ν v h=>⟨Za h.1,Za h.2⟩) (λ k hk ν h=>by
      have hk':=Nat.lt_min.mp (List.mem_range.mp hk)
      obtain ⟨r,hr⟩:=Zib hk'.1
      obtain ⟨r2,hr2⟩:=Zib hk'.2
      rw [← T.same k r r2 hr hr2] at hr2
      exact Qk (Zn (Zo (Ys (Zc (Za h.1)) (Zc (Zi ..)) (.lst (.lst _) (Zfi hr) (Zf la))) (Ys (Zc (Za h.2)) (Zc (Zi ..)) (.lst (.lst _) (Zfi hr2) (Zf lb))) (Zem (Zl6 r) ble))))
    (ν:=upd (upd (upd (upd (λ zz=>none) "self" (.ref st)) "other" (.ref st2)) "mine" (.lst (H.rows.map rowA))) "late" (.lst (H2.rows.map rowA))) ⟨by kernel_rfl,by kernel_rfl⟩
  rw [← Zai] at hf
  refine Zg Zcy rfl (Zb (Zoh (Yq (es2 (Q0 s e_lk es0 (Zjz s T.l1)) (Q0 s2 e_lk es0 (Zjz s2 T.l2)))) (.tup _) rfl) (Zb (Zhz (es1 (Z4u (Zd3 (f:=rowA) (l:=H.rows) e_lk la) (Zd3 (f:=rowA) (l:=H2.rows) e_lk lb))) (.rng (Z6p (Nat.min_le_left ..) la)) hf) (Z0 ?_)))
  unfold Zjo
  by_cases h:H.rows.length=H2.rows.length
  · rw [if_pos h]
    exact Zd4 ((Zo (Zd3 (Zc p1) la) (Zd3 (Zc p2) lb) (.eq (.int 0 _ _) ble)).eqv (Z7r AVal.bool (dT (by rw [h])))) (Zpe Ze)
  · rw [if_neg h]
    exact Zd5 ((Zo (Zd3 (Zc p1) la) (Zd3 (Zc p2) lb) (.eq (.int 0 _ _) ble)).eqv (Z7r AVal.bool (dF λ q=>h (Ze3 q)))) (Z4u (Zd3 (Zc p1) la) (Zd3 (Zc p2) lb))
structure NewS (j:Nat) (σ:St) (σ':St) (L:Fld→Nat):Prop where
  ev:∀ ν,EvE j (.cls "Story" []) ν σ (.ref σ.n) σ'
  sty:Sty σ' σ.n L Y4
  n:σ.n≤σ'.n
  ge:∀ f,act Y4 f→σ.n≤L f
  old:∀ id,id < σ.n→σ'.f id=σ.f id
theorem Z1h {b i k:Nat} {f:Fld} (hb:k < b) (hi:k < i) (hf:act Y4 f):k < newL b i f:=by
  rcases Zvu f with q | q
  · rw [q]; exact hb
  · rw [Zby hf q]; exact Z6t hi (Z6r _ _)
theorem Zra (j:Nat) (σ:St):∃ σ' L,NewS (j+4) σ σ' L:=by
  obtain ⟨σ3,W⟩:=Zxn (j:=j) (σ:=J6 (J6 σ "Story") "Written") (b:=σ.n+1) (Z6z _) (Yz ..)
  have lt2:σ.n < σ.n+2:=Nat.lt_succ_of_lt (Z6z _)
  have ne1:∀ id,id < σ.n→(J6 (J6 σ "Story") "Written").f id=σ.f id:=λ id h=>(Y3 (σ:=J6 σ "Story") (Nat.lt_succ_of_lt h)).trans (Y3 h)
  have f3:σ3.f σ.n=some (.inst "Story" 0 λ zz=>none):=(W.old σ.n lt2 (Nat.ne_of_lt (Z6z _))).trans ((Y3 (σ:=J6 σ "Story") (Z6z _)).trans (Yz ..))
  have hout:∀ f,act Y4 f→σ.n < newL (σ.n+1) (σ.n+2) f:=λ f hf=>Z1h (Z6z _) lt2 hf
  have hs:ExS (j+3) (.sat (.loc "self") "heap" (.cls "Written" [])) (upd (λ zz=>none) "self" (.ref σ.n)) (J6 σ "Story") .next _ _:=Z03 (Z15 (q:="Written.__init__") (by kernel_rfl) es0 W.call) (Zc (Za3 _)) f3
  have hlt:σ.n < σ3.n:=by rw [W.n]; exact Z6t lt2 (Z6r _ _)
  exact ⟨_,_,λ ν=>Z15 (q:="Story.__init__") (by kernel_rfl) es0 (Zg Zky rfl (Zb hs Za0)),
    ⟨⟨W.rep.inj,W.rep.lt,λ f hf=>(Zw (Nat.ne_of_gt (hout f hf))).trans (W.rep.val f hf)⟩,⟨hlt,λ f hf=>Nat.ne_of_gt (hout f hf)⟩,Yk ..⟩,Z64 hlt,λ f hf=>Z64 (hout f hf),
    λ id hid=>(Zw (Nat.ne_of_lt hid)).trans ((W.old id (Nat.lt_trans hid lt2) (Nat.ne_of_lt (Nat.lt_succ_of_lt hid))).trans (ne1 id hid))⟩
end
end PL
end
section
open PySem PySem.W
namespace PL
section
variable {j st:Nat} {σ σ1 σ2 σ':St} {L L':Fld→Nat} {H:HC} {ν ν' ν'':Fm} {g:Option (Nat×List AVal)} {names:List String} {b:List PS} {f f0:Flw}
theorem ForR.append {xs ys:List (List AVal)} (h:ForR j g names b xs ν σ f0 ν' σ1) (h0:f0=.next) (h2:ForR j g names b ys ν' σ1 f ν'' σ2):ForR j g names b (xs++ys) ν σ f ν'' σ2:=by
  induction h with
  | nil _=>exact h2
  | turn hst hb h _ ih=>exact .turn hst hb h (ih h0 h2)
  | ret _ _ _=>exact nomatch h0
noncomputable def Zx6:List PS:=[(.asg "row" (.fn "row_of" [(.loc "line"),(.loc "k")])),(.trys [(.exp (.mth (.loc "story") "do" [(.loc "row")]))]),(.ifs (.cmp .NotEq (.blt "len" [(.att (.att (.loc "story") "heap") "rows")]) (.bin .Add (.loc "k") (.cst (.int 1)))) [.any] [])]
noncomputable def Zr7 (rs:List Row):List (List AVal):=rs.zipIdx.map λ p=>[nA p.2,.str (Zq p.1)]
theorem Zr6 (rs:List Row) (r:Row):Zr7 (rs++[r])=Zr7 rs++[[nA rs.length,.str (Zq r)]]:=by
  rw [Zr7,List.zipIdx_append,List.map_append,Nat.zero_add]; rfl
theorem Zud (h:Hist H):H.nodes.length≤62→H.rows.length≤190→∀ {σ:St} {L:Fld→Nat} {st:Nat} {ν:Fm},Sty σ st L Y4→ν "story"=some (.ref st)→
    ∃ ν' σ' L',ForR (j+7) none ["k","line"] Zx6 (Zr7 H.rows) ν σ .next ν' σ'∧Tr σ L Y4 σ' L' H∧ν' "story"=some (.ref st):=by
  induction h with
  | nil=>intro zz zz σ L st ν s hν; exact ⟨ν,σ,L,.nil Zl,Tr.refl s.rep,hν⟩
  | @add H r h hr hw ih=>
    intro b1 b2 σ L st ν s hν
    have D:=Zwn h.okay hr
    have er:(doH H r).rows.length=H.rows.length+1:=by rw [D.rows,Zd]
    have b2':H.rows.length≤190:=Z61 (show H.rows.length+1≤190 by rw [← er]; exact b2)
    obtain ⟨ν1,σ1,L1,f1,t1,n1⟩:=ih (Z6p D.le b1) b2' s hν
    have s1:=s.step t1
    obtain ⟨σ2,L2,hdo,t2⟩:=Z27 (j:=j) s1 h.okay (Z6p D.le b1) b2' hr
    have s2:=s1.step t2
    have nS:upd (upd (upd ν1 "k" (nA H.rows.length)) "line" (.str (Zq r))) "row" (rowA r) "story"=some (.ref st):=Za (Za (Za n1))
    refine ⟨_,σ2,L2,?_,t1.trans t2,nS⟩
    rw [D.rows,Zr6]
    refine f1.append rfl (.turn Zl rfl (Qj (Yr (e_fn (es2 (Zc (Zi ..)) (Zc (Za (Zi ..)))) (Ztx (j:=j+4) hw))) (Qj (Z5r (Qk (Qa (Q0 s1 (Zc nS) (es1 (Zc (Zi ..))) hdo)))) (Qk (Zn (Zo ((Yl (es1 (Zwf s2 (Zc nS))) (.len (.lst (.ref s2.rep.rows)) (Zf (Z6p b2 ble)))).eqv (w:=nA (H.rows.length+1)) (by rw [Z68,er])) (Qi (Zc (v:=nA H.rows.length) (Za (Za (Zi ..)))) Ze (.addI _ 1)) ((CmpR.ne (.int 0 _ _) ble).eqv (nT rfl))))))) (.nil Zl))
theorem Zrp (rs:List Row):Yi rs=[]∨∃ s,Yi rs=s++[10]:=by
  rcases List.eq_nil_or_concat rs with rfl | ⟨rs,r,rfl⟩
  · exact .inl rfl
  · refine .inr ⟨Yi rs++Zq r,?_⟩
    rw [List.concat_eq_append,Yi,List.map_append,List.flatten_append,Z7d]
    exact Z7r (Yi rs++·) (List.append_nil _)
structure Z2q (j:Nat) (σ:St) (H:HC) (σ':St) (st:Nat) (L:Fld→Nat):Prop where
  call:CallR j "read_story" [.str (Yi H.rows)] σ (.ref st) σ'
  sty:Sty σ' st L H
  n:σ.n≤σ'.n
  old:∀ id,id < σ.n→σ'.f id=σ.f id
  st:σ.n≤st
  ge:∀ f,act H f→σ.n≤L f
theorem Z0z (h:Hist H) (b1:H.nodes.length≤62) (b2:H.rows.length≤190):∃ σ' st' L',Z2q (j+8) σ H σ' st' L':=by
  have hlen:(Yi H.rows).length≤16000:=Z6p (Zig h.wf) (Z6p (Nat.mul_le_mul_left 64 b2) ble)
  obtain ⟨σ1,L1,S1⟩:=Zra (j+3) σ
  obtain ⟨ν',σ2,L2,hf,t,ns'⟩:=Zud (j:=j) h b1 b2 S1.sty (ν:=upd (upd (λ zz=>none) "text" (.str (Yi H.rows))) "story" (.ref σ.n)) (Zi ..)
  have et:EvE (j+7) (.loc "text") (upd (upd (λ zz=>none) "text" (.str (Yi H.rows))) "story" (.ref σ.n)) σ1 (.str (Yi H.rows)) σ1:=e_lk
  have hsp:Zu 10 (Yi H.rows)=H.rows.map Zq++[[]]:=by
    have:Yi H.rows=((H.rows.map Zq).map (·++[10])).flatten:=by rw [List.map_map]; rfl
    rw [this,Zf2]
    exact λ w hw=>(Z7b.mp hw).elim λ r q=>q.2▸Zl5 (h.wf r q.1)
  have e1:EvE (j+7) (.slc (.mth (.loc "text") "split" [(.cst (.str [10]))]) (.cst .none) (.neg (.cst (.int 1))) (.cst .none)) (upd (upd (λ zz=>none) "text" (.str (Yi H.rows))) "story" (.ref σ.n)) σ1 (.lst ((H.rows.map Zq).map .str)) σ1:=by
    refine (Zbp (Qt et (.split _) (es1 Ze) (.split hlen)) Qb ⟨Zpe Ze,λ sc q=>?_⟩ Qb (Zx0 (.lst _) ?_)).eqv ?_
    · exact nomatch q
    · rw [hsp,Z68,Zd,Z68]; exact Z6p (Z6v b2) ble
    · rw [hsp,List.map_append]; exact Z7r AVal.lst List.dropLast_concat
  have hz:SrcR σ1 3 [.lst ((H.rows.map Zq).map .str)] (Zr7 H.rows) none:=by
    have:((H.rows.map Zq).map AVal.str).zipIdx.map (λ p=>[AVal.int (p.2:Nat),p.1])=Zr7 H.rows:=by
      rw [List.map_map,List.zipIdx_map,List.map_map]; rfl
    exact this▸.enu _
  refine ⟨σ2,σ.n,L2,Zg Zku rfl (Zb (Yr (S1.ev _)) (Zb (Zn ?_) (Zb (Zhz (es1 e1) hz hf) (Z0 (Zc ns'))))),S1.sty.step t,Z6p S1.n t.n,
    λ id hid=>(t.fr id (Z6t hid S1.n) λ f hf e=>absurd (S1.ge f hf) (Nat.not_le.mpr (e▸hid))).trans (S1.old id hid),Z6q _,λ f hf=>(t.ids f hf).elim (λ ⟨g,hg,e⟩=>e▸S1.ge g hg) λ e=>Z6p S1.n e⟩
  rcases Zrp H.rows with e | ⟨s,e⟩
  · exact Zc0 (Zzc et e)
  · rw [e] at hlen et ⊢
    exact Jw (Z4t et (List.append_ne_nil_of_right_ne_nil _ (List.cons_ne_nil _ _))) (Zzc (Ys et (Zpe Ze) (.last (by rw [Zd] at hlen; exact Z61 hlen))) rfl)
end
end PL
end
section
open PySem PySem.W
namespace PL
noncomputable def Zua:CS:=[99,101,108,108,115]
noncomputable def Zl4:CS:=[115,112,111,116]
noncomputable def Zvy (cells:List Int) (spot:Nat):List (AVal×AVal):=[(.str Zua,.lst (cells.map .int)),(.str Zl4,nA spot)]
noncomputable def J9 (cells:List Int) (spot:Nat):AObj:=.dict (Zvy cells spot)
structure Fed (σ:St) (fd:Nat) (cells:List Int) (s:Nat) (σ':St):Prop where
  n:σ'.n=σ.n
  feed:σ'.f fd=some (J9 cells s)
  old:∀ id,id≠fd→σ'.f id=σ.f id
section
variable {j fd spot s s2 w:Nat} {σ σ1 σ2 σ':St} {cells:List Int} {ν:Fm} {k:CS} {e1 e2:PE} {a b:Nat}
theorem Fed.trans (h:Fed σ fd cells s σ1) (h2:Fed σ1 fd cells s2 σ2):Fed σ fd cells s2 σ2:=⟨h2.n.trans h.n,h2.feed,λ id q=>(h2.old id q).trans (h.old id q)⟩
theorem Zk3:Zdn (Zvy cells spot) (.str k):=⟨rfl,all_cons rfl (all_cons rfl Yc)⟩
theorem Zex:AVal.str Zua≠.str Zl4:=λ q=>by injection q with q; exact absurd q (by decide)
theorem Zna:kget (Zvy cells spot) (.str Zl4)=some (nA spot):=(Zdm Zex).trans (Zfv rfl)
theorem Zy5:kset (Zvy cells spot) (.str Zl4) (nA (spot+1))=Zvy cells (spot+1):=by
  rw [kset,if_pos (by rw [Zna]; rfl)]
  show [(if AVal.str Zua=.str Zl4 then (_,nA (spot+1)) else _),(if AVal.str Zl4=.str Zl4 then (AVal.str Zl4,nA (spot+1)) else _)]=_
  rw [if_neg Zex,if_pos rfl]; rfl
theorem Znk (h1:EvE j e1 ν σ (nA a) σ1) (h2:EvE j e2 ν σ1 (nA b) σ2):EvE j (.bin .Add e1 e2) ν σ (nA (a+b)) σ2:=(Qi h1 h2 (.addI a b)).eqv rfl
theorem Zrb (h1:EvE j e1 ν σ (nA a) σ1) (h2:EvE j e2 ν σ1 (nA b) σ2) (ha:a≤100000):EvE j (.bin .Mult e1 e2) ν σ (nA (a*b)) σ2:=(Qi h1 h2 (.mulI a b ⟨Int.lt_of_lt_of_le (by decide) (Int.natCast_nonneg a),Int.lt_of_le_of_lt (Int.ofNat_le.mpr ha) (by decide)⟩)).eqv rfl
theorem Zwd (h1:EvE j e1 ν σ (nA a) σ1) (h2:EvE j e2 ν σ1 (nA b) σ2) (h:b≤a):EvE j (.bin .Sub e1 e2) ν σ (nA (a-b)) σ2:=(Qi h1 h2 (.subI a b)).eqv (Z7r AVal.int (Int.ofNat_sub h).symm)
theorem Z0k {c:Int} (h1:EvE j e1 ν σ (.int c) σ1) (h2:EvE j e2 ν σ1 (nA w) σ2) (hw:0 < w):∃ d,d < w∧EvE j (.bin .Mod e1 e2) ν σ (nA d) σ2:=by
  have hw':(0:Int) < w:=Int.natCast_pos.mpr hw
  obtain ⟨d,hd⟩:=Int.eq_ofNat_of_zero_le (Int.emod_nonneg c (Int.ne_of_gt hw'))
  exact ⟨d,Int.ofNat_lt.mp (hd▸Int.emod_lt_of_pos c hw'),(Qi h1 h2 (.modI c w hw')).eqv (Z7r AVal.int hd)⟩
structure Z6o (j:Nat) (σ:St) (fd:Nat) (cells:List Int) (spot w d:Nat) (σ':St):Prop where
  lt:d < w
  call:CallR j "_law_draw" [.ref fd,nA w] σ (nA d) σ'
  fed:Fed σ fd cells (spot+1) σ'
theorem Qg (hf:σ.f fd=some (J9 cells spot)) (hw:0 < w) (hs:spot≤10000) (hc:cells.length≤40):∃ d σ',Z6o (j+1) σ fd cells spot w d σ':=by
  have hl:cells.length≤16000:=Z6p hc ble
  have fed:Fed σ fd cells (spot+1) (σ.put fd (J9 cells (spot+1))):=⟨rfl,Yk ..,λ id q=>Zw q⟩
  have s1:ExS j (.unp ["cells","spot"] (.tup [(.idx (.loc "feed") (.cst (.str [99,101,108,108,115]))),(.idx (.loc "feed") (.cst (.str [115,112,111,116])))])) (upd (upd (λ zz=>none) "feed" (.ref fd)) "wide" (nA w)) σ .next (upd (upd (upd (upd (λ zz=>none) "feed" (.ref fd)) "wide" (nA w)) "cells" (.lst (cells.map .int))) "spot" (nA spot)) σ:=
    Zoh (Yq (es2 (Ys e_lk Ze (.dict hf Zk3 (Zfv rfl))) (Ys e_lk Ze (.dict hf Zk3 Zna)))) (.tup _) rfl
  have s2:ExS j (.six (.loc "feed") (.cst (.str [115,112,111,116])) (.bin .Add (.loc "spot") (.cst (.int 1)))) (upd (upd (upd (upd (λ zz=>none) "feed" (.ref fd)) "wide" (nA w)) "cells" (.lst (cells.map .int))) "spot" (nA spot)) σ .next (upd (upd (upd (upd (λ zz=>none) "feed" (.ref fd)) "wide" (nA w)) "cells" (.lst (cells.map .int))) "spot" (nA spot)) (σ.put fd (J9 cells (spot+1))):=
    Zt9 (Znk (a:=spot) (b:=1) e_lk Ze) e_lk Ze (SixR.eqv (.dict hf Zk3 ble) (Z7r AObj.dict Zy5))
  have en:∀ {σ:St},EvE j (.blt "len" [(.loc "cells")]) (upd (upd (upd (upd (λ zz=>none) "feed" (.ref fd)) "wide" (nA w)) "cells" (.lst (cells.map .int))) "spot" (nA spot)) σ (nA cells.length) σ:=λ {σ}=>Zd3 (f:=.int) e_lk hl
  have ep:∀ {σ:St},EvE j (.loc "spot") (upd (upd (upd (upd (λ zz=>none) "feed" (.ref fd)) "wide" (nA w)) "cells" (.lst (cells.map .int))) "spot" (nA spot)) σ (nA spot) σ:=λ {σ}=>e_lk
  have ew:∀ {σ:St},EvE j (.loc "wide") (upd (upd (upd (upd (λ zz=>none) "feed" (.ref fd)) "wide" (nA w)) "cells" (.lst (cells.map .int))) "spot" (nA spot)) σ (nA w) σ:=λ {σ}=>e_lk
  by_cases h:spot < cells.length
  · obtain ⟨c,hc'⟩:=Zib h
    obtain ⟨d,hd,hm⟩:=Z0k (σ:=σ.put fd (J9 cells (spot+1))) (Yl (es1 (Ys e_lk ep (.lst (.lst (cells.map .int)) (Zfi hc') (Zf hl)))) (.intI c)) ew hw
    exact ⟨d,_,hd,Zg Ze6 rfl (Zb s1 (Zb s2 (Ql (Za4 ((Zo ep en (.lt _ _)).eqv (Z7r AVal.bool (dT (Int.ofNat_lt.mpr h)))) (Zaz hm))))),fed⟩
  · have h3:3*spot≤100000:=Z6p (Nat.mul_le_mul_left 3 hs) ble
    obtain ⟨d,hd,hm⟩:=Z0k (σ:=σ.put fd (J9 cells (spot+1))) (Qi (Znk (Znk (Zrb (Zrb (Ze (v:=nA 3)) ep ble) ep h3) (Zrb (Ze (v:=nA 7)) ep ble)) (Zrb (Ze (v:=nA 5)) en ble)) (Ze (v:=.int 97)) (.modI _ 97 (by decide))) ew hw
    exact ⟨d,_,hd,Zg Ze6 rfl (Zb s1 (Zb s2 (Zb (Zn ((Zo ep en (.lt _ _)).eqv (Z7r AVal.bool (dF (Int.not_lt.mpr (Int.ofNat_le.mpr (Nat.le_of_not_lt h))))))) (Z0 hm)))),fed⟩
inductive LwT:Nat→Tm→Prop
  | a (d:Nat):LwT d (.leaf [97])
  | b (d:Nat):LwT d (.leaf [98])
  | f {d:Nat} {t:Tm} (h:LwT d t):LwT (d+1) (.one [102] t)
  | g {d:Nat} {t u:Tm} (h:LwT d t) (h2:LwT d u):LwT (d+1) (.two [103] t u)
noncomputable def cnt (d:Nat):Nat:=@Nat.rec (λ zz=>Nat) 1 (λ zz c=>c+c+1) d
structure Z6i (j:Nat) (σ:St) (fd:Nat) (cells:List Int) (spot d:Nat) (t:Tm) (s:Nat) (σ':St):Prop where
  ok:LwT d t
  le:s≤spot+cnt d
  call:CallR j "_law_term" [.ref fd,nA d] σ (tmA t) σ'
  fed:Fed σ fd cells s σ'
theorem Zlt {d:Nat} (hw:w < 2) (nw:ν "way"=some (nA w)):∃ t,LwT d t∧∀ σ,ExS j (.ifs (.cmp .Lt (.loc "way") (.cst (.int 2))) [(.ret (.tup [(.idx (.lst [(.cst (.str [97])),(.cst (.str [98]))]) (.loc "way"))]))] []) ν σ (.ret (tmA t)) ν σ:=by
  have hc:∀ σ,EvE j (.cmp .Lt (.loc "way") (.cst (.int 2))) ν σ (.bool true) σ:=λ σ=>(Zo (Zc nw) Ze (.lt w 2)).eqv (Z7r AVal.bool (dT (Int.ofNat_lt.mpr hw)))
  rcases Nat.lt_or_eq_of_le (Z65 hw) with h | h
  · rw [Nat.lt_one_iff.mp h] at nw
    exact ⟨_,.a d,λ σ=>Za4 (hc σ) (Zaz (Yq (es1 (Ys (Zan (es2 Ze Ze)) (Zc nw) (.lst (k:=0) (.lst _) rfl ble)))))⟩
  · rw [h] at nw
    exact ⟨_,.b d,λ σ=>Za4 (hc σ) (Zaz (Yq (es1 (Ys (Zan (es2 Ze Ze)) (Zc nw) (.lst (k:=1) (.lst _) rfl ble)))))⟩
end
end PL
end
section
open PySem PySem.W
namespace PL
section
variable {j fd spot s s2 w d:Nat} {σ σ1 σ2 σ':St} {cells:List Int} {ν:Fm} {tv:List AVal} {op:CS}
theorem Zte (h:¬w < 2) (h4:w < 4):w=2∨w=3:=by lia
def Z5h (j:Nat) (ν:Fm) (n:Nat) (σ:St) (tv:List AVal) (σ':St):Prop:=LcR j none ["turn"] [] (.fn "_law_term" [(.loc "feed"),(.bin .Sub (.loc "deep") (.cst (.int 1)))]) ν ((List.range n).map λ (i:Nat)=>[AVal.int i]) [] σ tv σ'
theorem Zwc {x:AVal} {t:AVal} (hf:ν "feed"=some (.ref fd)) (hd:ν "deep"=some (nA (d+1))) (h:CallR j "_law_term" [.ref fd,nA d] σ t σ'):EvE j (.fn "_law_term" [(.loc "feed"),(.bin .Sub (.loc "deep") (.cst (.int 1)))]) (upd (hide ν) "turn" x) σ t σ':=
  e_fn (es2 (Zc (Za (Jz hf))) (Zwd (a:=d+1) (b:=1) (Zc (Za (Jz hd))) Ze (Z6s 1 d))) h
theorem Z0h {k:Nat} (nw:ν "way"=some (nA (k+2))) (hop:[AVal.str [102],.str [103]][k]? = some (.str op)) (hk:k+1≤2) (ht:Z5h j ν (k+1) σ tv σ') (hl:tv.length≤2):
    EvE j (.bin .Add (.tup [(.idx (.lst [(.cst (.str [102])),(.cst (.str [103]))]) (.bin .Sub (.loc "way") (.cst (.int 2))))]) (.blt "tuple" [(.comp (.fn "_law_term" [(.loc "feed"),(.bin .Sub (.loc "deep") (.cst (.int 1)))]) ["turn"] 2 [(.bin .Sub (.loc "way") (.cst (.int 1)))] [])])) ν σ (.tup (.str op::tv)) σ':=
  Qi (Yq (es1 (Ys (Zan (es2 Ze Ze)) (Zwd (b:=2) (Zc nw) Ze (Z6s 2 k)) (.lst (.lst _) hop ble)))) (Yl (es1 (Q3 (es1 (Zwd (b:=1) (Zc nw) Ze (Z6s 1 (k+1)))) (.rng (Z6p hk ble)) ht)) (.tuple (.lst (.lst _)) (le2 hl))) (.addT (x:=[.str op]) (Z6p (Z6w hl 1) ble))
theorem Z0w (hc:cells.length≤40) (d:Nat):∀ {σ:St} {spot:Nat},σ.f fd=some (J9 cells spot)→spot+cnt d≤10000→∃ t s σ',Z6i (j+d+2) σ fd cells spot d t s σ':=by
  induction d with
  | zero=>
    intro σ spot hf hs
    obtain ⟨w,σ1,D⟩:=Qg (j:=j) hf (w:=2) ble (Z61 hs) hc
    obtain ⟨t,ht,hl⟩:=Zlt (j:=j+1) (d:=0) (ν:=upd (upd (upd (λ zz=>none) "feed" (.ref fd)) "deep" (nA 0)) "way" (nA w)) D.lt (Zi ..)
    exact ⟨t,spot+1,σ1,ht,Z6q _,Zg Jt rfl (Zb (Yr (Zd5 ((Zo e_lk Ze (.gt (0:Nat) 0)).eqv (Z7r AVal.bool (dF (by decide)))) (e_fn (es2 e_lk Ze) D.call))) (Ql (hl σ1))),D.fed⟩
  | succ d ih=>
    intro σ spot hf hs
    have hs:spot+(cnt d+cnt d)+1≤10000:=hs
    have hcn:spot+1+cnt d+cnt d≤10000:=by rw [Z60 spot 1,Nat.add_comm 1,← Z60,Nat.add_right_comm,Z60 spot]; exact hs
    have le1:spot+1+cnt d+cnt d≤spot+cnt (d+1):=by rw [Z60 spot 1,Nat.add_comm 1,← Z60,Nat.add_right_comm,Z60 spot]; exact Z6q _
    obtain ⟨w,σ1,D⟩:=Qg (j:=j+d+1) hf (w:=4) ble (Z61 (Z6p (Z6r _ _) (Z6p (Z6r _ _) hcn))) hc
    have st1:ExS (j+d+2) (.asg "way" (.cond (.cmp .Gt (.loc "deep") (.cst (.int 0))) (.fn "_law_draw" [(.loc "feed"),(.cst (.int 4))]) (.fn "_law_draw" [(.loc "feed"),(.cst (.int 2))]))) (upd (upd (λ zz=>none) "feed" (.ref fd)) "deep" (nA (d+1))) σ .next (upd (upd (upd (λ zz=>none) "feed" (.ref fd)) "deep" (nA (d+1))) "way" (nA w)) σ1:=
      Yr (Zd4 ((Zo e_lk Ze (.gt (d+1:Nat) 0)).eqv (Z7r AVal.bool (dT (Int.natCast_pos.mpr (Nat.succ_pos d))))) (e_fn (es2 e_lk Ze) D.call))
    by_cases h2:w < 2
    · obtain ⟨t,ht,hl⟩:=Zlt (j:=j+d+2) (d:=d+1) (ν:=upd (upd (upd (λ zz=>none) "feed" (.ref fd)) "deep" (nA (d+1))) "way" (nA w)) h2 (Zi ..)
      exact ⟨t,spot+1,σ1,ht,Z6p (Z6p (Z6r _ _) (Z6r _ _)) le1,Zg Jt rfl (Zb st1 (Ql (hl σ1))),D.fed⟩
    · have sk:ExS (j+d+2) (.ifs (.cmp .Lt (.loc "way") (.cst (.int 2))) [(.ret (.tup [(.idx (.lst [(.cst (.str [97])),(.cst (.str [98]))]) (.loc "way"))]))] []) (upd (upd (upd (λ zz=>none) "feed" (.ref fd)) "deep" (nA (d+1))) "way" (nA w)) σ1 .next (upd (upd (upd (λ zz=>none) "feed" (.ref fd)) "deep" (nA (d+1))) "way" (nA w)) σ1:=
        Zn ((Zo e_lk Ze (.lt w 2)).eqv (Z7r AVal.bool (dF (Int.not_lt.mpr (Int.ofNat_le.mpr (Nat.le_of_not_lt h2))))))
      obtain ⟨t1,s1,σ2,T1⟩:=ih D.fed.feed (Z6p (Z6r _ _) hcn)
      rcases Zte h2 D.lt with rfl | rfl
      · exact ⟨_,s1,σ2,.f T1.ok,Z6p T1.le (Z6p (Z6r _ _) le1),Zg Jt rfl (Zb st1 (Zb sk (Z0 (Z0h (k:=0) (by kernel_rfl) rfl ble (.keep Zl rfl (.nil _) (Zwc (by kernel_rfl) (by kernel_rfl) T1.call) ble (.nil Zl)) (Nat.le_succ 1))))),D.fed.trans T1.fed⟩
      · obtain ⟨t2,s2,σ3,T2⟩:=ih T1.fed.feed (Z6p (Z6x T1.le _) hcn)
        exact ⟨_,s2,σ3,.g T1.ok T2.ok,Z6p T2.le (Z6p (Z6x T1.le _) le1),Zg Jt rfl (Zb st1 (Zb sk (Z0 (Z0h (k:=1) (by kernel_rfl) rfl ble (.keep Zl rfl (.nil _) (Zwc (by kernel_rfl) (by kernel_rfl) T1.call) ble (.keep Zl rfl (.nil _) (Zwc (by kernel_rfl) (by kernel_rfl) T2.call) ble (.nil Zl))) (Z6q 2))))),(D.fed.trans T1.fed).trans T2.fed⟩
end
end PL
end
section
open PySem PySem.W
namespace PL
noncomputable def okWB (w:CS):Bool:=w != []&&(Nat.ble w.length 5&&w.all λ c=>Nat.blt c 128&&(!Zbz c&&!Zrh.contains c))
theorem not_true {b:Bool} (h:(!b)=true):b=false:=by rw [Bool.not_eq_true'] at h; exact h
theorem Qo {w:CS} (h:okWB w=true):okW w:=by
  have h1:=(and2 h).1
  have h:=(and2 h).2
  have h2:=(and2 h).1
  have h3:=(and2 h).2
  exact ⟨⟨bne_iff_ne.mp h1,Z6p (Z6y h2) ble,λ c hc=>have ⟨q1,q2⟩:=and2 (List.all_eq_true.mp h3 c hc); ⟨Z6y q1,not_true (and2 q2).1,not_true (and2 q2).2⟩⟩,Z6y h2⟩
theorem Z5x:okW [109]:=Qo (by kernel_rfl)
theorem Z3q:okW [110,49]:=Qo (by kernel_rfl)
theorem Z3p:okW sX:=Qo (by kernel_rfl)
theorem Z5v:okW sY:=Qo (by kernel_rfl)
theorem lt3 {d:Nat} (h:d < 3):d=0∨d=1∨d=2:=by
  rcases Nat.lt_or_eq_of_le (Z65 h) with h | h
  · exact (Nat.lt_or_eq_of_le (Z65 h)).imp Nat.lt_one_iff.mp .inl
  · exact .inr (.inr h)
theorem Z5w {d:Nat} (h:d < 3):okW ([114,45]++decI d):=by
  rcases lt3 h with rfl | rfl | rfl
  · exact Qo (by kernel_rfl)
  · exact Qo (by kernel_rfl)
  · exact Qo (by kernel_rfl)
theorem Zdc {many:Nat} {w:CS} (h:okW w):Zat many (.told w):=⟨h.op,Z63 _,Yc⟩
inductive PlLt (many:Nat):List (CS×Nat)→Prop
  | zero:PlLt many []
  | one {n:Nat} (h:n < many):PlLt many [(sX,n)]
  | two {n m:Nat} (h:n < many) (h2:m < many):PlLt many [(sX,n),(sY,m)]
theorem PlLt.ok {many:Nat} {ps:List (CS×Nat)} (h:PlLt many ps) (hm:many≤100):PlOK ps:=by
  cases h with
  | zero=>exact .zero
  | one h=>exact .one (Z6t h hm)
  | two h h2=>exact .two (Z6t h hm) (Z6t h2 hm)
theorem Zkb {many:Nat} {w:CS} {ps:List (CS×Nat)} (h:okW w) (hp:PlLt many ps):Zat many (.rule w ps):=by
  cases hp with
  | zero=>exact ⟨h.op,Z63 _,Yc⟩
  | one h1=>exact ⟨h.op,ble,all_cons ⟨Z3p.op,rfl,h1⟩ Yc⟩
  | two h1 h2=>exact ⟨h.op,ble,all_cons ⟨Z3p.op,rfl,h1⟩ (all_cons ⟨Z5v.op,rfl,h2⟩ Yc)⟩
inductive Deed where
  | put (t:Tm) | row (r:Row)
noncomputable def sPUT:CS:=[112,117,116]
noncomputable def Zao (d:Deed):AVal:=@Deed.casesOn (λ zz=>AVal) d (λ t=>.tup [.str sPUT,tmA t]) rowA
inductive Zcd (many:Nat):Deed→Prop
  | put {t:Tm} (h:LwT 2 t):Zcd many (.put t)
  | same {a b:Nat} {r:Reason} (ha:a < many) (hb:b < many) (hw:wfReason r) (hr:Zat many r):Zcd many (.row (.same a b r))
  | settle (h:0 < many):Zcd many (.row .settle)
section
variable {j fd spot s s2 w d many:Nat} {σ σ1 σ2 σ':St} {cells:List Int} {ν:Fm} {k:CS}
structure Zw8 (j:Nat) (σ:St) (fd:Nat) (cells:List Int) (spot many:Nat) (r:Reason) (s:Nat) (σ':St):Prop where
  wf:wfReason r
  ok:Zat many r
  le:s≤spot+5
  call:CallR j "_law_reason" [.ref fd,nA many] σ (Zt r) σ'
  fed:Fed σ fd cells s σ'
def Z2r (j:Nat) (ν:Fm) (k:Nat) (σ:St) (ps:List (CS×Nat)) (σ':St):Prop:=LcR j none ["name"] [] (.tup [(.loc "name"),(.fn "_law_draw" [(.loc "feed"),(.loc "many")])]) ν (([AVal.str sX,.str sY].take k).map λ x=>[x]) [] σ (ps.map Qy) σ'
theorem Zpd {x:CS} {n:Nat} (hf:ν "feed"=some (.ref fd)) (hm:ν "many"=some (nA many)) (h:CallR j "_law_draw" [.ref fd,nA many] σ (nA n) σ'):EvE j (.tup [(.loc "name"),(.fn "_law_draw" [(.loc "feed"),(.loc "many")])]) (upd (hide ν) "name" (.str x)) σ (Qy (x,n)) σ':=
  Yq (es2 (Zc (Zi ..)) (e_fn (es2 (Zc (Za (Jz hf))) (Zc (Za (Jz hm)))) h))
theorem Zl7 (hc:cells.length≤40) (hfd:σ.f fd=some (J9 cells spot)) (h0:0 < many) (hs:spot+2≤10000) {k:Nat} (hk:k < 3) (hf:ν "feed"=some (.ref fd)) (hm:ν "many"=some (nA many)):
    ∃ ps s σ',PlLt many ps∧s≤spot+2∧Z2r (j+1) ν k σ ps σ'∧Fed σ fd cells s σ':=by
  rcases lt3 hk with rfl | rfl | rfl
  · exact ⟨[],spot,σ,.zero,Z6r _ _,.nil Zl,rfl,hfd,λ zz zz=>rfl⟩
  · obtain ⟨a,σ1,D⟩:=Qg (j:=j) hfd h0 (Z6p (Z6r _ _) hs) hc
    exact ⟨_,spot+1,σ1,.one D.lt,Nat.le_succ _,.keep Zl rfl (.nil _) (Zpd hf hm D.call) ble (.nil Zl),D.fed⟩
  · obtain ⟨a,σ1,D⟩:=Qg (j:=j) hfd h0 (Z6p (Z6r _ _) hs) hc
    obtain ⟨b,σ2,D2⟩:=Qg (j:=j) D.fed.feed h0 (Z6p (Nat.le_succ _) hs) hc
    exact ⟨_,spot+2,σ2,.two D.lt D2.lt,Z6q _,.keep Zl rfl (.nil _) (Zpd hf hm D.call) ble (.keep Zl rfl (.nil _) (Zpd hf hm D2.call) ble (.nil Zl)),D.fed.trans D2.fed⟩
theorem Zty (hc:cells.length≤40) (hf:σ.f fd=some (J9 cells spot)) (hm:0 < many) (hm2:many≤100) (hs:spot+5≤10000):∃ r s σ',Zw8 (j+2) σ fd cells spot many r s σ':=by
  have at1:spot+1≤10000:=Z6p (Z6w ble spot) hs
  obtain ⟨d1,σ1,D⟩:=Qg (j:=j) hf (w:=2) ble (Z61 at1) hc
  have t1:EvE (j+1) (.cmp .Eq (.fn "_law_draw" [(.loc "feed"),(.cst (.int 2))]) (.cst (.int 0))) (upd (upd (λ zz=>none) "feed" (.ref fd)) "many" (nA many)) σ (.bool (decide (nA d1=nA 0))) σ1:=Zo (e_fn (es2 e_lk Ze) D.call) Ze (.eq (.int 0 d1 0) ble)
  by_cases h0:d1=0
  · rw [dT (by rw [h0])] at t1
    obtain ⟨d2,σ2,D2⟩:=Qg (j:=j) D.fed.feed (w:=2) ble at1 hc
    have fin:∀ {w:CS},okW w→[AVal.str [109],.str [110,49]][d2]? = some (.str w)→∃ r s σ',Zw8 (j+2) σ fd cells spot many r s σ':=λ {w} hok hw=>
      ⟨.told w,spot+2,σ2,.told hok,Zdc hok,Z6w ble spot,Zg Zcf rfl (Ql (Za4 t1 (Zaz (Yq (es2 Ze (Ys (Zan (es2 Ze Ze)) (e_fn (es2 e_lk Ze) D2.call) (.lst (.lst _) hw ble))))))),D.fed.trans D2.fed⟩
    rcases Nat.lt_or_eq_of_le (Z65 D2.lt) with h | h
    · exact fin Z5x (by rw [Nat.lt_one_iff.mp h]; rfl)
    · exact fin Z3q (by rw [h]; rfl)
  · rw [dF (Zsd h0)] at t1
    obtain ⟨k,σ2,D2⟩:=Qg (j:=j) D.fed.feed (w:=3) ble at1 hc
    obtain ⟨ps,s,σ3,hp,hle,hpl,F3⟩:=Zl7 (j:=j) (ν:=upd (upd (λ zz=>none) "feed" (.ref fd)) "many" (nA many)) hc D2.fed.feed hm (Z61 hs) D2.lt (by kernel_rfl) (by kernel_rfl)
    have hs3:s≤10000:=Z6p hle (Z61 hs)
    obtain ⟨d3,σ4,D4⟩:=Qg (j:=j) F3.feed (w:=3) ble hs3 hc
    have hok:=Z5w D4.lt
    refine ⟨.rule ([114,45]++decI d3) ps,s+1,σ4,.rule hok (hp.ok hm2),Zkb hok hp,Z6v hle,Zg Zcf rfl (Zb (Zn t1) (Zb (Zz1 (es1 (Zbp (Zan (es2 Ze Ze)) Qb ⟨e_fn (es2 e_lk Ze) D2.call,λ sc q=>nomatch q⟩ Qb (Zz0 (k:=k) (.lst [.str sX,.str sY]) ble))) (.lst _) hpl) (Z0 (Yq (es3 Ze (Qi Ze (Yl (es1 (e_fn (es2 e_lk Ze) D4.call)) (.strI (Z6t D4.lt ble))) (.addS (x:=[114,45]) (y:=decI d3) (Z6p (Z6w (Zqb (Z6t D4.lt ble)).len 2) ble))) (Yl (es1 e_lk) (.tuple (.lst (.lst (ps.map Qy))) (Zf (le2 (hp.ok hm2).all.len))))))))),((D.fed.trans D2.fed).trans F3).trans D4.fed⟩
end
end PL
end
section
open PySem PySem.W
namespace PL
section
variable {j fd spot s s2 w many nd rw:Nat} {σ σ1 σ2 σ':St} {cells:List Int} {ν:Fm} {H H1 H2:HC}
structure Z5n (j:Nat) (σ:St) (fd:Nat) (cells:List Int) (spot many:Nat) (d:Deed) (s:Nat) (σ':St):Prop where
  ok:Zcd many d
  le:s≤spot+10
  call:CallR j "_law_deed" [.ref fd,nA many] σ (Zao d) σ'
  fed:Fed σ fd cells s σ'
theorem Z00 (hc:cells.length≤40) (hf:σ.f fd=some (J9 cells spot)) (hm2:many≤100) (hs:spot+10≤10000):∃ d s σ',Z5n (j+5) σ fd cells spot many d s σ':=by
  have at3:spot+3≤10000:=Z6p (Z6w ble spot) hs
  obtain ⟨w,σ1,D⟩:=Qg (j:=j+3) hf (w:=5) ble (Z6p (Z6r _ _) hs) hc
  have st1:ExS (j+4) (.asg "way" (.fn "_law_draw" [(.loc "feed"),(.cst (.int 5))])) (upd (upd (λ zz=>none) "feed" (.ref fd)) "many" (nA many)) σ .next (upd (upd (upd (λ zz=>none) "feed" (.ref fd)) "many" (nA many)) "way" (nA w)) σ1:=Yr (e_fn (es2 e_lk Ze) D.call)
  have c1:∀ {p:Bool},decide (nA many=nA 0)=p→EvE (j+4) (.cmp .Eq (.loc "many") (.cst (.int 0))) (upd (upd (upd (λ zz=>none) "feed" (.ref fd)) "many" (nA many)) "way" (nA w)) σ1 (.bool p) σ1:=λ h=>(Zo e_lk Ze (.eq (.int 0 many 0) ble)).eqv (Z7r AVal.bool h)
  have c2:∀ {p:Bool},decide ((w:Int) < 2)=p→EvE (j+4) (.cmp .Lt (.loc "way") (.cst (.int 2))) (upd (upd (upd (λ zz=>none) "feed" (.ref fd)) "many" (nA many)) "way" (nA w)) σ1 (.bool p) σ1:=λ h=>(Zo e_lk Ze (.lt w 2)).eqv (Z7r AVal.bool h)
  have put:EvE (j+4) (.or (.cmp .Eq (.loc "many") (.cst (.int 0))) (.cmp .Lt (.loc "way") (.cst (.int 2)))) (upd (upd (upd (λ zz=>none) "feed" (.ref fd)) "many" (nA many)) "way" (nA w)) σ1 (.bool true) σ1→∃ d s σ',Z5n (j+5) σ fd cells spot many d s σ':=λ t1=>
    have ⟨t,s,σ2,T⟩:=Z0w (j:=j) hc 2 D.fed.feed (Z6p (show spot+1+7≤spot+10 from Z6w (show 8≤10 from ble) spot) hs)
    ⟨.put t,s,σ2,.put T.ok,Z6p T.le (show spot+1+7≤spot+10 from Z6w (show 8≤10 from ble) spot),Zg Zbe rfl (Zb st1 (Ql (Za4 t1 (Zaz (Yq (es2 Ze (e_fn (es2 e_lk Ze) T.call))))))),D.fed.trans T.fed⟩
  by_cases h0:many=0
  · exact put (Z0i (c1 (dT (by rw [h0]))))
  have hm:0 < many:=Nat.pos_of_ne_zero h0
  by_cases h2:w < 2
  · exact put (J0 (c1 (dF (Zsd h0))) (c2 (dT (Int.ofNat_lt.mpr h2))))
  have sk:=Zn (j:=j+4) (bl:=[(.ret (.tup [(.cst (.str [112,117,116])),(.fn "_law_term" [(.loc "feed"),(.cst (.int 2))])]))]) (J0 (c1 (dF (Zsd h0))) (c2 (dF (Int.not_lt.mpr (Int.ofNat_le.mpr (Nat.le_of_not_lt h2))))))
  by_cases h4:w=4
  · exact ⟨.row .settle,spot+1,σ1,.settle hm,Z6w ble spot,Zg Zbe rfl (Zb st1 (Zb sk (Ql (Za4 ((Zo e_lk Ze (.eq (.int 0 w 4) ble)).eqv (Z7r AVal.bool (dT (by rw [h4]; rfl)))) (Zaz (Yq (es1 Ze))))))),D.fed⟩
  · obtain ⟨a,σ2,D2⟩:=Qg (j:=j+3) D.fed.feed hm (Z61 (Z61 at3)) hc
    obtain ⟨b,σ3,D3⟩:=Qg (j:=j+3) D2.fed.feed hm (Z61 at3) hc
    obtain ⟨r,s,σ4,R⟩:=Zty (j:=j+2) hc D3.fed.feed hm hm2 (Z6p (show spot+1+1+1+5≤spot+10 from Z6w (show 8≤10 from ble) spot) hs)
    exact ⟨.row (.same a b r),s,σ4,.same D2.lt D3.lt R.wf R.ok,Z6p R.le (show spot+1+1+1+5≤spot+10 from Z6w (show 8≤10 from ble) spot),Zg Zbe rfl (Zb st1 (Zb sk (Zb (Zn ((Zo e_lk Ze (.eq (.int 0 w 4) ble)).eqv (Z7r AVal.bool (dF λ q=>h4 (Ze3 (b:=4) q))))) (Z0 (Yq (.cons Ze (es3 (e_fn (es2 e_lk e_lk) D2.call) (e_fn (es2 e_lk e_lk) D3.call) (e_fn (es2 e_lk e_lk) R.call)))))))),((D.fed.trans D2.fed).trans D3.fed).trans R.fed⟩
theorem Zi1 {n:Nd}:∀ {N:List Nd} {i:Nat},N.Nodup→N[i]? = some n→idxOf (N.map Zr) (Zr n)=some i
  | x::N,i,hn,h=>by
    obtain ⟨h1,h2⟩:=Z7y.mp hn
    rw [idxOf,Z7e,List.findIdx?_cons]
    by_cases e:x=n
    · rw [e,dT rfl]
      cases i with
      | zero=>rfl
      | succ i=>exact absurd (e▸Z7z h) h1
    · rw [dF λ q=>e (Zdg q)]
      cases i with
      | zero=>exact absurd (Z7g h) e
      | succ i=>
        have:=Zi1 h2 (show N[i]? = some n from h)
        rw [idxOf] at this
        rw [this]; rfl
theorem Zyf (a b:Nd):Cmpb 1 (Zr a) (Zr b):=.tup λ i x y hx hy=>by
  cases i with
  | zero=>rw [← Z7g hx,← Z7g hy]; exact .str _ _ _
  | succ i=>
    obtain ⟨n,zz,rfl⟩:=Z7b.mp (Z7z (show (a.2.map nA)[i]? = some x from hx))
    obtain ⟨m,zz,rfl⟩:=Z7b.mp (Z7z (show (b.2.map nA)[i]? = some y from hy))
    exact .int _ _ _
theorem Zme {N:List Nd} {n:Nd}:∀ x∈N.map Zr,Cmpb 1 x (Zr n):=all_map λ m=>Zyf m n
structure NRel (nd rw:Nat) (σ σ':St) (H:HC):Prop where
  n:σ'.n=σ.n
  f:∀ id,id≠nd→id≠rw→σ'.f id=σ.f id
  nodes:σ'.f nd=some (.list (H.nodes.map Zr))
  rows:σ'.f rw=some (.list (H.rows.map rowA))
theorem NRel.trans (a:NRel nd rw σ σ1 H1) (b:NRel nd rw σ1 σ2 H2):NRel nd rw σ σ2 H2:=⟨b.n.trans a.n,λ id h1 h2=>(b.f id h1 h2).trans (a.f id h1 h2),b.nodes,b.rows⟩
theorem NRel.start (a:NRel nd rw σ σ1 H1):NRel nd rw σ1 σ1 H1:=⟨rfl,λ zz zz zz=>rfl,a.nodes,a.rows⟩
theorem Zdh {N:List Nd} {n:Nd}:(Zr n∈N.map Zr)↔n∈N:=⟨λ h=>(Z7b.mp h).elim λ m q=>Zdg q.2▸q.1,λ h=>List.mem_map_of_mem h⟩
theorem Zni {n:Nd} {i:Nat} (hn:ν "nodes"=some (.ref nd)) (hd:ν "node"=some (Zr n)) (hf:σ.f nd=some (.list (H.nodes.map Zr))) (hl:H.nodes.length≤63) (hnd:H.nodes.Nodup) (hi:H.nodes[i]? = some n):EvE j (.mth (.loc "nodes") "index" [(.loc "node")]) ν σ (nA i) σ:=
  Qt (Zc hn) (.index hf) (es1 (Zc hd)) (.index hf Zme ble (Zi1 hnd hi) (Zf (le63 hl)))
def Z6j (j nd rw:Nat) (tv:List AVal) (σ:St) (ks:List Nat) (σ1:St):Prop:=∀ ν:Fm,ν "nodes"=some (.ref nd)→ν "rows"=some (.ref rw)→LcR j none ["kid"] [] (.fn "_law_number" [(.loc "nodes"),(.loc "rows"),(.loc "kid")]) ν (tv.map λ x=>[x]) [] σ (ks.map nA) σ1
theorem Zwi {x:AVal} {k:Nat} (hn:ν "nodes"=some (.ref nd)) (hr:ν "rows"=some (.ref rw)) (h:CallR j "_law_number" [.ref nd,.ref rw,x] σ (nA k) σ1):EvE j (.fn "_law_number" [(.loc "nodes"),(.loc "rows"),(.loc "kid")]) (upd (hide ν) "kid" x) σ (nA k) σ1:=e_fn (es3 (Zc (Za (Jz hn))) (Zc (Za (Jz hr))) (Zc (Zi ..))) h
theorem Zkc {op:CS} {tv:List AVal} {ks:List Nat} (hne:nd≠rw) (hc:Z6j j nd rw tv σ ks σ1) (hl:tv.length≤2) (T1:NRel nd rw σ σ1 H1) (O1:Okay H1) (hnd:okNd H1 (op,ks)) (h1:H1.nodes.length≤62) (h2:H1.rows.length≤190):
    ∃ σ',CallR (j+1) "_law_number" [.ref nd,.ref rw,.tup (.str op::tv)] σ (nA (addP H1 (op,ks)).i) σ'∧NRel nd rw σ σ' (addP H1 (op,ks)).h:=by
  have l16:(AVal.str op::tv).length≤16000:=Z6p (Z6v hl) ble
  have k2:ks.length≤2:=hnd.two
  have st1:ExS j (.asg "node" (.bin .Add (.tup [(.idx (.loc "t") (.cst (.int 0)))]) (.blt "tuple" [(.comp (.fn "_law_number" [(.loc "nodes"),(.loc "rows"),(.loc "kid")]) ["kid"] 0 [(.slc (.loc "t") (.cst (.int 1)) (.cst .none) (.cst .none))] [])]))) (upd (upd (upd (λ zz=>none) "nodes" (.ref nd)) "rows" (.ref rw)) "t" (.tup (.str op::tv))) σ .next
      (upd (upd (upd (upd (λ zz=>none) "nodes" (.ref nd)) "rows" (.ref rw)) "t" (.tup (.str op::tv))) "node" (Zr (op,ks))) σ1:=
    Yr (Qi (Yq (es1 (Ys e_lk Ze (.tup (k:=0) (xs:=.str op::tv) rfl l16)))) (Yl (es1 (Q3 (es1 (Zbp e_lk Qb Qb Qb (.tup (i:=1) (xs:=.str op::tv) (Z6q 1) (Z6v (Z63 _)) l16))) (.tup tv) (hc _ (by kernel_rfl) (by kernel_rfl)))) (.tuple (.lst (.lst _)) (Zf (le2 k2)))) (.addT (x:=[.str op]) (y:=ks.map nA) (by rw [Z68]; exact Z6p (Z6w k2 1) ble)))
  have tst:∀ {p:Bool},(!decide (Zr (op,ks)∈H1.nodes.map Zr))=p→EvE j (.cmp .NotIn (.loc "node") (.loc "nodes")) (upd (upd (upd (upd (λ zz=>none) "nodes" (.ref nd)) "rows" (.ref rw)) "t" (.tup (.str op::tv))) "node" (Zr (op,ks))) σ1 (.bool p) σ1:=λ h=>(Zo e_lk e_lk (.ninL (id:=nd) (n:=1) (.ref T1.nodes) Zme ble)).eqv (Z7r AVal.bool h)
  unfold addP addH addI
  dsimp only
  cases e:Qc H1 (op,ks) with
  | some i=>
    have hi:=Zbx e
    exact ⟨σ1,Zg Zcg rfl (Zb st1 (Zb (Zn (tst (nT (Zdh.mpr (Z7z hi))))) (Z0 (Zni (by kernel_rfl) (by kernel_rfl) T1.nodes (Nat.le_succ_of_le h1) O1.nodup hi)))),T1⟩
  | none=>
    have hm:=Yu e
    have A:=O1.added hm k2 hnd.lt
    have en:(hRow (Qm H1 (op,ks)) (.add op ks)).nodes=H1.nodes++[(op,ks)]:=A.nodes
    have er:(hRow (Qm H1 (op,ks)) (.add op ks)).rows=H1.rows++[.add op ks]:=Z7r (·++_) A.rows
    have O2:=A.ok.row (.add op ks)
    generalize hRow (Qm H1 (op,ks)) (.add op ks)=H2 at*
    have f2:(σ1.put nd (.list (H1.nodes.map Zr++[Zr (op,ks)]))).f rw=some (.list (H1.rows.map rowA)):=(Zw hne.symm).trans T1.rows
    have f3:((σ1.put nd (.list (H1.nodes.map Zr++[Zr (op,ks)]))).put rw (.list (H1.rows.map rowA++[rowA (.add op ks)]))).f nd=some (.list (H2.nodes.map Zr)):=(Zw hne).trans ((Yk ..).trans (by rw [en,Y0]))
    have r3:((σ1.put nd (.list (H1.nodes.map Zr++[Zr (op,ks)]))).put rw (.list (H1.rows.map rowA++[rowA (.add op ks)]))).f rw=some (.list (H2.rows.map rowA)):=(Yk ..).trans (by rw [er,Y0])
    exact ⟨_,Zg Zcg rfl (Zb st1 (Zb (Zau (tst (nF λ q=>hm (Zdh.mp q))) (Qj (Qa (Qt e_lk (.append T1.nodes) (es1 e_lk) (.append T1.nodes (Zf (le63 (Nat.le_succ_of_le h1)))))) (Qk (Qa (Qt e_lk (.append f2) (es1 (Yq (es3 Ze (Ys (e_lk (v:=Zr (op,ks))) Ze (.tup (k:=0) (xs:=.str op::ks.map nA) rfl (Z6p (Z6v (Zf k2)) ble))) (e_ks (nd:=(op,ks)) k2 (by kernel_rfl))))) (.append f2 (Zf (Z6p h2 ble))))))))
      (Z0 (Zni (by kernel_rfl) (by kernel_rfl) f3 (by rw [en,Zd]; exact Z6v h1) O2.nodup (n:=(op,ks)) (i:=H1.nodes.length) (by rw [en,List.getElem?_append_right (Z6q _),Nat.sub_self]; rfl))))),T1.trans ⟨rfl,λ id i1 i2=>(Zw i2).trans (Zw i1),f3,r3⟩⟩
end
end PL
end
section
open PySem PySem.W
namespace PL
section
variable {j fd nd rw st:Nat} {σ σ1 σ2 σ':St} {L L':Fld→Nat} {ν:Fm} {H H1 H2:HC}
theorem Z29 (hne:nd≠rw) (t:Tm):∀ {n:Nat} {H:HC} {σ:St},Z2o H (Ym t) (n+6)→Okay H→tmOK t→NRel nd rw σ σ H→∃ σ',CallR n "_law_number" [.ref nd,.ref rw,tmA t] σ (nA (putP t H).i) σ'∧NRel nd rw σ σ' (putP t H).h:=by
  induction t with
  | leaf op=>
    intro n H σ M O h hr
    obtain ⟨j,rfl⟩:=Nat.exists_eq_add_of_le' (Nat.le_of_add_le_add_right (show 1+6≤n+6 from M.deep))
    exact Zkc (j:=j) hne (λ ν zz zz=>.nil Zl) (Z63 _) hr O (.of h (Z63 _) λ k hk=>nomatch hk) (Z61 M.nodes) (Z61 M.rows)
  | one op t ih=>
    intro n H σ M O h hr
    have hd:Ym t+1≤n:=Nat.le_of_add_le_add_left (a:=6) (by rw [Nat.add_comm 6 n]; exact M.deep)
    obtain ⟨j,rfl⟩:=Nat.exists_eq_add_of_le' (Z6p (Z6s 1 _) hd)
    have A:=Qn t O h.2
    obtain ⟨σ1,c1,T1⟩:=ih (n:=j) ⟨Z61 M.nodes,Z61 M.rows,by rw [Nat.add_comm 6]; exact Z6x (Nat.le_of_succ_le_succ hd) 6⟩ O h.2 hr
    exact Zkc (j:=j) hne (λ ν hn hr=>.keep Zl rfl (.nil _) (Zwi hn hr c1) ble (.nil Zl)) (ks:=[_]) ble T1 A.ok (.of h.1 ble λ k=>Zl9 A.lt) (Z6p A.nodes (Z61 M.nodes)) (Z6p A.rows (Z61 M.rows))
  | two op t u ih ih2=>
    intro n H σ M O h hr
    have hd:(Ym t+Ym u)+1≤n:=Nat.le_of_add_le_add_left (a:=6) (by rw [Nat.add_comm 6 n]; exact M.deep)
    obtain ⟨j,rfl⟩:=Nat.exists_eq_add_of_le' (Z6p (Z6s 1 _) hd)
    have hd:=Nat.le_of_succ_le_succ hd
    have hn:H.nodes.length+(Ym t+Ym u)≤62:=Z61 M.nodes
    have hrr:H.rows.length+(Ym t+Ym u)≤190:=Z61 M.rows
    have A:=Qn t O h.2.1
    have B:=Qn u A.ok h.2.2
    have up:∀ {a:Nat},a≤Ym t+Ym u→6+a≤j+6:=λ q=>by rw [Nat.add_comm 6]; exact Z6x (Z6p q hd) 6
    obtain ⟨σ1,c1,T1⟩:=ih (n:=j) ⟨Z6p (Z6w (Z6r _ _) _) hn,Z6p (Z6w (Z6r _ _) _) hrr,up (Z6r _ _)⟩ O h.2.1 hr
    obtain ⟨σ2,c2,T2⟩:=ih2 (n:=j) (H:=(putP t H).h) ⟨Z6p (Z6x A.nodes _) (Z60 ..▸hn),Z6p (Z6x A.rows _) (Z60 ..▸hrr),up (Z6s _ _)⟩ A.ok h.2.2 T1.start
    exact Zkc (j:=j) hne (λ ν hn hr=>.keep Zl rfl (.nil _) (Zwi hn hr c1) ble (.keep Zl rfl (.nil _) (Zwi hn hr c2) ble (.nil Zl))) (ks:=[_,_]) ble (T1.trans T2) B.ok (.of h.1 ble λ k=>Zpt (Z6t A.lt B.ge) B.lt)
      (Z6p (Z6p B.nodes (Z60 ..▸Z6x A.nodes _)) hn) (Z6p (Z6p B.rows (Z60 ..▸Z6x A.rows _)) hrr)
noncomputable def Zhy (H:HC) (d:Deed):HC:=@Deed.casesOn (λ zz=>HC) d (λ t=>(putP t H).h) λ r=>doH H r
noncomputable def Zun (H:HC) (d:Deed):AVal:=@Deed.casesOn (λ zz=>AVal) d (λ t=>nA (putP t H).i) λ zz=>.int (-1)
noncomputable def Zwm (H:HC) (d:Deed):AVal:=@Deed.casesOn (λ zz=>AVal) d (λ t=>nA (putP t H).i) λ r=>@Row.casesOn (λ zz=>AVal) r (λ zz zz=>.none) (λ a b zz=>.bool (!decide (find H.par a=find H.par b))) .none
theorem Jr {d:Nat} {t:Tm} (h:LwT d t):tmOK t∧Ym t≤cnt d:=by
  have nm:∀ c:Nat,okWB [c]=true→c≠63→Zgg [c]:=λ c h q=>⟨(Qo h).op,λ e=>q (Z7g e)⟩
  have c1:∀ d,1≤cnt d:=λ d=>by
    cases d with
    | zero=>exact Z6q _
    | succ d=>exact Z6v (Z63 _)
  induction h with
  | a d=>exact ⟨nm 97 (by kernel_rfl) (by decide),c1 d⟩
  | b d=>exact ⟨nm 98 (by kernel_rfl) (by decide),c1 d⟩
  | f _ ih=>exact ⟨⟨nm 102 (by kernel_rfl) (by decide),ih.1⟩,Z6v (Z6p ih.2 (Z6r _ _))⟩
  | g _ _ ih ih2=>exact ⟨⟨nm 103 (by kernel_rfl) (by decide),ih.1,ih2.1⟩,Z6v (Nat.add_le_add ih.2 ih2.2)⟩
structure Bounds (H:HC):Prop where
  n:H.nodes.length≤55
  r:H.rows.length≤180
theorem Bounds.room {t:Tm} {k:Nat} (B:Bounds H) (h:LwT 2 t) (hk:13≤k):Z2o H (Ym t) k:=⟨Nat.add_le_add B.n (Jr h).2,Z6p (Nat.add_le_add B.r (Jr h).2) ble,Z6p (Z6w (Jr h).2 6) hk⟩
theorem Bounds.small (B:Bounds H):Ye H:=⟨Z6p B.n ble,Z6p B.r ble⟩
theorem Zp1 (hne:nd≠rw) (O:Okay H) {d:Deed} (hd:Zcd H.nodes.length d) (B:Bounds H) (hr:NRel nd rw σ σ H):
    ∃ σ',CallR (j+8) "_law_noted" [.ref nd,.ref rw,Zao d,.bool (decide (H.waiting=[]))] σ (Zun H d) σ'∧NRel nd rw σ σ' (Zhy H d):=by
  have app:∀ {r:Row} {H':HC} {ν:Fm},ν "rows"=some (.ref rw)→ν "deed"=some (rowA r)→H'.nodes=H.nodes→H'.rows=H.rows++[r]→∃ σ',ExB (j+7) [(.exp (.mth (.loc "rows") "append" [(.loc "deed")]))] ν σ .next ν σ'∧NRel nd rw σ σ' H':=λ {r H' ν} h1 h2 e1 e2=>
    ⟨_,Qk (Qa (Qt (Zc h1) (.append hr.rows) (es1 (Zc h2)) (.append hr.rows (Zf (Z6p B.r ble))))),rfl,λ id zz i2=>Zw i2,(Zw hne).trans (by rw [e1]; exact hr.nodes),(Yk ..).trans (by rw [e2,Y0])⟩
  cases hd with
  | @put t h=>
    obtain ⟨σ',hc,T⟩:=Z29 hne t (n:=j+7) (B.room h (Z6s 13 j)) O (Jr h).1 hr
    have rr:EvE (j+7) (.loc "deed") (upd (upd (upd (upd (λ zz=>none) "nodes" (.ref nd)) "rows" (.ref rw)) "deed" (Zao (.put t))) "is_settled" (.bool (decide (H.waiting=[])))) σ (.tup [.str sPUT,tmA t]) σ:=e_lk
    exact ⟨σ',Zg Q6 rfl (Ql (Za4 (Zca (e_at rr 0 rfl ble) rfl) (Zaz (e_fn (es3 e_lk e_lk (e_at rr 1 rfl ble)) hc)))),T⟩
  | @same a b r ha hb hw hr'=>
    have M:=O.merge ha hb r
    obtain ⟨σ',hx,T⟩:=app (r:=.same a b r) (H':=Qs H a b r) (ν:=upd (upd (upd (upd (λ zz=>none) "nodes" (.ref nd)) "rows" (.ref rw)) "deed" (Zao (.row (.same a b r)))) "is_settled" (.bool (decide (H.waiting=[])))) (by kernel_rfl) (by kernel_rfl) M.nodes M.rows
    have rr:EvE (j+7) (.loc "deed") (upd (upd (upd (upd (λ zz=>none) "nodes" (.ref nd)) "rows" (.ref rw)) "deed" (Zao (.row (.same a b r)))) "is_settled" (.bool (decide (H.waiting=[])))) σ (.tup [.str Q5,nA a,nA b,Zt r]) σ:=e_lk
    exact ⟨σ',Zg Q6 rfl (Zb (Zn (Q9 (e_at rr 0 rfl ble))) (Zb (Zau (Z0i (Zca (e_at rr 0 rfl ble) rfl)) hx) (Z0 (Zpe Ze)))),T⟩
  | settle h=>
    have K:=O.settleW
    have rr:EvE (j+7) (.loc "deed") (upd (upd (upd (upd (λ zz=>none) "nodes" (.ref nd)) "rows" (.ref rw)) "deed" (Zao (.row .settle))) "is_settled" (.bool (decide (H.waiting=[])))) σ (.tup [.str Za5]) σ:=e_lk
    have t1:EvE (j+7) (.or (.cmp .Eq (.idx (.loc "deed") (.cst (.int 0))) (.cst (.str [115,97,109,101]))) (.not (.loc "is_settled"))) (upd (upd (upd (upd (λ zz=>none) "nodes" (.ref nd)) "rows" (.ref rw)) "deed" (Zao (.row .settle))) "is_settled" (.bool (decide (H.waiting=[])))) σ (.bool (!decide (H.waiting=[]))) σ:=J0 (Q9 (e_at rr 0 rfl ble)) (Zhk e_lk)
    by_cases hw:H.waiting=[]
    · rw [if_pos hw] at K
      rw [nT hw] at t1
      exact ⟨σ,Zg Q6 rfl (Zb (Zn (Q9 (e_at rr 0 rfl ble))) (Zb (Zn t1) (Z0 (Zpe Ze)))),rfl,λ zz zz zz=>rfl,hr.nodes.trans (by rw [show (Zhy H (.row .settle)).nodes=H.nodes from K.nodes]),hr.rows.trans (by rw [show (Zhy H (.row .settle)).rows=H.rows from K.rows])⟩
    · rw [if_neg hw] at K
      rw [nF hw] at t1
      obtain ⟨σ',hx,T⟩:=app (r:=.settle) (H':=Qx H) (ν:=upd (upd (upd (upd (λ zz=>none) "nodes" (.ref nd)) "rows" (.ref rw)) "deed" (Zao (.row .settle))) "is_settled" (.bool (decide (H.waiting=[])))) (by kernel_rfl) (by kernel_rfl) K.nodes K.rows
      exact ⟨σ',Zg Q6 rfl (Zb (Zn (Q9 (e_at rr 0 rfl ble))) (Zb (Zau t1 hx) (Z0 (Zpe Ze)))),T⟩
theorem Zob (s:Sty σ st L H) (O:Okay H) {d:Deed} (hd:Zcd H.nodes.length d) (B:Bounds H):∃ σ' L',CallR (j+15) "_law_done" [.ref st,Zao d] σ (Zwm H d) σ'∧Tr σ L H σ' L' (Zhy H d):=by
  have r190:H.rows.length≤190:=Z6p B.r ble
  cases hd with
  | @put t h=>
    obtain ⟨σ',L',hc,T⟩:=Z28 t (n:=j+13) (B.room h (Z6s 13 j)) s.rep O (Jr h).1
    have rr:EvE (j+14) (.loc "deed") (upd (upd (λ zz=>none) "story" (.ref st)) "deed" (Zao (.put t))) σ (.tup [.str sPUT,tmA t]) σ:=e_lk
    exact ⟨σ',L',Zg Zbd rfl (Ql (Za4 (Zca (e_at rr 0 rfl ble) rfl) (Zaz (Q0 s e_lk (es1 (e_at rr 1 rfl ble)) (Z0x s hc))))),T⟩
  | @same a b r ha hb hw hr'=>
    obtain ⟨σ',L',hc,T⟩:=Zf3 (j:=j+7) s.rep O B.small r190 hr' ha hb
    have rr:EvE (j+14) (.loc "deed") (upd (upd (λ zz=>none) "story" (.ref st)) "deed" (Zao (.row (.same a b r)))) σ (.tup [.str Q5,nA a,nA b,Zt r]) σ:=e_lk
    exact ⟨σ',L',Zg Zbd rfl (Zb (Zn (Q9 (e_at rr 0 rfl ble))) (Ql (Za4 (Zca (e_at rr 0 rfl ble) rfl) (Zaz (Q0 s e_lk (es3 (e_at rr 1 rfl ble) (e_at rr 2 rfl ble) (e_at rr 3 rfl ble)) (Zlz s hc)))))),T⟩
  | settle h=>
    obtain ⟨σ',L',hc,T⟩:=Zik (j:=j+7) s.rep O B.small r190
    have rr:EvE (j+14) (.loc "deed") (upd (upd (λ zz=>none) "story" (.ref st)) "deed" (Zao (.row .settle))) σ (.tup [.str Za5]) σ:=e_lk
    exact ⟨σ',L',Zg Zbd rfl (Zb (Zn (Q9 (e_at rr 0 rfl ble))) (Zb (Zn (Q9 (e_at rr 0 rfl ble))) (Zb (Qa (Q0 s e_lk es0 (Zrt s hc))) (Z0 Ze)))),T⟩
end
end PL
end
section
open PySem PySem.W
namespace PL
inductive Zu2:Nat→Prop
  | a:Zu2 97
  | b:Zu2 98
structure leafAt (N:List Nd) (i:Nat):Prop where
  ex:∃ c,Zu2 c∧N[i]? = some ([c],[])
inductive lowN (N:List Nd):Nd→Prop
  | leaf {c:Nat} (h:Zu2 c):lowN N ([c],[])
  | f {i:Nat} (h:leafAt N i):lowN N ([102],[i])
  | g {i j:Nat} (h:leafAt N i) (h2:leafAt N j):lowN N ([103],[i,j])
structure Few (N:List Nd) (k:Nat):Prop where
  ex:∃ hs:List Nd,hs.length≤k∧∀ n∈N,n∈hs∨lowN N n
section
variable {N M:List Nd} {i k k':Nat} {n:Nd}
theorem leafAt.more (h:leafAt N i) (M:List Nd):leafAt (N++M) i:=⟨h.ex.imp λ c q=>⟨q.1,(List.getElem?_append_left (Zfm q.2)).trans q.2⟩⟩
theorem lowN.more (h:lowN N n) (M:List Nd):lowN (N++M) n:=by
  cases h with
  | leaf h=>exact .leaf h
  | f h=>exact .f (h.more M)
  | g h h2=>exact .g (h.more M) (h2.more M)
theorem Zgo:∀ {N:List Nd} {i:Nat},N.Nodup→N[i]? = some n→N.idxOf n=i
  | x::N,i,hn,h=>by
    obtain ⟨h1,h2⟩:=Z7y.mp hn
    rw [List.idxOf_cons]
    by_cases e:x=n
    · rw [beq_iff_eq.mpr e]
      cases i with
      | zero=>rfl
      | succ i=>exact absurd (e▸Z7z h) h1
    · rw [Z7v.mpr e]
      cases i with
      | zero=>exact absurd (Z7g h) e
      | succ i=>exact Z7r (·+1) (Zgo h2 (show N[i]? = some n from h))
theorem Few.bound (h:Few N k) (hn:N.Nodup):N.length≤k+8:=by
  obtain ⟨hs,h1,h2⟩:=h.ex
  have lf:∀ i,leafAt N i→i=N.idxOf ([97],[])∨i=N.idxOf ([98],[]):=λ i hi=>hi.ex.elim λ c q=>by
    obtain ⟨hc,q⟩:=q
    cases hc with
    | a=>exact .inl (Zgo hn q).symm
    | b=>exact .inr (Zgo hn q).symm
  generalize N.idxOf ([97],[])=a at lf
  generalize N.idxOf ([98],[])=b at lf
  have h3:=J5 (m:=hs++[([97],[]),([98],[]),([102],[a]),([102],[b]),([103],[a,a]),([103],[a,b]),([103],[b,a]),([103],[b,b])]) hn λ n hn'=>by
    refine List.mem_append.mpr ((h2 n hn').imp id λ q=>?_)
    cases q with
    | leaf h=>cases h with
      | a=>exact .head _
      | b=>exact .tail _ (.head _)
    | f h=>
      rcases lf _ h with rfl | rfl
      · exact .tail _ (.tail _ (.head _))
      · exact .tail _ (.tail _ (.tail _ (.head _)))
    | g h h2=>
      rcases lf _ h with rfl | rfl
      · rcases lf _ h2 with rfl | rfl
        · exact .tail _ (.tail _ (.tail _ (.tail _ (.head _))))
        · exact .tail _ (.tail _ (.tail _ (.tail _ (.tail _ (.head _)))))
      · rcases lf _ h2 with rfl | rfl
        · exact .tail _ (.tail _ (.tail _ (.tail _ (.tail _ (.tail _ (.head _))))))
        · exact .tail _ (.tail _ (.tail _ (.tail _ (.tail _ (.tail _ (.tail _ (.head _)))))))
  rw [Z69] at h3
  exact Z6p h3 (Z6x h1 8)
theorem Few.grow (h:Few N k) (hl:lowN N n):Few (N++[n]) k:=⟨h.ex.imp λ hs q=>⟨q.1,λ m hm=>(Jq.mp hm).elim (λ r=>(q.2 m r).imp id (lowN.more · [n])) λ e=>.inr (by rw [e]; exact hl.more _)⟩⟩
theorem Few.high (h:Few N k) (n:Nd):Few (N++[n]) (k+1):=by
  obtain ⟨hs,h1,h2⟩:=h.ex
  exact ⟨n::hs,Z6v h1,λ m hm=>(Jq.mp hm).elim (λ r=>(h2 m r).imp (Z67 _) (lowN.more · [n])) λ e=>.inl (e▸Z66)⟩
theorem Few.mono (h:Few N k) (hk:k≤k'):Few N k':=⟨h.ex.imp λ hs q=>⟨Z6p q.1 hk,q.2⟩⟩
end
structure AddG (H:HC) (nd:Nd) (i:Nat) (H':HC):Prop where
  hist:Hist H'
  at_:H'.nodes[i]? = some nd
  ext:H'.nodes=H.nodes∨H'.nodes=H.nodes++[nd]
section
variable {H H1 H':HC} {nd:Nd} {i k:Nat}
theorem Hist.addG (h:Hist H) (hn:okNd H nd) (hw:okW nd.1) (hb:H.nodes.length≤100):AddG H nd (addI H nd) (addH H nd):=by
  have O:=h.okay
  cases e:Qc H nd with
  | some i=>
    rw [addH,addI,e]
    exact ⟨h,Zbx e,.inl rfl⟩
  | none=>
    have A:=O.added (Yu e) hn.two hn.lt
    have e1:addH H nd=hRow (Qm H nd) (.add nd.1 nd.2):=by rw [addH,e]
    have e2:addI H nd=H.nodes.length:=by rw [addI,e]; rfl
    have en:(hRow (Qm H nd) (.add nd.1 nd.2)).nodes=H.nodes++[nd]:=A.nodes
    refine ⟨Hist.add (r:=.add nd.1 nd.2) h (.add hn e) (.add hw hn.two λ k hk=>Z6t (hn.lt k hk) hb),?_,.inr (e1▸en)⟩
    rw [e1,e2,en,List.getElem?_append_right (Z6q _),Nat.sub_self]; rfl
theorem AddG.more (A:AddG H nd i H') {M:List Nd} {N:List Nd} (h:H.nodes=N++M):∃ M',H'.nodes=N++M':=A.ext.elim (λ e=>⟨M,e.trans h⟩) λ e=>⟨M++[nd],by rw [e,h,Z7d]⟩
theorem AddG.low (A:AddG H nd i H') (h:Few H.nodes k) (hl:lowN H.nodes nd):Few H'.nodes k:=A.ext.elim (λ e=>e▸h) λ e=>e▸h.grow hl
theorem AddG.high (A:AddG H nd i H') (h:Few H.nodes k):Few H'.nodes (k+1):=A.ext.elim (λ e=>e▸h.mono (Nat.le_succ k)) λ e=>e▸h.high nd
structure PutG (H:HC) (k k':Nat) (p:Put):Prop where
  hist:Hist p.h
  ext:∃ M,p.h.nodes=H.nodes++M
  few:Few H.nodes k→Few p.h.nodes k'
theorem Zbw {c:Nat} (hc:Zu2 c) (h:Hist H) (hb:H.nodes.length≤100):PutG H k k (addP H ([c],[]))∧leafAt (addP H ([c],[])).h.nodes (addP H ([c],[])).i:=by
  have ok:okW [c]∧[c].head?≠some 63:=by
    cases hc with
    | a=>exact ⟨Qo (by kernel_rfl),by decide⟩
    | b=>exact ⟨Qo (by kernel_rfl),by decide⟩
  have A:=h.addG (nd:=([c],[])) ⟨ok.1.op,ok.2,Z63 _,Yc⟩ ok.1 hb
  exact ⟨⟨A.hist,A.more (M:=[]) (List.append_nil _).symm,λ f=>A.low f (.leaf hc)⟩,c,hc,A.at_⟩
theorem put0 {t:Tm} (ht:LwT 0 t) (h:Hist H) (hb:H.nodes.length≤100):PutG H k k (putP t H)∧leafAt (putP t H).h.nodes (putP t H).i:=by
  cases ht with
  | a=>exact Zbw .a h hb
  | b=>exact Zbw .b h hb
theorem Z3s:okW [102]:=Qo (by kernel_rfl)
theorem Z3r:okW [103]:=Qo (by kernel_rfl)
end
end PL
end
section
open PySem PySem.W
namespace PL
section
variable {H:HC} {t u:Tm} {k k1 d:Nat}
theorem Z36:Zgg [102]:=⟨Z3s.op,by decide⟩
theorem Z35:Zgg [103]:=⟨Z3r.op,by decide⟩
theorem LwT.le3 (h:LwT d t) (hd:d≤1):Ym t≤3:=by
  refine Z6p (Jr h).2 ?_
  cases hd with
  | refl=>exact Z6q 3
  | step h=>rw [Nat.le_zero.mp h]; exact ble
theorem Z5e (h:LwT d t) (hd:d≤1) (P:PutG H k k1 (putP t H)) (O:Okay H) (hb:H.nodes.length≤90):AddG (putP t H).h ([102],[(putP t H).i]) (putP (.one [102] t) H).i (putP (.one [102] t) H).h:=
  have R:=Qn t O (Jr h).1
  P.hist.addG (.of Z36 ble λ k=>Zl9 R.lt) Z3s (Z6p R.nodes (Z6p (Nat.add_le_add hb (h.le3 hd)) ble))
theorem Z5d (h:LwT d t) (h2:LwT d u) (hd:d≤1) (P:PutG H k k1 (putP u (putP t H).h)) (O:Okay H) (hb:H.nodes.length≤90):AddG (putP u (putP t H).h).h ([103],[(putP t H).i,(putP u (putP t H).h).i]) (putP (.two [103] t u) H).i (putP (.two [103] t u) H).h:=
  have R:=Qn t O (Jr h).1
  have R2:=Qn u R.ok (Jr h2).1
  P.hist.addG (.of Z35 ble λ k=>Zpt (Z6t R.lt R2.ge) R2.lt) Z3r (Z6p R2.nodes (Z6p (Nat.add_le_add (Z6p R.nodes (Nat.add_le_add hb (h.le3 hd))) (h2.le3 hd)) ble))
theorem Zx8 (h:LwT d t) (hd:d≤1) (O:Okay H) (hb:H.nodes.length≤87):(putP t H).h.nodes.length≤90:=Z6p (Qn t O (Jr h).1).nodes (Nat.add_le_add hb (h.le3 hd))
theorem PutG.trans (P:PutG H k k1 (putP t H)) {k2:Nat} (Q:PutG (putP t H).h k1 k2 (putP u (putP t H).h)):PutG H k k2 (putP u (putP t H).h):=⟨Q.hist,P.ext.elim λ M q=>Q.ext.elim λ M2 q2=>⟨M++M2,by rw [q2,q,Z7d]⟩,λ f=>Q.few (P.few f)⟩
theorem le90 {n m:Nat} (h:n≤m) (hm:Nat.ble m 100=true:=by rfl):n≤100:=Z6p h (Z6y hm)
theorem put1 (ht:LwT 1 t) (h:Hist H) (hb:H.nodes.length≤80):PutG H k k (putP t H):=by
  cases ht with
  | a=>exact (Zbw .a h (le90 hb)).1
  | b=>exact (Zbw .b h (le90 hb)).1
  | f h1=>
    obtain ⟨P,hl⟩:=put0 (k:=k) h1 h (le90 hb)
    have A:=Z5e h1 ble P h.okay (Z6p hb ble)
    exact ⟨A.hist,P.ext.elim λ M q=>A.more q,λ f=>A.low (P.few f) (.f hl)⟩
  | g h1 h2=>
    obtain ⟨P,hl⟩:=put0 (k:=k) h1 h (le90 hb)
    obtain ⟨Q,hl2⟩:=put0 (k:=k) h2 P.hist (le90 (Zx8 h1 ble h.okay (Z6p hb ble)))
    have PQ:=P.trans Q
    have A:=Z5d h1 h2 ble PQ h.okay (Z6p hb ble)
    exact ⟨A.hist,PQ.ext.elim λ M q=>A.more q,λ f=>A.low (PQ.few f) (.g (Q.ext.elim λ M q=>q▸hl.more M) hl2)⟩
theorem put2 (ht:LwT 2 t) (h:Hist H) (hb:H.nodes.length≤70):PutG H k (k+1) (putP t H):=by
  cases ht with
  | a=>have P:=(Zbw (k:=k) .a h (le90 hb)).1; exact ⟨P.hist,P.ext,λ f=>(P.few f).mono (Nat.le_succ k)⟩
  | b=>have P:=(Zbw (k:=k) .b h (le90 hb)).1; exact ⟨P.hist,P.ext,λ f=>(P.few f).mono (Nat.le_succ k)⟩
  | f h1=>
    have P:=put1 (k:=k) h1 h (Z6p hb ble)
    have A:=Z5e h1 ble P h.okay (Z6p hb ble)
    exact ⟨A.hist,P.ext.elim λ M q=>A.more q,λ f=>A.high (P.few f)⟩
  | g h1 h2=>
    have P:=put1 (k:=k) h1 h (Z6p hb ble)
    have Q:=put1 (k:=k) h2 P.hist (Z6p (Qn _ h.okay (Jr h1).1).nodes (Z6p (Nat.add_le_add hb (h1.le3 ble)) ble))
    have PQ:=P.trans Q
    have A:=Z5d h1 h2 ble PQ h.okay (Z6p hb ble)
    exact ⟨A.hist,PQ.ext.elim λ M q=>A.more q,λ f=>A.high (PQ.few f)⟩
structure Good (k:Nat) (H:HC):Prop where
  hist:Hist H
  few:Few H.nodes k
  rows:H.rows.length≤7*k
theorem Good.nodes (g:Good k H):H.nodes.length≤k+8:=g.few.bound g.hist.okay.nodup
theorem Good.nil:Good 0 Y4:=⟨.nil,⟨[],Z6q _,Yc⟩,Z6q _⟩
theorem Zh2 (O:Okay H) (h:H.waiting=[]):Qx H=H:=by
  have K:=O.settleW
  rw [if_pos h] at K
  exact K.go.empty h
theorem Good.step (g:Good k H) (hk:k≤40) {d:Deed} (hd:Zcd H.nodes.length d):Good (k+1) (Zhy H d):=by
  have hn:=g.nodes
  have O:=g.hist.okay
  have h7:∀ {n:Nat},n≤7→H.rows.length+n≤7*(k+1):=λ q=>Nat.add_le_add g.rows q
  have hb:H.nodes.length≤70:=Z6p hn (Z6p (Z6x hk 8) ble)
  cases hd with
  | @put t h=>
    have P:=put2 (k:=k) h g.hist hb
    exact ⟨P.hist,P.few g.few,Z6p (Qn t O (Jr h).1).rows (h7 (Jr h).2)⟩
  | @same a b r ha hb' hw hr=>
    have M:=O.merge ha hb' r
    have l:∀ {n:Nat},n < H.nodes.length→n < 100:=λ q=>Z6t q (Z6p hb ble)
    exact ⟨.add (r:=.same a b r) g.hist (.same ha hb' hr) (.same (l ha) (l hb') hw),by show Few (Qs H a b r).nodes _; rw [M.nodes]; exact g.few.mono (Nat.le_succ _),by show (Qs H a b r).rows.length≤_; rw [M.rows,Zd]; exact h7 ble⟩
  | settle h=>
    by_cases hw:H.waiting=[]
    · have e:Zhy H (.row .settle)=H:=Zh2 O hw
      rw [e]
      exact ⟨g.hist,g.few.mono (Nat.le_succ _),h7 (n:=0) ble⟩
    · have K:=O.settleW
      rw [if_neg hw] at K
      exact ⟨.add (r:=.settle) g.hist (.settle hw) .settle,by show Few (Qx H).nodes _; rw [K.nodes]; exact g.few.mono (Nat.le_succ _),by show (Qx H).rows.length≤_; rw [K.rows]; show (H.rows++[_]).length≤_; rw [Zd]; exact h7 ble⟩
theorem Zpx (O:Okay H) {d:Deed} (hd:Zcd H.nodes.length d):0 < (Zhy H d).nodes.length:=by
  cases hd with
  | put h=>exact Z6u (Z63 _) (Qn _ O (Jr h).1).lt
  | @same a b r ha hb hw hr=>show 0 < (Qs H a b r).nodes.length; rw [(O.merge ha hb r).nodes]; exact Z6u (Z63 _) ha
  | settle h=>
    have K:=O.settleW
    show 0 < (Qx H).nodes.length
    rw [K.nodes]
    by_cases hw:H.waiting=[]
    · rw [if_pos hw]; exact h
    · rw [if_neg hw]; exact h
end
end PL
end
section
open PySem PySem.W
namespace PL
noncomputable def Zjs:List PS:=[(.asg "words" (.lst [(.idx (.loc "row") (.cst (.int 0)))])),(.ifs (.cmp .Eq (.idx (.loc "row") (.cst (.int 0))) (.cst (.str [97,100,100]))) [(.asg "words" (.bin .Add (.bin .Add (.loc "words") (.lst [(.idx (.loc "row") (.cst (.int 1)))])) (.comp (.blt "str" [(.loc "n")]) ["n"] 0 [(.idx (.loc "row") (.cst (.int 2)))] [])))] [(.ifs (.cmp .Eq (.idx (.loc "row") (.cst (.int 0))) (.cst (.str [115,97,109,101]))) [(.asg "words" (.bin .Add (.loc "words") (.lst [(.blt "str" [(.idx (.loc "row") (.cst (.int 1)))]),(.blt "str" [(.idx (.loc "row") (.cst (.int 2)))]),(.idx (.idx (.loc "row") (.cst (.int 3))) (.cst (.int 0))),(.idx (.idx (.loc "row") (.cst (.int 3))) (.cst (.int 1)))]))),(.for ["name","n"] 1 [(.cond (.cmp .Eq (.idx (.idx (.loc "row") (.cst (.int 3))) (.cst (.int 0))) (.cst (.str [114,117,108,101]))) (.idx (.idx (.loc "row") (.cst (.int 3))) (.cst (.int 2))) (.tup []))] [(.asg "words" (.bin .Add (.loc "words") (.lst [(.loc "name"),(.blt "str" [(.loc "n")])])))])] [])]),(.asg "found" (.bin .Add (.bin .Add (.loc "found") (.mth (.cst (.str [32])) "join" [(.loc "words")])) (.cst (.str [10]))))]
section
variable {j rw:Nat} {σ:St} {ν:Fm} {acc:CS} {ws:List CS} {ps:List (CS×Nat)} {k w:CS} {more:List AVal} {r:Row}
theorem Zis:∀ {ps:List (CS×Nat)} {ws:List CS} {ν:Fm},(∀ p∈ps,p.2 < 100)→ws.length+2*ps.length≤1000→ν "words"=some (.lst (ws.map .str))→ν "found"=some (.str acc)→
    ∃ ν',ForR j none ["name","n"] [(.asg "words" (.bin .Add (.loc "words") (.lst [(.loc "name"),(.blt "str" [(.loc "n")])])))] (ps.map λ p=>[.str p.1,nA p.2]) ν σ .next ν' σ∧ν' "words"=some (.lst ((ws++plW ps).map .str))∧ν' "found"=some (.str acc)
  | [],ws,ν,_,_,h1,h2=>⟨ν,.nil Zl,h1.trans (by rw [show plW []=[] from rfl,List.append_nil]),h2⟩
  | p::ps,ws,ν,hp,hl,h1,h2=>by
    have hl':ws.length+2+2*ps.length≤1000:=by rw [Z7f,Nat.mul_succ,Nat.add_comm (2*_),← Z60] at hl; exact hl
    obtain ⟨ν',h3,h4,h5⟩:=Zis (ps:=ps) (ws:=ws++[p.1,decI p.2]) (ν:=upd (upd (upd ν "name" (.str p.1)) "n" (nA p.2)) "words" (.lst (ws.map .str++[.str p.1,strD p.2]))) (λ q hq=>hp q (Z67 _ hq)) (by rw [Z69]; exact hl') ((Zi ..).trans (by rw [List.map_append]; rfl)) (Za (Za (Za h2)))
    refine ⟨ν',.turn Zl rfl (Qk (Yr (Qi (Zc (Za (Za h1))) (Zan (es2 (Zc (Za (Zi ..))) (Zja (hp p Z66) (Zc (Zi ..))))) (.addL (.lst _) (.lst _) (by rw [Z68]; exact Z6p (Z6p (Z6r _ _) hl') ble))))) h3,h4.trans ?_,h5⟩
    rw [Z7d]; rfl
theorem Zjr (h:J3 r) (h1:ν "words"=some (.lst ((Yg r).map .str))) (h2:ν "found"=some (.str acc)) (hl:acc.length≤15000):ExS j (.asg "found" (.bin .Add (.bin .Add (.loc "found") (.mth (.cst (.str [32])) "join" [(.loc "words")])) (.cst (.str [10])))) ν σ .next (upd ν "found" (.str (acc++(Zq r++[10])))) σ:=by
  have hlen:=Je h
  have b1:acc.length+(Zq r).length≤15063:=Nat.add_le_add hl hlen
  refine Yr ((Qi (Qi (Zc h2) (e_jn (Zc h1) rfl (Za6 h) (Zeg h)) (.addS (Z6p b1 ble))) Ze (.addS (y:=[10]) (by rw [Z69]; exact Z6p (Z6v b1) ble))).eqv (Z7r AVal.str (Z7d ..)))
theorem Zlr {a b:Nat} {r:Reason} (h:J3 (.same a b r)) (h1:a < 100) (h2:b < 100) (hre:Zt r=.tup (.str k::.str w::more)) (hm:more.length≤1) (hrw:Zgf r=k::w::plW ps) (P:PlR ps) (hr:ν "row"=some (rowA (.same a b r))) (hf:ν "found"=some (.str acc)) (hl:acc.length≤15000)
    (hsrc:∀ {ν:Fm},EvE j (.idx (.loc "row") (.cst (.int 3))) ν σ (Zt r) σ→EvE j (.cond (.cmp .Eq (.idx (.idx (.loc "row") (.cst (.int 3))) (.cst (.int 0))) (.cst (.str [114,117,108,101]))) (.idx (.idx (.loc "row") (.cst (.int 3))) (.cst (.int 2))) (.tup [])) ν σ (.tup (ps.map Qy)) σ):
    ∃ ν',ExB j Zjs ν σ .next ν' σ∧ν' "found"=some (.str (acc++(Zq (.same a b r)++[10]))):=by
  have rr:∀ {ν:Fm},ν "row"=some (rowA (.same a b r))→EvE j (.loc "row") ν σ (.tup [.str Q5,nA a,nA b,Zt r]) σ:=λ h=>Zc h
  have hmm:(AVal.str k::.str w::more).length≤16000:=Z6p (Z6v (Z6v hm)) ble
  have n1:upd ν "words" (.lst [.str Q5]) "row"=some (rowA (.same a b r)):=Za hr
  have e3:EvE j (.idx (.loc "row") (.cst (.int 3))) (upd ν "words" (.lst [.str Q5])) σ (.tup (.str k::.str w::more)) σ:=hre▸e_at (rr n1) 3 rfl ble
  have n2:upd (upd ν "words" (.lst [.str Q5])) "words" (.lst ([Q5,decI a,decI b,k,w].map .str)) "row"=some (rowA (.same a b r)):=Za n1
  obtain ⟨ν',hfor,hw',hf'⟩:=Zis (j:=j) (σ:=σ) (acc:=acc) (ps:=ps) (ws:=[Q5,decI a,decI b,k,w]) (ν:=upd (upd ν "words" (.lst [.str Q5])) "words" (.lst ([Q5,decI a,decI b,k,w].map .str))) P.num (Z6p (Z6w (Nat.mul_le_mul_left 2 P.len) 5) ble) (Zi ..) (Za (Za hf))
  exact ⟨_,Qj (Yr (Zan (es1 (e_at (rr hr) 0 rfl ble)))) (Qj (Zio (Q9 (e_at (rr n1) 0 rfl ble)) (Qk (Zau (Zca (e_at (rr n1) 0 rfl ble) rfl) (Qj (Yr (Qi (Zc (Zi ..)) (Zan (.cons (Zja h1 (e_at (rr n1) 1 rfl ble)) (.cons (Zja h2 (e_at (rr n1) 2 rfl ble)) (es2 (e_at e3 0 rfl hmm) (e_at e3 1 rfl hmm))))) (.addL (.lst _) (.lst _) ble)))
    (Qk (Zhz (es1 (hsrc (e_at (rr n2) 3 rfl ble))) (Jp ps) hfor)))))) (Qk (Zjr h (hw'.trans (by rw [show Yg (.same a b r)=Q5::decI a::decI b::Zgf r from rfl,hrw]; rfl)) hf' hl))),Zi ..⟩
theorem Zxg (h:J3 r) (hr:ν "row"=some (rowA r)) (hf:ν "found"=some (.str acc)) (hl:acc.length≤15000):∃ ν',ExB j Zjs ν σ .next ν' σ∧ν' "found"=some (.str (acc++(Zq r++[10]))):=by
  have h0:=h
  cases h with
  | @add op ks h1 h2 h3=>
    have rr:∀ {ν:Fm},ν "row"=some (rowA (.add op ks))→EvE j (.loc "row") ν σ (.tup [.str sADD,.str op,.tup (ks.map nA)]) σ:=λ h=>Zc h
    have n1:upd ν "words" (.lst [.str sADD]) "row"=some (rowA (.add op ks)):=Za hr
    refine ⟨_,Qj (Yr (Zan (es1 (e_at (rr hr) 0 rfl ble)))) (Qj (Zau (Zca (e_at (rr n1) 0 rfl ble) rfl) (Qk (Yr ((Qi (Qi (Zc (Zi ..)) (Zan (es1 (e_at (rr n1) 1 rfl ble))) (.addL (.lst _) (.lst _) ble)) (Q3 (es1 (e_at (rr n1) 2 rfl ble)) (.tup (ks.map nA)) (Z0c h3 h2)) (.addL (.lst _) (.lst _) ?_)).eqv (w:=.lst ((Yg (.add op ks)).map .str)) ?_)))) (Qk (Zjr h0 (Zi ..) (Za (Za hf)) hl))),Zi ..⟩
    · show 2+(ks.map strD).length≤_; rw [Z68]; exact Z6p (Z6w h2 2) ble
    · show AVal.lst (.str sADD::.str op::ks.map strD)=AVal.lst (.str sADD::.str op::List.map AVal.str (List.map _ ks)); rw [Zkg]
  | @same a b r h1 h2 h3=>
    cases h3 with
    | told hw=>exact Zlr (ps:=[]) h0 h1 h2 rfl (Z63 _) rfl ⟨Z63 _,Yc,Yc⟩ hr hf hl λ e=>Zd5 (Q9 (e_at (xs:=[.str Zl3,.str _]) e 0 rfl ble)) (Yq es0)
    | @rule w ps hw hp=>exact Zlr (ps:=ps) h0 h1 h2 rfl (Z6q 1) rfl hp.all hr hf hl λ e=>Zd4 (Zca (e_at (xs:=[.str Zgc,.str w,.tup (ps.map Qy)]) e 0 rfl ble) rfl) (e_at (xs:=[.str Zgc,.str w,.tup (ps.map Qy)]) e 2 rfl ble)
  | settle=>
    have rr:∀ {ν:Fm},ν "row"=some (rowA .settle)→EvE j (.loc "row") ν σ (.tup [.str Za5]) σ:=λ h=>Zc h
    have n1:upd ν "words" (.lst [.str Za5]) "row"=some (rowA .settle):=Za hr
    exact ⟨_,Qj (Yr (Zan (es1 (e_at (rr hr) 0 rfl ble)))) (Qj (Zio (Q9 (e_at (rr n1) 0 rfl ble)) (Qk (Zn (Q9 (e_at (rr n1) 0 rfl ble))))) (Qk (Zjr h0 (Zi ..) (Za hf) hl))),Zi ..⟩
theorem Zls {g:Option (Nat×List AVal)} (hst:Jy g σ):∀ {rs:List Row} {ν:Fm} {acc:CS},(∀ r∈rs,J3 r)→acc.length+64*rs.length≤15000→ν "found"=some (.str acc)→
    ∃ ν',ForR j g ["row"] Zjs ((rs.map rowA).map λ x=>[x]) ν σ .next ν' σ∧ν' "found"=some (.str (acc++Yi rs))
  | [],ν,acc,_,_,h=>⟨ν,.nil hst,h.trans (by rw [show Yi []=[] from rfl,List.append_nil])⟩
  | r::rs,ν,acc,hw,hl,h=>by
    have hr:=hw r Z66
    rw [Z7f,Nat.mul_succ,Nat.add_comm (64*_),← Z60] at hl
    obtain ⟨ν1,e1,f1⟩:=Zxg (j:=j) (σ:=σ) hr (ν:=upd ν "row" (rowA r)) (Zi ..) (Za h) (Z6p (Z6r _ _) (Z6p (Z6r _ _) hl))
    obtain ⟨ν2,e2,f2⟩:=Zls hst (rs:=rs) (ν:=ν1) (acc:=acc++(Zq r++[10])) (λ q hq=>hw q (Z67 _ hq)) (by rw [Z69,Zd]; exact Z6p (Z6x (Z6w (Z6v (Je hr)) _) _) hl) f1
    exact ⟨ν2,.turn hst rfl e1 e2,f2.trans (by rw [Z7d]; rfl)⟩
theorem Zrw {rs:List Row} (hf:σ.f rw=some (.list (rs.map rowA))) (hw:∀ r∈rs,J3 r) (hl:rs.length≤200):CallR (j+1) "_law_text" [.ref rw] σ (.str (Yi rs)) σ:=
  have ⟨ν',h1,h2⟩:=Zls (j:=j) (g:=some (rw,rs.map rowA)) (σ:=σ) (λ p hp=>Z7g hp▸hf) (ν:=upd (upd (λ zz=>none) "rows" (.ref rw)) "found" (.str [])) (acc:=[]) hw (Z6p (Z6w (Nat.mul_le_mul_left 64 hl) _) ble) (Zi ..)
  Zg Zmy rfl (Zb (Yr Ze) (Zb (Zhz (es1 (Zc (Za (Zi ..)))) (.ref hf) h1) (Z0 (Zc h2))))
end
end PL
end
section
open PySem PySem.W
namespace PL
theorem Cmpb.up {n m:Nat} {x y:AVal} (h:Cmpb n x y):n≤m→Cmpb m x y:=by
  induction h generalizing m with
  | none=>exact λ zz=>.none m
  | bool _ a b=>exact λ zz=>.bool m a b
  | int _ a b=>exact λ zz=>.int m a b
  | str _ a b=>exact λ zz=>.str m a b
  | tup _ ih=>
    cases m with
    | zero=>exact λ q=>absurd q (Nat.not_succ_le_zero _)
    | succ m=>exact λ q=>.tup λ i a b h1 h2=>ih i a b h1 h2 (Nat.le_of_succ_le_succ q)
  | lst _ ih=>
    cases m with
    | zero=>exact λ q=>absurd q (Nat.not_succ_le_zero _)
    | succ m=>exact λ q=>.lst λ e i a b h1 h2=>ih e i a b h1 h2 (Nat.le_of_succ_le_succ q)
def PlE (H:HC):Prop:=∀ p∈H.edges,Cmpb 3 p.2.2 p.2.2
section
variable {H H':HC} {n:Nat} {nd key:Nd}
theorem PlE.same (h:PlE H) (e:H'.edges=H.edges):PlE H':=by unfold PlE; rw [e]; exact h
theorem PlE.more {a b:Nat} {r:AVal} (h:PlE H) (hr:Cmpb 3 r r) (e:H'.edges=H.edges++[(a,b,r)]):PlE H':=by
  unfold PlE
  rw [e]
  exact λ p hp=>(Jq.mp hp).elim (h p) λ q=>by rw [q]; exact hr
theorem Zsj:Cmpb 3 Zsk Zsk:=Yy (all_cons (.str _ _ _) Yc)
theorem Zmq:(Qf H key n).edges=H.edges:=by
  unfold Qf
  cases H.known.lookup key <;> rfl
theorem PlE.look (h:PlE H) (n:Nat) (nd:Nd):PlE (Zgq H n nd):=by
  have h1:PlE (Qf H (nkey H nd) n):=h.same Zmq
  unfold Zgq
  by_cases q:find H.par (Qd H (nkey H nd) n)=find H.par n
  · rw [if_pos q]; exact h1
  · rw [if_neg q]; exact h1.more Zsj rfl
theorem PlE.settles (s:Settles H H'):PlE H→PlE H':=by
  induction s with
  | done _=>exact id
  | @turn H H' ws n nd _ _ _ ih=>exact λ h=>ih (PlE.look (H:=hPop H ws) (h.same rfl) _ _)
theorem Zgp:∀ {cs:List Nat} {H:HC},(Zso n cs H).edges=H.edges
  | [],H=>rfl
  | c::cs,H=>(Zgp (cs:=cs) (H:=Zcu H n c)).trans rfl
theorem Hist.plain (h:Hist H):PlE H:=by
  induction h with
  | nil=>exact Yc
  | @add H r h hr hw ih=>
    cases hr with
    | @add op ks hn he=>
      have e1:doH H (.add op ks)=hRow (Qm H (op,ks)) (.add op ks):=by show addH H (op,ks)=_; rw [addH,he]
      rw [e1]
      exact PlE.same (H:=Qm H (op,ks)) (PlE.look (H:=Zmp H (op,ks)) (ih.same Zgp) _ _) rfl
    | @same a b r ha hb hr=>
      show PlE (Qs H a b r)
      unfold Qs
      by_cases q:find H.par a=find H.par b
      · rw [if_pos q]; exact ih.more (Za7 r) rfl
      · rw [if_neg q]; exact ih.more (Za7 r) rfl
    | settle hw'=>
      have K:=h.okay.settleW
      rw [if_neg hw'] at K
      exact PlE.settles K.go (ih.same rfl)
noncomputable def lotA (H:HC) (c:Nat):AVal:=.tup [nA c,.lst ((memH H c).map .int),.lst ((setK (Zqd H c)).map Zr),.lst ((useH H c).map nA)]
noncomputable def Ztq (H:HC):AVal:=.tup [.lst ((clsH H).map (lotA H)),.lst (H.edges.map Zo9),.lst (H.forest.map nA),nA H.nodes.length,.bool (decide (H.waiting=[])),.lst ((srtN (H.waiting.map Int.ofNat)).map .int)]
theorem Zqx {n:Nat} (is:List Int):Cmpb (n+1) (.lst (is.map .int)) (.lst (is.map .int)):=Zda (all_map λ zz=>.int _ _ _)
theorem Zqf {n:Nat} (ks:List Nat):Cmpb (n+1) (.lst (ks.map nA)) (.lst (ks.map nA)):=Zda (all_map λ zz=>.int _ _ _)
theorem Zuz (H:HC) (c:Nat):Cmpb 3 (lotA H c) (lotA H c):=Yy (all_cons (.int _ _ _) (all_cons (Zqx _) (all_cons (Zda (all_map Zsb)) (all_cons (Zqf _) Yc))))
theorem Zsw (h:PlE H):∀ x∈H.edges.map Zo9,Cmpb 4 x x:=λ x hx=>(Z7b.mp hx).elim λ p q=>q.2▸Yy (all_cons (.int _ _ _) (all_cons (.int _ _ _) (all_cons (h p q.1) Yc)))
theorem Zrs (h:Hist H):Cmpb 6 (Ztq H) (Ztq H):=Yy (all_cons ((Zda (all_map (Zuz H))).up ble) (all_cons (Zda (Zsw h.plain)) (all_cons (Zqf _) (all_cons (.int _ _ _) (all_cons (.bool _ _ _) (all_cons (Zqx _) Yc))))))
theorem Z40 {c:Nat} (h:c∈clsH H):c < H.nodes.length:=List.mem_range.mp (List.mem_filter.mp h).1
end
section
variable {j st:Nat} {σ:St} {L:Fld→Nat} {H:HC}
theorem Zp0 (s:Sty σ st L H) (h:Hist H) (b:H.nodes.length≤31) (b2:H.rows.length≤190):CallR (j+6) "_law_state" [.ref st] σ (Ztq H) σ:=by
  have O:=h.okay
  have S:Ye H:=⟨Z6p b ble,Z6p b2 ble⟩
  have B:=O.room S
  have R:=s.rep
  have hu:∀ c,(Z2 H c).length≤63:=λ c=>Z6p (O.toCore.use_le c) (Z6p (Nat.mul_le_mul_left 2 b) ble)
  have hl:(clsH H).length≤31:=Z6p (List.length_filter_le _ _) (by rw [List.length_range]; exact b)
  have eh:∀ {ν:Fm},ν "heap"=some (.ref (L .h))→EvE (j+5) (.loc "heap") ν σ (.ref (L .h)) σ:=λ h=>Zc h
  have hg:LcR (j+5) none ["c"] [] (.tup [(.loc "c"),(.mth (.loc "heap") "members" [(.loc "c")]),(.mth (.loc "heap") "nodes_of" [(.loc "c")]),(.mth (.loc "heap") "users" [(.loc "c")])]) (upd (upd (λ zz=>none) "story" (.ref st)) "heap" (.ref (L .h))) (((clsH H).map nA).map λ x=>[x]) [] σ ([]++(clsH H).map (lotA H)) σ:=
    Zdj Zl (λ c hc=>have hcl:=Z40 hc
      have eh:=eh (ν:=upd (hide (upd (upd (λ zz=>none) "story" (.ref st)) "heap" (.ref (L .h)))) "c" (nA c)) (by kernel_rfl)
      Yq (.cons (Zc (Zi ..)) (es3 (Yb eh R.hobj (es1 (Zc (Zi ..))) (Zil R O.toCore S hcl)) (Yb eh R.hobj (es1 (Zc (Zi ..))) (Zn9 R O.toCore S hcl)) (Yb eh R.hobj (es1 (Zc (Zi ..))) (Zxo R O.toCore S hcl (hu _)))))) (lc0 hl)
  have eh2:=eh (ν:=upd (upd (upd (λ zz=>none) "story" (.ref st)) "heap" (.ref (L .h))) "lots" (.lst ([]++(clsH H).map (lotA H)))) (by kernel_rfl)
  exact Zg Zkv rfl (Zb (Yr (Zwj s e_lk)) (Zb (Zz1 (es1 (Yb (eh (by kernel_rfl)) R.hobj es0 (Zry R O.toCore S))) (.lst _) hg)
    (Z0 (Yq (.cons (Zc (Zi ..)) (.cons (Yl (es1 (Zs eh2 R.hobj)) (.list (.ref R.edges) (Zf (le15 B.e)))) (.cons (Yl (es1 (Zs eh2 R.hobj)) (.list (.ref R.forest) (Zf (le15 B.f))))
      (es3 (Yb eh2 R.hobj es0 (Zj0 R S)) (Yb eh2 R.hobj es0 (Zej R O S)) (Yl (es1 (Zs eh2 R.hobj)) (.sorted (.ref R.waiting) (Zgj _).symm (Zf (le15 B.w))))))))))))
end
end PL
end
section
open PySem PySem.W
namespace PL
section
variable {j fd nd rw st k i:Nat} {σ σ':St} {L L':Fld→Nat} {H H' H2:HC} {cells:List Int} {spot s:Nat} {ν:Fm} {id:Nat}
structure Z5m (σ σ':St) (P:Nat→Prop):Prop where
  n:σ.n≤σ'.n
  f:∀ id,P id→σ'.f id=σ.f id
theorem Out.up (o:Out σ L H id) (hn:σ.n≤σ'.n):Out σ' L H id:=⟨Z6t o.lt hn,o.ne⟩
theorem Sty.keep {P:Nat→Prop} (s:Sty σ st L H) (K:Z5m σ σ' P) (h:∀ f,act H f→P (L f)) (ho:P st):Sty σ' st L H:=
  ⟨⟨s.rep.inj,λ f hf=>Z6t (s.rep.lt f hf) K.n,λ f hf=>(K.f _ (h f hf)).trans (s.rep.val f hf)⟩,s.out.up K.n,(K.f _ ho).trans s.obj⟩
structure Own (σ:St) (fd nd rw:Nat) (H:HC) (cells:List Int) (spot:Nat):Prop where
  feed:σ.f fd=some (J9 cells spot)
  nodes:σ.f nd=some (.list (H.nodes.map Zr))
  rows:σ.f rw=some (.list (H.rows.map rowA))
  n1:fd≠nd
  n2:fd≠rw
  n3:nd≠rw
structure Apt (σ:St) (fd nd rw st:Nat) (L:Fld→Nat) (H:HC):Prop where
  of:Out σ L H fd
  on:Out σ L H nd
  or:Out σ L H rw
  s1:st≠fd
  s2:st≠nd
  s3:st≠rw
theorem Apt.up (o:Apt σ fd nd rw st L H) (hn:σ.n≤σ'.n):Apt σ' fd nd rw st L H:=⟨o.of.up hn,o.on.up hn,o.or.up hn,o.s1,o.s2,o.s3⟩
theorem Apt.step (o:Apt σ fd nd rw st L H) (t:Tr σ L H σ' L' H'):Apt σ' fd nd rw st L' H':=⟨t.out o.of,t.out o.on,t.out o.or,o.s1,o.s2,o.s3⟩
theorem Own.tr (w:Own σ fd nd rw H cells spot) (o:Apt σ fd nd rw st L H') (t:Tr σ L H' σ' L' H2):Own σ' fd nd rw H cells spot:=⟨(t.same o.of).trans w.feed,(t.same o.on).trans w.nodes,(t.same o.or).trans w.rows,w.n1,w.n2,w.n3⟩
theorem Own.fed (w:Own σ fd nd rw H cells spot) (F:Fed σ fd cells s σ'):Own σ' fd nd rw H cells s:=⟨F.feed,(F.old _ w.n1.symm).trans w.nodes,(F.old _ w.n2.symm).trans w.rows,w.n1,w.n2,w.n3⟩
theorem Fed.keeps (F:Fed σ fd cells s σ'):Z5m σ σ' (·≠fd):=⟨Z62 F.n.symm,F.old⟩
theorem Sty.fed (s:Sty σ st L H) (o:Apt σ fd nd rw st L H) {sp:Nat} (F:Fed σ fd cells sp σ'):Sty σ' st L H:=s.keep F.keeps (λ f hf=>o.of.ne f hf) o.s1
theorem Own.noted (w:Own σ fd nd rw H cells spot) (r:NRel nd rw σ σ' H'):Own σ' fd nd rw H' cells spot:=⟨(r.f fd w.n1 w.n2).trans w.feed,r.nodes,r.rows,w.n1,w.n2,w.n3⟩
theorem Sty.noted (s:Sty σ st L H) (o:Apt σ fd nd rw st L H) (r:NRel nd rw σ σ' H2):Sty σ' st L H:=s.keep (P:=λ id=>id≠nd∧id≠rw) ⟨Z62 r.n.symm,λ id q=>r.f id q.1 q.2⟩ (λ f hf=>⟨o.on.ne f hf,o.or.ne f hf⟩) ⟨o.s2,o.s3⟩
theorem Own.nrel (w:Own σ fd nd rw H cells spot):NRel nd rw σ σ H:=⟨rfl,λ zz zz zz=>rfl,w.nodes,w.rows⟩
structure Nm (ν:Fm) (fd nd rw st:Nat):Prop where
  feed:ν "feed"=some (.ref fd)
  nodes:ν "nodes"=some (.ref nd)
  rows:ν "rows"=some (.ref rw)
  story:ν "story"=some (.ref st)
noncomputable def Zfu:List String:=["feed","nodes","rows","story","again"]
theorem Zdd {x y:String} (h:Zfu.contains x=false) (hy:y∈Zfu):y≠x:=λ e=>absurd (List.contains_iff_mem.mpr (e▸hy)) (by rw [h]; exact Z7w)
theorem Nm.upd (m:Nm ν fd nd rw st) {x:String} {v:AVal} (h:Zfu.contains x=false:=by kernel_rfl):Nm (upd ν x v) fd nd rw st:=
  ⟨Za m.feed (Zdd h (.head _)),Za m.nodes (Zdd h (.tail _ (.head _))),Za m.rows (Zdd h (.tail _ (.tail _ (.head _)))),Za m.story (Zdd h (.tail _ (.tail _ (.tail _ (.head _)))))⟩
theorem Z0l (m:Nm ν fd nd rw st) (w:Own σ fd nd rw H cells spot) (hc:cells.length≤40) (hb:H.nodes.length≤100) (hs:spot+10≤10000):
    ∃ d s σ',Zcd H.nodes.length d∧s≤spot+10∧EvE (j+20) (.fn "_law_deed" [(.loc "feed"),(.blt "len" [(.loc "nodes")])]) ν σ (Zao d) σ'∧Fed σ fd cells s σ':=
  have ⟨d,s,σ',D⟩:=Z00 (j:=j+15) hc w.feed hb hs
  ⟨d,s,σ',D.ok,D.le,e_fn (es2 (Zc m.feed) ((Yl (es1 (Zc m.nodes)) (.len (.lst (.ref w.nodes)) (Zf (Z6p hb ble)))).eqv (by rw [Z68]))) D.call,D.fed⟩
theorem Znh (m:Nm ν fd nd rw st) (s:Sty σ st L H) (O:Okay H) (S:Ye H):EvE (j+20) (.mth (.att (.loc "story") "heap") "is_settled" []) ν σ (.bool (decide (H.waiting=[]))) σ:=Zcz s (Zc m.story) es0 (Zej s.rep O S)
noncomputable def Zu5:List PS:=[(.unp ["deed","is_settled"] (.tup [(.fn "_law_deed" [(.loc "feed"),(.blt "len" [(.loc "nodes")])]),(.mth (.att (.loc "story") "heap") "is_settled" [])])),(.unp ["told","due"] (.tup [(.fn "_law_done" [(.loc "story"),(.loc "deed")]),(.fn "_law_noted" [(.loc "nodes"),(.loc "rows"),(.loc "deed"),(.loc "is_settled")])])),(.ifs (.and (.cmp .Eq (.idx (.loc "deed") (.cst (.int 0))) (.cst (.str [112,117,116]))) (.cmp .NotEq (.loc "told") (.loc "due"))) [(.ret (.cst (.bool false)))] [])]
theorem Good.bounds (g:Good k H) (hk:k≤20):Bounds H:=⟨Z6p g.nodes (Z6p (Z6x hk 8) ble),Z6p g.rows (Z6p (Nat.mul_le_mul_left 7 hk) ble)⟩
theorem Zyn {d:Deed} {many:Nat} (hd:Zcd many d) (h:ν "deed"=some (Zao d)) (h1:ν "told"=some (Zwm H d)) (h2:ν "due"=some (Zun H d)):EvE j (.and (.cmp .Eq (.idx (.loc "deed") (.cst (.int 0))) (.cst (.str [112,117,116]))) (.cmp .NotEq (.loc "told") (.loc "due"))) ν σ (.bool false) σ:=by
  cases hd with
  | @put t _=>exact Jw (Zca (e_at (xs:=[.str sPUT,tmA t]) (Zc h) 0 rfl ble) rfl) (Zo (Zc h1) (Zc h2) (Zem (.int 0 _ _) ble))
  | @same a b r _ _ _ _=>exact Zc0 (Q9 (e_at (xs:=[.str Q5,nA a,nA b,Zt r]) (Zc h) 0 rfl ble))
  | settle _=>exact Zc0 (Q9 (e_at (xs:=[.str Za5]) (Zc h) 0 rfl ble))
structure Lap (fd nd rw st:Nat) (cells:List Int) (k:Nat) (ν:Fm) (σ:St) (L:Fld→Nat) (H:HC) (spot:Nat):Prop where
  m:Nm ν fd nd rw st
  s:Sty σ st L H
  w:Own σ fd nd rw H cells spot
  o:Apt σ fd nd rw st L H
  g:Good k H
theorem Zym (hc:cells.length≤40) (P:Lap fd nd rw st cells k ν σ L H spot) (hk:k≤20) (hsp:spot+10≤10000):
    ∃ ν' σ' L' H' s,ExB (j+20) Zu5 (upd ν "lap" (nA i)) σ .next ν' σ'∧Lap fd nd rw st cells (k+1) ν' σ' L' H' s∧s≤spot+10∧0 < H'.nodes.length:=by
  have O:=P.g.hist.okay
  have B:=P.g.bounds hk
  have m0:Nm (upd ν "lap" (nA i)) fd nd rw st:=P.m.upd
  obtain ⟨d,sp,σ1,hd,hle,ed,F⟩:=Z0l (j:=j) m0 P.w hc (Z6p B.n ble) hsp
  have s1:=P.s.fed P.o F
  have w1:=P.w.fed F
  have o1:=P.o.up F.keeps.n
  obtain ⟨σ2,L2,hdone,t2⟩:=Zob (j:=j+5) s1 O hd B
  have w2:=w1.tr o1 t2
  obtain ⟨σ3,hnote,r3⟩:=Zp1 (j:=j+12) w2.n3 O hd B w2.nrel
  have o2:=o1.step t2
  have m1:Nm (upd (upd (upd ν "lap" (nA i)) "deed" (Zao d)) "is_settled" (.bool (decide (H.waiting=[])))) fd nd rw st:=m0.upd.upd
  have d1:upd (upd (upd ν "lap" (nA i)) "deed" (Zao d)) "is_settled" (.bool (decide (H.waiting=[]))) "deed"=some (Zao d):=Za (Zi ..)
  have m2:Nm (upd (upd (upd (upd (upd ν "lap" (nA i)) "deed" (Zao d)) "is_settled" (.bool (decide (H.waiting=[])))) "told" (Zwm H d)) "due" (Zun H d)) fd nd rw st:=m1.upd.upd
  exact ⟨_,σ3,L2,Zhy H d,sp,Qj (Zoh (Yq (es2 ed (Znh m0 s1 O B.small))) (.tup _) rfl) (Qj (Zoh (Yq (es2 (e_fn (es2 (Zc m1.story) (Zc d1)) hdone) (e_fn (.cons (Zc m1.nodes) (es3 (Zc m1.rows) (Zc d1) (Zc (Zi ..)))) hnote))) (.tup _) rfl)
    (Qk (Zn (Zyn hd (Za (Za d1)) (Za (Zi ..)) (Zi ..))))),⟨m2,(s1.step t2).noted o2 r3,w2.noted r3,o2.up (Z62 r3.n.symm),P.g.step (Z6p hk ble) hd⟩,hle,Zpx O hd⟩
theorem Zqr (hc:cells.length≤40):∀ {is:List Nat} {σ:St} {L:Fld→Nat} {H:HC} {spot k:Nat} {ν:Fm},Lap fd nd rw st cells k ν σ L H spot→k+is.length≤20→spot+10*is.length≤5000→(is=[]→0 < H.nodes.length)→
    ∃ ν' σ' L' H' s,ForR (j+20) none ["lap"] Zu5 ((is.map nA).map λ x=>[x]) ν σ .next ν' σ'∧Lap fd nd rw st cells (k+is.length) ν' σ' L' H' s∧s≤spot+10*is.length∧0 < H'.nodes.length
  | [],σ,L,H,spot,k,ν,P,_,_,hp=>⟨ν,σ,L,H,spot,.nil Zl,P,Z6q _,hp rfl⟩
  | i::is,σ,L,H,spot,k,ν,P,hk,hsp,_=>by
    have e:k+(i::is).length=k+1+is.length:=by rw [Z7f,Z60,Nat.add_comm 1]
    have e2:spot+10*(i::is).length=spot+10+10*is.length:=by rw [Z7f,Nat.mul_succ,Z60,Nat.add_comm 10]
    rw [e] at hk
    rw [e2] at hsp
    obtain ⟨ν1,σ1,L1,H1,s1,e1,P1,b1,p1⟩:=Zym (j:=j) (i:=i) hc P (Z6p (Z6p (Nat.le_succ _) (Z6r _ _)) hk) (Z6p (Z6r _ _) (Z6p hsp ble))
    obtain ⟨ν2,σ2,L2,H2,s2,e2',P2,b2,p2⟩:=Zqr hc (is:=is) P1 hk (Z6p (Z6x b1 _) hsp) λ zz=>p1
    exact ⟨ν2,σ2,L2,H2,s2,.turn Zl rfl e1 e2',e▸P2,e2▸Z6p b2 (Z6x b1 _),p2⟩
end
end PL
end
section
open PySem PySem.W
namespace PL
section
variable {j fd nd rw st st2 k i:Nat} {σ σ':St} {L L' L2:Fld→Nat} {H H' H2 H3:HC} {cells:List Int} {spot s:Nat} {ν:Fm} {id:Nat}
def Apart (L:Fld→Nat) (H:HC) (L2:Fld→Nat) (H2:HC):Prop:=∀ f g,act H f→act H2 g→L f≠L2 g
theorem Apart.symm (a:Apart L H L2 H2):Apart L2 H2 L H:=λ f g hf hg e=>a g f hg hf e.symm
structure Two (σ:St) (fd nd rw st st2:Nat) (L L2:Fld→Nat) (H H2:HC):Prop where
  s:Sty σ st L H
  s2:Sty σ st2 L2 H2
  o:Apt σ fd nd rw st L H
  o2:Apt σ fd nd rw st2 L2 H2
  ap:Apart L H L2 H2
  x1:Out σ L H st2
  x2:Out σ L2 H2 st
theorem Two.symm (t:Two σ fd nd rw st st2 L L2 H H2):Two σ fd nd rw st2 st L2 L H2 H:=⟨t.s2,t.s,t.o2,t.o,t.ap.symm,t.x2,t.x1⟩
theorem Two.fed (t:Two σ fd nd rw st st2 L L2 H H2) (F:Fed σ fd cells s σ'):Two σ' fd nd rw st st2 L L2 H H2:=
  have le:=F.keeps.n
  ⟨t.s.fed t.o F,t.s2.fed t.o2 F,t.o.up le,t.o2.up le,t.ap,t.x1.up le,t.x2.up le⟩
theorem Two.noted (t:Two σ fd nd rw st st2 L L2 H H2) (r:NRel nd rw σ σ' H3):Two σ' fd nd rw st st2 L L2 H H2:=
  have le:=Z62 r.n.symm
  ⟨t.s.noted t.o r,t.s2.noted t.o2 r,t.o.up le,t.o2.up le,t.ap,t.x1.up le,t.x2.up le⟩
theorem Two.step (t:Two σ fd nd rw st st2 L L2 H H2) (d:Tr σ L H σ' L' H'):Two σ' fd nd rw st st2 L' L2 H' H2:=
  have o:∀ g,act H2 g→Out σ L H (L2 g):=λ g hg=>⟨t.s2.rep.lt g hg,λ f hf=>t.ap f g hf hg⟩
  ⟨t.s.step d,⟨⟨t.s2.rep.inj,λ g hg=>(d.out (o g hg)).lt,λ g hg=>(d.same (o g hg)).trans (t.s2.rep.val g hg)⟩,t.s2.out.up d.n,(d.same t.x1).trans t.s2.obj⟩,t.o.step d,t.o2.up d.n,λ f g hf hg=>(d.out (o g hg)).ne f hf,d.out t.x1,t.x2.up d.n⟩
theorem Zsz (H:HC) (d:Deed):Cmpb 0 (Zwm H d) (Zwm H d):=by
  cases d with
  | put t=>exact .int _ _ _
  | row r=>cases r with
    | add _ _=>exact .none _
    | same _ _ _=>exact .bool _ _ _
    | settle=>exact .none _
structure Nm2 (ν:Fm) (fd nd rw st st2:Nat):Prop extends Nm ν fd nd rw st where
  again:ν "again"=some (.ref st2)
theorem Nm2.upd (m:Nm2 ν fd nd rw st st2) {x:String} {v:AVal} (h:Zfu.contains x=false:=by kernel_rfl):Nm2 (upd ν x v) fd nd rw st st2:=⟨m.toNm.upd h,Za m.again (Zdd h (.tail _ (.tail _ (.tail _ (.tail _ (.head _))))))⟩
theorem Zhi {x:String} (s:Sty σ st L H) (hx:ν x=some (.ref st)) (hr:ν "rows"=some (.ref rw)) (hf:σ.f rw=some (.list (H.rows.map rowA))) (hl:H.rows.length≤200):EvE (j+20) (.cmp .NotEq (.mth (.loc x) "rows" []) (.loc "rows")) ν σ (.bool false) σ:=
  Zo (Q0 s (Zc hx) es0 (Zjz s hl)) (Zc hr) (Zon (.lst _) (.ref hf) (Zub H.rows) ble)
theorem Zjb {a b:String} (s:Sty σ st L H) (s2:Sty σ st2 L2 H) (h:Hist H) (b1:H.nodes.length≤31) (b2:H.rows.length≤190) (ha:ν a=some (.ref st2)) (hb:ν b=some (.ref st)):EvE (j+20) (.cmp .NotEq (.fn "_law_state" [(.loc a)]) (.fn "_law_state" [(.loc b)])) ν σ (.bool false) σ:=
  Zo (e_fn (es1 (Zc ha)) (Zp0 (j:=j+14) s2 h b1 b2)) (e_fn (es1 (Zc hb)) (Zp0 (j:=j+14) s h b1 b2)) (Zem (Zrs h) ble)
theorem Rows2.refl (h:H.rows.length≤200):Rows2 H H:=⟨h,h,λ k r r2 h1 h2=>Z7g (h1.symm.trans h2)⟩
theorem Zs9:Zjo H H=.int (-1):=if_pos rfl
theorem Good.b31 (g:Good k H) (hk:k≤23):H.nodes.length≤31:=Z6p g.nodes (Z6x hk 8)
theorem Good.b190 (g:Good k H) (hk:k≤27):H.rows.length≤190:=Z6p g.rows (Z6p (Nat.mul_le_mul_left 7 hk) ble)
noncomputable def Zqs:List PS:=[(.asg "deed" (.fn "_law_deed" [(.loc "feed"),(.blt "len" [(.loc "nodes")])])),(.exp (.fn "_law_noted" [(.loc "nodes"),(.loc "rows"),(.loc "deed"),(.mth (.att (.loc "story") "heap") "is_settled" [])])),(.ifs (.or (.cmp .NotEq (.fn "_law_done" [(.loc "story"),(.loc "deed")]) (.fn "_law_done" [(.loc "again"),(.loc "deed")])) (.cmp .NotEq (.mth (.loc "story") "rows" []) (.loc "rows"))) [(.ret (.cst (.bool false)))] []),(.ifs (.or (.cmp .NotEq (.fn "_law_state" [(.loc "again")]) (.fn "_law_state" [(.loc "story")])) (.cmp .NotEq (.mth (.loc "story") "alike_with" [(.loc "again")]) (.neg (.cst (.int 1))))) [(.ret (.cst (.bool false)))] [])]
structure Lap2 (fd nd rw st st2:Nat) (cells:List Int) (k:Nat) (ν:Fm) (σ:St) (L L2:Fld→Nat) (H:HC) (spot:Nat):Prop where
  m:Nm2 ν fd nd rw st st2
  t:Two σ fd nd rw st st2 L L2 H H
  w:Own σ fd nd rw H cells spot
  g:Good k H
  pos:0 < H.nodes.length
theorem Zu4 (hc:cells.length≤40) (P:Lap2 fd nd rw st st2 cells k ν σ L L2 H spot) (hk:k≤20) (hsp:spot+10≤10000):
    ∃ ν' σ' L' L2' H' s,ExB (j+20) Zqs (upd ν "lap" (nA i)) σ .next ν' σ'∧Lap2 fd nd rw st st2 cells (k+1) ν' σ' L' L2' H' s∧s≤spot+10:=by
  have O:=P.g.hist.okay
  have B:=P.g.bounds hk
  have m0:Nm2 (upd ν "lap" (nA i)) fd nd rw st st2:=P.m.upd
  obtain ⟨d,sp,σ1,hd,hle,ed,F⟩:=Z0l (j:=j) m0.toNm P.w hc (Z6p B.n ble) hsp
  have g':=P.g.step (Z6p hk ble) hd
  have hk':k+1≤21:=Z6v hk
  have t1:=P.t.fed F
  have w1:=P.w.fed F
  have m1:Nm2 (upd (upd ν "lap" (nA i)) "deed" (Zao d)) fd nd rw st st2:=m0.upd
  obtain ⟨σ2,hnote,r2⟩:=Zp1 (j:=j+12) w1.n3 O hd B w1.nrel
  have w2:=w1.noted r2
  have t2:=t1.noted r2
  obtain ⟨σ3,L3,hdone,tr3⟩:=Zob (j:=j+5) t2.s O hd B
  have t3:=t2.step tr3
  have w3:=w2.tr t2.o tr3
  obtain ⟨σ4,L4,hdone2,tr4⟩:=Zob (j:=j+5) t3.s2 O hd B
  have w4:=w3.tr t3.o2 tr4
  have t4:=(t3.symm.step tr4).symm
  have b190:=g'.b190 (Z6p hk' ble)
  have b200:=Z6p b190 (show 190≤200 from ble)
  exact ⟨_,σ4,L3,L4,Zhy H d,sp,Qj (Yr ed) (Qj (Qa (e_fn (.cons (Zc m1.nodes) (es3 (Zc m1.rows) (Zc (Zi ..)) (Znh m1.toNm t1.s O B.small))) hnote))
    (Qj (Zn (J0 (Zo (e_fn (es2 (Zc m1.story) (Zc (Zi ..))) hdone) (e_fn (es2 (Zc m1.again) (Zc (Zi ..))) hdone2) (Zem (Zsz H d) ble)) (Zhi t4.s m1.story m1.rows w4.rows b200)))
      (Qk (Zn (J0 (Zjb t4.s t4.s2 g'.hist (g'.b31 (Z6p hk' ble)) b190 m1.again m1.story) (Zo (Q0 t4.s (Zc m1.story) (es1 (Zc m1.again)) (Zs9 (H:=Zhy H d)▸Zj1 (j:=j+18) t4.s t4.s2 (.refl b200))) (Zpe Ze) (Zem (.int 0 _ _) ble))))))),⟨m1,t4,w4,g',Zpx O hd⟩,hle⟩
theorem Zmn (hc:cells.length≤40):∀ {is:List Nat} {σ:St} {L L2:Fld→Nat} {H:HC} {spot k:Nat} {ν:Fm},Lap2 fd nd rw st st2 cells k ν σ L L2 H spot→k+is.length≤20→spot+10*is.length≤5000→
    ∃ ν' σ' L' L2' H' s,ForR (j+20) none ["lap"] Zqs ((is.map nA).map λ x=>[x]) ν σ .next ν' σ'∧Lap2 fd nd rw st st2 cells (k+is.length) ν' σ' L' L2' H' s
  | [],σ,L,L2,H,spot,k,ν,P,_,_=>⟨ν,σ,L,L2,H,spot,.nil Zl,P⟩
  | i::is,σ,L,L2,H,spot,k,ν,P,hk,hsp=>by
    have e:k+(i::is).length=k+1+is.length:=by rw [Z7f,Z60,Nat.add_comm 1]
    rw [e] at hk ⊢
    rw [Z7f,Nat.mul_succ,Nat.add_comm (10*_),← Z60] at hsp
    obtain ⟨ν1,σ1,L1,L21,H1,s1,e1,P1,b1⟩:=Zu4 (j:=j) (i:=i) hc P (Z6p (Z6p (Nat.le_succ _) (Z6r _ _)) hk) (Z6p (Z6r _ _) (Z6p hsp ble))
    obtain ⟨ν2,σ2,L2',L22,H2,s2,e2,P2⟩:=Zmn hc (is:=is) P1 hk (Z6p (Z6x b1 _) hsp)
    exact ⟨ν2,σ2,L2',L22,H2,s2,.turn Zl rfl e1 e2,P2⟩
end
end PL
end
section
open PySem PySem.W
namespace PL
section
variable {j fd nd rw st st2 k:Nat} {σ σ':St} {L L2:Fld→Nat} {H H2:HC} {cells:List Int} {spot:Nat} {ν:Fm}
theorem Z1a:okW [101,110,100]:=Qo (by kernel_rfl)
theorem Zyl {is:List Int} (hl:is.length≤63) (hs:ν "script"=some (.lst (is.map .int))):
    ∃ fd nd rw st ν' σ' L,ExS (j+20) (.unp ["feed","nodes","rows","story"] (.tup [(.dct [(.str [99,101,108,108,115]),(.str [115,112,111,116])] [(.blt "list" [(.slc (.loc "script") (.cst .none) (.cst (.int 40)) (.cst .none))]),(.cst (.int 0))]),(.new []),(.new []),(.cls "Story" [])])) ν σ .next ν' σ'∧Lap fd nd rw st (is.take 40) 0 ν' σ' L Y4 0:=by
  have hll:(is.map AVal.int).length≤16000:=Zf (Z6p hl ble)
  have ed:EvE (j+20) (.dct [(.str [99,101,108,108,115]),(.str [115,112,111,116])] [(.blt "list" [(.slc (.loc "script") (.cst .none) (.cst (.int 40)) (.cst .none))]),(.cst (.int 0))]) ν σ (.ref σ.n) (σ.new (J9 (is.take 40) 0)):=
    Z6d (es2 ((Yl (es1 (Zbp (Zc hs) Qb Qb Qb (Zz0 (k:=40) (.lst _) hll))) (.list (.lst _) (by rw [List.length_take]; exact Z6p (Nat.min_le_left ..) ble))).eqv (w:=.lst ((is.take 40).map .int)) (by rw [List.map_take])) Ze) rfl (Z7y.mpr ⟨λ h=>Zex (Z7c.mp h),Z7y.mpr ⟨List.not_mem_nil,List.nodup_nil⟩⟩)
  obtain ⟨σ4,L,S⟩:=Zra (j+16) (((σ.new (J9 (is.take 40) 0)).new (.list [])).new (.list []))
  have old:∀ id,id < σ.n+3→σ4.f id=(((σ.new (J9 (is.take 40) 0)).new (.list [])).new (.list [])).f id:=S.old
  have lt0:σ.n < σ.n+1:=Z6z _
  have lt1:σ.n+1 < σ.n+2:=Z6z _
  have lt2:σ.n+2 < σ.n+3:=Z6z _
  have lt02:σ.n < σ.n+2:=Nat.lt_trans lt0 lt1
  have lt03:σ.n < σ.n+3:=Nat.lt_trans lt02 lt2
  have lt13:σ.n+1 < σ.n+3:=Nat.lt_trans lt1 lt2
  have f0:σ4.f σ.n=some (J9 (is.take 40) 0):=(old _ lt03).trans ((Y3 (σ:=(σ.new (J9 (is.take 40) 0)).new (.list [])) lt02).trans ((Y3 (σ:=σ.new (J9 (is.take 40) 0)) lt0).trans (Yz ..)))
  have f1:σ4.f (σ.n+1)=some (.list []):=(old _ lt13).trans ((Y3 (σ:=(σ.new (J9 (is.take 40) 0)).new (.list [])) lt1).trans (Yz (σ.new (J9 (is.take 40) 0)) _))
  have f2:σ4.f (σ.n+2)=some (.list []):=(old _ lt2).trans (Yz ((σ.new (J9 (is.take 40) 0)).new (.list [])) _)
  have le4:σ.n+3≤σ4.n:=S.n
  have out:∀ id,id < σ.n+3→Out σ4 L Y4 id:=λ id h=>⟨Z6t h le4,λ f hf e=>absurd (S.ge f hf) (Nat.not_le.mpr (e▸h))⟩
  exact ⟨σ.n,σ.n+1,σ.n+2,σ.n+3,_,σ4,L,Zoh (Yq (.cons ed (es3 (Zwg es0) (Zwg es0) (S.ev ν)))) (.tup _) rfl,
    ⟨by kernel_rfl,by kernel_rfl,by kernel_rfl,by kernel_rfl⟩,S.sty,⟨f0,f1,f2,Nat.ne_of_lt lt0,Nat.ne_of_lt lt02,Nat.ne_of_lt lt1⟩,⟨out _ lt03,out _ lt13,out _ lt2,Nat.ne_of_gt lt03,Nat.ne_of_gt lt13,Nat.ne_of_gt lt2⟩,.nil⟩
theorem Znf {x:String} (s:Sty σ st L H) (h:Hist H) (hl:H.rows.length≤200) (hx:ν x=some (.ref st)) (ht:ν "text"=some (.str (Yi H.rows))):EvE (j+20) (.cmp .NotEq (.mth (.loc x) "text" []) (.loc "text")) ν σ (.bool false) σ:=
  Zo (Q0 s (Zc hx) es0 (Zxr (j:=j+18) s h.wf hl)) (Zc ht) (Zem (.str 0 _ _) ble)
theorem Two.read (s:Sty σ st L H) (o:Apt σ fd nd rw st L H) (R:Z2q j σ H σ' st2 L2):Two σ' fd nd rw st st2 L L2 H H:=by
  have lt:∀ f,act H f→L f < σ.n:=s.rep.lt
  have o2:∀ id,id < σ.n→Out σ' L2 H id:=λ id h=>⟨Z6t h R.n,λ f hf e=>absurd (R.ge f hf) (Nat.not_le.mpr (e▸h))⟩
  have ne:∀ {id:Nat},id < σ.n→st2≠id:=λ h e=>absurd R.st (Nat.not_le.mpr (e▸h))
  exact ⟨s.keep (P:=(· < σ.n)) ⟨R.n,R.old⟩ lt s.out.lt,R.sty,o.up R.n,⟨o2 _ o.of.lt,o2 _ o.on.lt,o2 _ o.or.lt,ne o.of.lt,ne o.on.lt,ne o.or.lt⟩,λ f g hf hg=>Nat.ne_of_lt (Z6t (lt f hf) (R.ge g hg)),⟨R.sty.out.lt,λ f hf e=>absurd R.st (Nat.not_le.mpr (e▸lt f hf))⟩,o2 _ s.out.lt⟩
theorem Own.read (w:Own σ fd nd rw H cells spot) (o:Apt σ fd nd rw st L H) (R:Z2q j σ H σ' st2 L2):Own σ' fd nd rw H cells spot:=⟨(R.old _ o.of.lt).trans w.feed,(R.old _ o.on.lt).trans w.nodes,(R.old _ o.or.lt).trans w.rows,w.n1,w.n2,w.n3⟩
theorem Zp7 {rs rs2:List Row} {r:Row} (e:rs2=rs++[r]) (k:Nat) (a b:Row) (h1:rs2[k]? = some a) (h2:rs[k]? = some b):a=b:=by
  rw [e,List.getElem?_append_left (Zfm h2)] at h1
  exact Z7g (h1.symm.trans h2)
theorem Zta {n:Nat} (h1:H.rows.length=n+1) (h2:H2.rows.length=n):Zjo H H2=nA n∧Zjo H2 H=nA n:=by
  unfold Zjo
  rw [h1,h2,if_neg (Nat.succ_ne_self n),if_neg (Nat.succ_ne_self n).symm,Nat.min_eq_right (Nat.le_succ n),Nat.min_eq_left (Nat.le_succ n)]
  exact ⟨rfl,rfl⟩
theorem Z3a {is:List Int} (hl:is.length≤63):∃ σ',CallR (j+21) "law" [.lst (is.map .int)] σ (.bool true) σ':=by
  obtain ⟨fd,nd,rw,st,νa,σ1,L1,st1,P1⟩:=Zyl (j:=j) (σ:=σ) (ν:=upd (λ zz=>none) "script" (.lst (is.map .int))) hl (Zi ..)
  have hc:(is.take 40).length≤40:=by rw [List.length_take]; exact Nat.min_le_left ..
  generalize is.take 40=cells at*
  obtain ⟨d1,σ2,D1⟩:=Qg (j:=j+19) P1.w.feed (w:=8) ble ble hc
  have P2:Lap fd nd rw st cells 0 νa σ2 L1 Y4 1:=⟨P1.m,P1.s.fed P1.o D1.fed,P1.w.fed D1.fed,P1.o.up D1.fed.keeps.n,.nil⟩
  have hd1:3+d1≤10:=Z6w (Z65 D1.lt) 3
  have lr:∀ n:Nat,(List.range n).length=n:=λ n=>List.length_range
  obtain ⟨νb,σ3,L3,H3,s3,f3,P3,hs3,p3⟩:=Zqr (j:=j) hc (is:=List.range (3+d1)) P2 (by rw [lr,Nat.zero_add]; exact Z6p hd1 ble) (by rw [lr]; exact Z6p (Z6w (Nat.mul_le_mul_left 10 hd1) 1) ble) (λ e=>by have:=Z7r List.length e; rw [lr,Nat.add_comm] at this; exact nomatch this)
  rw [lr,Nat.zero_add] at P3
  rw [lr] at hs3
  rw [← Zai] at f3
  have g3:=P3.g
  have hs3':s3≤101:=Z6p hs3 (Z6w (Nat.mul_le_mul_left 10 hd1) 1)
  have b200:=Z6p (g3.b190 (Z6p hd1 ble)) (show 190≤200 from ble)
  have mc:Nm (upd νb "text" (.str (Yi H3.rows))) fd nd rw st:=P3.m.upd
  have tc:upd νb "text" (.str (Yi H3.rows)) "text"=some (.str (Yi H3.rows)):=Zi ..
  obtain ⟨σ4,st2,L4,R4⟩:=Z0z (j:=j+12) (σ:=σ3) g3.hist (Z6p (g3.b31 (Z6p hd1 ble)) ble) (g3.b190 (Z6p hd1 ble))
  have t4:=Two.read P3.s P3.o R4
  have w4:=P3.w.read P3.o R4
  have md:Nm2 (upd (upd νb "text" (.str (Yi H3.rows))) "again" (.ref st2)) fd nd rw st st2:=⟨⟨Za mc.feed,Za mc.nodes,Za mc.rows,Za mc.story⟩,Zi ..⟩
  have td:upd (upd νb "text" (.str (Yi H3.rows))) "again" (.ref st2) "text"=some (.str (Yi H3.rows)):=Za tc
  obtain ⟨d2,σ5,D2⟩:=Qg (j:=j+19) w4.feed (w:=3) ble (Z6p hs3' ble) hc
  have hd2:1+d2≤3:=Z6w (Z65 D2.lt) 1
  obtain ⟨νe,σ6,L6,L62,H6,s6,f6,P6⟩:=Zmn (j:=j) hc (is:=List.range (1+d2)) (k:=3+d1) ⟨md,t4.fed D2.fed,w4.fed D2.fed,g3,p3⟩ (by rw [lr]; exact Z6p (Nat.add_le_add hd1 hd2) ble) (by rw [lr]; exact Z6p (Nat.add_le_add (Z6v hs3') (Nat.mul_le_mul_left 10 hd2)) ble)
  rw [lr] at P6
  rw [← Zai] at f6
  have k13:3+d1+(1+d2)≤13:=Nat.add_le_add hd1 hd2
  have g6:=P6.g
  have b6:H6.rows.length≤190:=g6.b190 (Z6p k13 ble)
  have B6:=g6.bounds (Z6p k13 ble)
  obtain ⟨σ7,L7,hm,t7⟩:=Zf3 (j:=j+13) P6.t.s.rep g6.hist.okay B6.small b6 (Zdc Z1a) P6.pos P6.pos
  have M7:=g6.hist.okay.merge P6.pos P6.pos (.told [101,110,100])
  have t8:=P6.t.step t7
  have w8:=P6.w.tr P6.t.o t7
  generalize Qs H6 0 0 (.told [101,110,100])=H7 at*
  have len7:H7.rows.length=H6.rows.length+1:=by rw [M7.rows,Zd]
  have al:=Zta len7 rfl
  have l6:H6.rows.length≤200:=Z6p b6 ble
  have l7:H7.rows.length≤200:=by rw [len7]; exact Z6p (Z6v b6) ble
  have a1:=Zj1 (j:=j+18) t8.s t8.s2 ⟨l7,l6,Zp7 M7.rows⟩
  have a2:=Zj1 (j:=j+18) t8.s2 t8.s ⟨l6,l7,λ k a b h1 h2=>(Zp7 M7.rows k b a h2 h1).symm⟩
  rw [al.1] at a1
  rw [al.2] at a2
  have lenE:EvE (j+20) (.blt "len" [(.loc "rows")]) νe σ7 (nA H6.rows.length) σ7:=(Yl (es1 (Zc P6.m.rows)) (.len (.lst (.ref w8.rows)) (Zf (Z6p l6 ble)))).eqv (by rw [Z68])
  have eqE:CmpR σ7 .Eq (nA H6.rows.length) (nA H6.rows.length) true:=(CmpR.eq (.int 0 _ _) ble).eqv (dT rfl)
  exact ⟨σ7,Zg Z4o rfl (Zb st1 (Zb (Zhz (es1 (Znk (a:=3) Ze (e_fn (es2 (Zc P1.m.feed) Ze) D1.call))) (.rng (Z6p hd1 ble)) f3)
    (Zb (Yr (e_fn (es1 (Zc P3.m.rows)) (Zrw (j:=j+19) P3.w.rows g3.hist.wf b200)))
    (Zb (Zn (J0 (Zhi P3.s mc.story mc.rows P3.w.rows b200) (Znf P3.s g3.hist b200 mc.story tc)))
    (Zb (Yr (e_fn (es1 (Zc tc)) R4.call))
    (Zb (Zn (Zhj (Zhi t4.s2 md.again md.rows w4.rows b200) (Znf t4.s2 g3.hist b200 md.again td) (Zjb t4.s t4.s2 g3.hist (g3.b31 (Z6p hd1 ble)) (g3.b190 (Z6p hd1 ble)) md.again md.story)))
    (Zb (Zhz (es1 (Znk (a:=1) Ze (e_fn (es2 (Zc md.feed) Ze) D2.call))) (.rng (Z6p hd2 ble)) f6)
    (Zb (Qa (Q0 P6.t.s (Zc P6.m.story) (es3 Ze Ze (Yq (es2 Ze Ze))) (Zlz P6.t.s hm)))
    (Z0 (Jw (Zo (Q0 t8.s (Zc P6.m.story) (es1 (Zc P6.m.again)) a1) lenE eqE) (Zo (Q0 t8.s2 (Zc P6.m.again) (es1 (Zc P6.m.story)) a2) lenE eqE)))))))))))⟩
end
end PL
end
section
open PySem PySem.W PyProof.Rows
set_option maxRecDepth 1000000
set_option maxHeartbeats 0
namespace PL
noncomputable def Zy1 (s:SharedT):List Nat→Option Frag
  | []=>some []
  | a::r=>match Nat.blt a s.n,(s.tree.get a).bind alive,Zy1 s r with
    | true,some o,some K=>some ((a,o)::K)
    | _,_,_=>none
theorem Zq1 {s:SharedT}:∀ {as:List Nat} {K:Frag},Zy1 s as=some K→K.In s.abs.heap
  | [],K,h=>by cases h; intro a o e; cases e
  | a::r,K,h=>by
    unfold Zy1 at h
    split at h
    · rename_i o K' h1 h2 h3
      cases h
      intro b o' e
      rw [List.lookup_cons] at e
      split at e
      · rename_i q
        cases e
        rw [Z7u q]
        obtain ⟨o1,g1,g2⟩:=Option.bind_eq_some_iff.mp h2
        exact (abs_get (Z6y h1) g1).trans g2
      · exact Zq1 h3 b o' e
    · cases h
noncomputable def KOKT (s:SharedT):Bool:=match Zy1 s asL with | some K=>KOK K | none=>false
theorem Z2t {s:SharedT} (h:KOKT s=true):∃ K:Frag,K.In s.abs.heap∧KOK K=true:=by
  unfold KOKT at h
  split at h
  · rename_i K e; exact ⟨K,Zq1 e,h⟩
  · cases h
noncomputable abbrev pw:Program:=PySem.Challenge.pw_pq0086_01
abbrev rwL:OpenRow:=PySem.Challenge.rw_pq0086_01.row
noncomputable def qv:Program:={ pw with main:={ pw.main with body:=pw.main.body.filter λ st=>match st with | .Assign ..=>false | _=>true } }
noncomputable def XtL (s:Shared):Bool:=xlAt qv [] s&&recOk (RowW.records (OpenRow.toRowW rwL)) s
theorem runL:∀ (w:World) (os:OsState),(Zeh pw w 11 (some (.ref 6)) 8414 (Zwu w os) (topStub pw)).map (λ s=>Zqm pw qv [] XtL (λ zz=>()) (boot_heap w.params) s.abs)=some (true,openGood qv [],()):=λ w os=>by kernel_rfl
theorem runK:∀ (w:World) (os:OsState),(Zeh pw w 11 (some (.ref 6)) 8414 (Zwu w os) (topStub pw)).map KOKT=some true:=λ w os=>by kernel_rfl
def YL (s:Shared):Prop:=∃ K:Frag,K.In s.heap∧KOK K=true
theorem run2:∀ (w:World) (os:OsState),∃ s,Zeh pw w 11 (some (.ref 6)) 8414 (Zwu w os) (topStub pw)=some s∧Zqm pw qv [] XtL (λ zz=>()) (boot_heap w.params) s.abs=(true,openGood qv [],())∧YL s.abs:=λ w os=>by
  obtain ⟨s,h1,h2⟩:=Z7h.mp (runL w os)
  obtain ⟨s',h3,h4⟩:=Z7h.mp (runK w os)
  rw [h1] at h3
  cases h3
  exact ⟨s,h1,h2,Z2t h4⟩
theorem Z5u:opening pw=plainProg pw.main.scope.names:=by kernel_rfl
theorem Z4q (s:Shared):fenceModules? pw s=some s:=by kernel_rfl
theorem Zzn (P:Params):((boot_heap P).isNs mainGlobals,(boot_heap P).objs.size,(boot_heap P).nsMap mainGlobals "__annotations__")=(true,11,some (.ref 6)):=by kernel_rfl
end PL
end
section
open PySem PySem.W PyProof.Rows
set_option maxRecDepth 1000000
set_option maxHeartbeats 0
namespace PL
theorem hasL:(defOf qv rwL.name).isSome=true:=by kernel_rfl
noncomputable def dkL:DefRec×List (Str×Expr):=(defOf qv rwL.name).get hasL
theorem Z4l:defOf qv rwL.name=some (dkL.1,dkL.2):=by kernel_rfl
theorem hpL:rwL.prog.theDef rwL.name=some (dkL.1.params,dkL.1.body,dkL.1.scope):=by kernel_rfl
theorem hkL:kwWritten? dkL.1.params.kwonlyargs dkL.1.params.kw_defaults=some dkL.2:=by kernel_rfl
theorem Z5q:PySem.Challenge.rw_pq0086_01.wellSaid=true:=by kernel_rfl
theorem okL:(chainsOk qv&&opensWell rwL.prog&&(frees rwL.toRowW&&rwL.within.isEmpty))=true:=by kernel_rfl
theorem witL:rwL.toRowW.promised:=by
  w_on
  w_witness2
theorem Z6f:rwL.prog.bare:=⟨rfl,rfl,rfl,rfl,rfl,by decide +kernel⟩
theorem Z53:LeftO rwL.prog qv [] XtL YL (λ zz=>True) 8414:=Zmm Z5u rfl Z4q Zzn λ w os=>by
  obtain ⟨s,h1,h2,h3⟩:=run2 w os
  exact ⟨s,h1,h2,eq_true h3⟩
theorem Z1u (call:WalkO qv [] (XL qv []) (λ w h=>∃ K:Frag,K.In h∧KOK K=true) rwL.toRowW dkL.1 dkL.2 λ f vs=>PySem.call f vs):PySem.Challenge.rw_pq0086_01.Holds:=
  holds_law Z5q λ said=>holds_open (Xt:=XtL) Z53 (λ w s h=>of_eq_true h) (λ w h h' hK hk=>by obtain ⟨K,a,b⟩:=hK; exact ⟨K,λ x o e=>hk x o (a x o e),b⟩) (λ s e=>xl_of s (Bool.and_eq_true_iff.mp e).1) XL.keeps Z4l hpL hkL (λ s e=>recFacts_of (Bool.and_eq_true_iff.mp e).2) rfl said okL Z6f witL call
end PL
end
section
open PySem PySem.W PyProof.Rows
namespace PL
noncomputable def σ0:St:=⟨0,λ zz=>none⟩
noncomputable def W0 (s:Shared) (l:Addr) (o:Obj) (xs:List AVal):Wd:=λ a=>if a=l then .imm o (some (.lst xs)) else @Option.casesOn _ (λ zz=>Tag) (s.heap.get? a) .free λ o=>.imm o none
theorem Zlk {s:Shared} {l:Addr} {o:Obj} {xs:List AVal}:W0 s l o xs l=.imm o (some (.lst xs)):=if_pos rfl
theorem Z2n {s:Shared} {l a:Addr} {o:Obj} {xs:List AVal} (h:a≠l):W0 s l o xs a=@Option.casesOn _ (λ zz=>Tag) (s.heap.get? a) .free λ o=>.imm o none:=if_neg h
theorem Z5f {s:Shared} {l a:Addr} {o:Obj} {xs:List AVal}:(W0 s l o xs a).key=none:=by
  by_cases e:a=l
  · rw [e,Zlk]; rfl
  · rw [Z2n e]; cases s.heap.get? a <;> rfl
theorem Zys {W:Wd} {vs:List Value} {is:List Int} (h:IntsAre vs is):VRels W vs (is.map .int):=by
  induction h with
  | nil=>exact trivial
  | cons _ t _ ih=>exact ⟨⟨t,rfl⟩,ih⟩
theorem Zxi {X:Cx} {l:Addr} {vs:List Value} {is:List Int} (ho:X.s1.heap.get? l=some { cls:=.type "list",data:=.seq vs.toArray }) (hi:IntsAre vs is):Inv X (W0 X.s1 l { cls:=.type "list",data:=.seq vs.toArray } (is.map .int)) σ0 X.s1 where
  base:=⟨_,_,_,rfl⟩
  keep a o h:=by
    by_cases e:a=l
    · rw [e] at h ⊢; rw [← Z7g (ho.symm.trans h)]; exact ⟨_,Zlk⟩
    · exact ⟨none,(Z2n e).trans (by rw [h])⟩
  tag a:=by
    by_cases e:a=l
    · rw [e,Zlk]; exact ⟨ho,vs.toArray,_,rfl,by rw [List.toList_toArray]; exact Zys hi⟩
    · rw [Z2n e]
      cases h:X.s1.heap.get? a with
      | none=>exact trivial
      | some o=>exact ⟨h,trivial⟩
  uq a b k h _:=nomatch Z5f.symm.trans h
  fid id h:=absurd rfl h
theorem Z4e {j:Nat} (hj:AOK (2*(j+21)) callerA) {w:World} {s₁:Shared} {mg mb:Str→Option Value} {pv:Program} {loose:List Str} {mean:ExcName→Option Value} {K:Frag} (hk:KOK K=true) (KX:K.In s₁.heap) (T0:Top pv loose mean mg mb s₁.heap) {l:Addr} {vs:List Value} {is:List Int}
    (ho:s₁.heap.get? l=some { cls:=.type "list",data:=.seq vs.toArray }) (hi:IntsAre vs is) (hlen:is.length≤63) {R:Result→Shared→Prop} (hR:∀ s',(∀ b o,s₁.heap.get? b=some o→s'.heap.get? b=some o)→s'.os=s₁.os→s'.gens=s₁.gens→R (.ok (.ret (.bool true))) s'):
    codeAny (model PySem.Challenge.rw_pq0086_01.row.prog w) callerA (.call (.ref 639) ⟨[.ref l],[]⟩) R s₁:=by
  obtain ⟨σ',hl⟩:=Z3a (j:=j) (σ:=σ0) hlen
  refine hl.run (X:=⟨w,s₁,K,mg,mb,pgOK hk KX T0⟩) (by kernel_rfl) hj (Zxi (X:=⟨w,s₁,K,mg,mb,pgOK hk KX T0⟩) ho hi) ⟨⟨l,rfl,_,Zlk⟩,trivial⟩ λ W' v s' hle I' hv=>?_
  have hv':v=.bool true:=hv
  obtain ⟨h',tk,zz,rfl⟩:=I'.base
  rw [hv']
  exact hR _ (λ b o e=>I'.old b o e) rfl rfl
theorem Z50:dkL.1.name=Str.ofString "law":=(defOf_name Z4l).trans rfl
theorem Z55 {K:Frag} (hk:KOK K=true):nsIn K mainGlobals (Str.ofString "law")=some (some (.ref 639)):=by
  have h:=Y8 (and2 (and2 (and2 hk).2).1).1 (show "law"∈Zkr by decide)
  rw [show fnA "law"=some 639 by kernel_rfl] at h
  exact Ziz h
set_option maxHeartbeats 8000000 in
theorem glue {j:Nat} (hj:AOK (2*(j+21)) callerA):PySem.Challenge.rw_pq0086_01.Holds:=Z1u (by
  intro w s₀ s₁ mg mb G Y fa o pm cd doc dV kV ho hd hcd hD hmg hg args vals as hpre hlay hrd hwl hlo
  obtain ⟨K,KX,hk⟩:=Y
  refine Ground.open G ?_
  intro T B D TE TW
  have hfa:fa=639:=by
    have h1:=mg_of (n:=Str.ofString "law") (v:=.ref 639) KX T.g (Z55 hk)
    have h2:mg (Str.ofString "law")=some (.ref fa):=by rw [← Z50]; exact hmg
    rw [h1] at h2
    injection h2 with h2; injection h2 with h2; exact h2.symm
  clear hmg
  wrow_args hpre hlay hrd hwl hlo
  refine enter_call ?_
  subst hfa
  rename_i is hs hlay0 hL1 hr1 hl2 was was2 l vs was3 hL ra w1 r0 hI hr hcond1 hcond2
  have hlist:s₁.heap.get? l=some { cls:=.type "list",data:=.seq vs.toArray }:=by
    have w2:Well w.params s₁.heap (.ref l) (.list (ofPys (List.map PyData.int is))):=w1
    obtain ⟨o',ho',hc',n',hd'⟩:=hL
    cases w2 with
    | list ho2 hw2=>
      rw [ho2] at ho'; cases ho'
      rename_i vs2
      have:vs2.toArray=vs.toArray:=by injection hd'
      rw [ho2,this]
  refine Z4e hj hk KX T hlist hI (by omega) λ s' hk hos hge=>?_
  refine GoodW.toG ⟨.inl ⟨.bool true,.bool true,[],rfl,?_,.bool true,?_,?_⟩,hk,hos,hge.trans hg⟩
  · intro cls; rfl
  · wrow_post
  · intro h; exact ⟨List.nodup_nil,λ a ha=>absurd ha List.not_mem_nil⟩)
end PL
end
section
open PySem PySem.W PyProof.Rows
namespace PL
theorem Zzk:AOK (2*(0+21)) callerA:=⟨rfl,by decide +kernel,by decide +kernel⟩
theorem holds01:PySem.Challenge.rw_pq0086_01.Holds:=glue Zzk
end PL
end
theorem PySem.Challenge.cw_pq0086_01_holds : PySem.Challenge.rw_pq0086_01.Holds :=
  PL.holds01
